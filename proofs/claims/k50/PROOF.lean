import PyProof.Rows.All
import Wide.All
import OpenK.AllK
import Wide.FinOn
import HandS.ForMost
import HandS.Walk
import HandS.TupLen
import HandS.Star
import HandS.Conv
import KE.KeyNested
import KE.KDictWalk
import KE.KDictCopyH
import KE.KDictDisplayH
import KE.KDictList
import HandS.TupAny
import HandS.TupLe
import HandS.Deep
import HandS.Style
import HandS.IsInst
import HandS.SortInts
import HandS.DictComp
import KE.GoesEnum
import HandS.Zip
import HandS.TupMul
import HandS.SetKeys
import HandS.TupSets
import KE.SortData
import KE.DataMinMax
import HandS.SetFor
import HandS.Strs
import KE.KTupSum
import KE.GoesNew
import KE.GoesMore
import HandS.Rev
import PySem.Challenge.RW_mexrooms_k50_whole_polars
set_option Elab.async false
set_option linter.all false
set_option maxRecDepth 100000
set_option maxHeartbeats 4000000
/-! Mx: denotations of expressions and statements over pure data, and their soundness over the hand layer. -/
namespace Mx
open PySem PySem.Spec PyProof.Rows L2

abbrev Dat := PyData

/-! ### dicts by data: keys -/
mutual
def nkD : Dat → NestedKey
  | .none => .none
  | .bool b => .num (if b = true then 1 else 0)
  | .int i => .num i
  | .str x => .text x
  | .tuple ds => .tup (nkL ds)
  | _ => .none
def nkL : List Dat → List NestedKey
  | [] => []
  | d :: ds => nkD d :: nkL ds
end
mutual
def kyD : Dat → Bool
  | .none => true
  | .int _ => true
  | .tuple ds => kyL ds
  | _ => false
def kyL : List Dat → Bool
  | [] => true
  | d :: ds => kyD d && kyL ds
end
def isTupD : Dat → Bool
  | .tuple _ => true
  | _ => false
/-- a tuple that can be a key -/
def tkD (d : Dat) : Bool := isTupD d && kyD d && decide ((nkD d).depth ≤ 8)
structure DOk (kvs : List (Dat × Dat)) : Prop where
  keys : ∀ p ∈ kvs, tkD p.1 = true
  nd : (kvs.map fun p => nkD p.1).Nodup
/-- a dict whose entries are told one by one -/
def DO (a : Addr) (es : List DictEntry) (ep : Nat) : HO := .ext fun h => (a == sysModules) = false ∧ h.DictRaw a es.toArray ep
/-! ### data in the heap -/
mutual
inductive Rp (H : Hp) : V → Dat → Prop
  | non : Rp H .non .none
  | bl (b : Bool) : Rp H (.bl b) (.bool b)
  | int (i : Int) : Rp H (.int i) (.int i)
  | str (x : Str) : Rp H (.str x) (.str x)
  | lst {a : Addr} {vs : List V} {ds : List Dat} : H a = some (.lst vs) → vs.length ≤ sizeLine → RpL H vs ds → Rp H (.ref a) (.list ds)
  | tup {a : Addr} {vs : List V} {ds : List Dat} : H a = some (.tup vs) → vs.length ≤ sizeLine → RpL H vs ds → Rp H (.ref a) (.tuple ds)
  | dct {a : Addr} {es : List DictEntry} {ep : Nat} {kvs : List (Dat × Dat)} : H a = some (DO a es ep) → es.length ≤ sizeLine → DOk kvs → RpE H es kvs → Rp H (.ref a) (.dict kvs)
  | dkk {a : Addr} {vs : List (Key × V)} {kvs : List (Dat × Dat)} : H a = some (.dK vs) → RpK H vs kvs → Rp H (.ref a) (.dict kvs)
inductive RpL (H : Hp) : List V → List Dat → Prop
  | nil : RpL H [] []
  | cons {v : V} {vs : List V} {d : Dat} {ds : List Dat} : Rp H v d → RpL H vs ds → RpL H (v :: vs) (d :: ds)
inductive RpE (H : Hp) : List DictEntry → List (Dat × Dat) → Prop
  | nil : RpE H [] []
  | cons {e : DictEntry} {es : List DictEntry} {v u : V} {k d : Dat} {kvs : List (Dat × Dat)} : RelV v e.key → Rp H v k → (∀ w, e.hash = (nkD k).hash w) → RelV u e.val → Rp H u d → RpE H es kvs → RpE H (e :: es) ((k, d) :: kvs)
inductive RpK (H : Hp) : List (Key × V) → List (Dat × Dat) → Prop
  | nil : RpK H [] []
  | cons {k : Int} {v : V} {vs : List (Key × V)} {d : Dat} {kvs : List (Dat × Dat)} : Rp H v d → RpK H vs kvs → RpK H ((.inl k, v) :: vs) ((.int k, d) :: kvs)
end

def Sub (H H' : Hp) : Prop := ∀ a o, H a = some o → H' a = some o
theorem Sub.refl (H : Hp) : Sub H H := fun _ _ h => h
theorem Sub.trans {H H1 H2 : Hp} (a : Sub H H1) (b : Sub H1 H2) : Sub H H2 := fun x o h => b x o (a x o h)

mutual
theorem Rp.mono {H H' : Hp} (s : Sub H H') : ∀ {v : V} {d : Dat}, Rp H v d → Rp H' v d
  | _, _, .non => .non
  | _, _, .bl b => .bl b
  | _, _, .int i => .int i
  | _, _, .str x => .str x
  | _, _, .lst e l r => .lst (s _ _ e) l (RpL.mono s r)
  | _, _, .tup e l r => .tup (s _ _ e) l (RpL.mono s r)
  | _, _, .dct e l k r => .dct (s _ _ e) l k (RpE.mono s r)
  | _, _, .dkk e r => .dkk (s _ _ e) (RpK.mono s r)
theorem RpL.mono {H H' : Hp} (s : Sub H H') : ∀ {vs : List V} {ds : List Dat}, RpL H vs ds → RpL H' vs ds
  | _, _, .nil => .nil
  | _, _, .cons a b => .cons (Rp.mono s a) (RpL.mono s b)
theorem RpE.mono {H H' : Hp} (s : Sub H H') : ∀ {es : List DictEntry} {kvs : List (Dat × Dat)}, RpE H es kvs → RpE H' es kvs
  | _, _, .nil => .nil
  | _, _, .cons a b c d e f => .cons a (Rp.mono s b) c d (Rp.mono s e) (RpE.mono s f)
theorem RpK.mono {H H' : Hp} (s : Sub H H') : ∀ {vs : List (Key × V)} {kvs : List (Dat × Dat)}, RpK H vs kvs → RpK H' vs kvs
  | _, _, .nil => .nil
  | _, _, .cons a b => .cons (Rp.mono s a) (RpK.mono s b)
end
theorem RpE.length {H : Hp} : ∀ {es : List DictEntry} {kvs : List (Dat × Dat)}, RpE H es kvs → es.length = kvs.length
  | _, _, .nil => rfl
  | _, _, .cons _ _ _ _ _ b => by simp [RpE.length b]
theorem RpK.length {H : Hp} : ∀ {vs : List (Key × V)} {kvs : List (Dat × Dat)}, RpK H vs kvs → vs.length = kvs.length
  | _, _, .nil => rfl
  | _, _, .cons _ b => by simp [RpK.length b]
theorem RpL.length {H : Hp} : ∀ {vs : List V} {ds : List Dat}, RpL H vs ds → vs.length = ds.length
  | _, _, .nil => rfl
  | _, _, .cons _ b => by simp [RpL.length b]
theorem RpL.get {H : Hp} : ∀ {vs : List V} {ds : List Dat} {i : Nat} {d : Dat}, RpL H vs ds → ds[i]? = some d → ∃ v, vs[i]? = some v ∧ Rp H v d
  | _, _, _, _, .nil, h => by simp at h
  | _, _, 0, _, .cons a _, h => by
    simp at h
    subst h
    exact ⟨_, rfl, a⟩
  | _, _, i + 1, _, .cons _ b, h => by
    obtain ⟨v, e, r⟩ := RpL.get (i := i) b (by simpa using h)
    exact ⟨v, by simpa using e, r⟩
theorem RpL.append {H : Hp} : ∀ {vs ws : List V} {ds es : List Dat}, RpL H vs ds → RpL H ws es → RpL H (vs ++ ws) (ds ++ es)
  | _, _, _, _, .nil, h => h
  | _, _, _, _, .cons a b, h => .cons a (RpL.append b h)
theorem RpL.take {H : Hp} : ∀ {vs : List V} {ds : List Dat} (n : Nat), RpL H vs ds → RpL H (vs.take n) (ds.take n)
  | _, _, 0, _ => by simp; exact .nil
  | _, _, _ + 1, .nil => .nil
  | _, _, n + 1, .cons a b => .cons a (RpL.take n b)
theorem RpL.drop {H : Hp} : ∀ {vs : List V} {ds : List Dat} (n : Nat), RpL H vs ds → RpL H (vs.drop n) (ds.drop n)
  | _, _, 0, h => h
  | _, _, _ + 1, .nil => .nil
  | _, _, n + 1, .cons _ b => RpL.drop n b
theorem RpL.set {H : Hp} {v : V} {d : Dat} (h : Rp H v d) : ∀ {vs : List V} {ds : List Dat} (i : Nat), RpL H vs ds → RpL H (vs.set i v) (ds.set i d)
  | _, _, _, .nil => .nil
  | _, _, 0, .cons _ b => .cons h b
  | _, _, i + 1, .cons a b => .cons a (RpL.set h i b)
theorem RpL.eraseIdx {H : Hp} : ∀ {vs : List V} {ds : List Dat} (i : Nat), RpL H vs ds → RpL H (vs.eraseIdx i) (ds.eraseIdx i)
  | _, _, _, .nil => .nil
  | _, _, 0, .cons _ b => b
  | _, _, i + 1, .cons a b => .cons a (RpL.eraseIdx i b)
theorem RpL.snoc {H : Hp} {vs : List V} {ds : List Dat} {v : V} {d : Dat} (h : RpL H vs ds) (r : Rp H v d) : RpL H (vs ++ [v]) (ds ++ [d]) := h.append (.cons r .nil)
theorem RpL.ints {H : Hp} : ∀ ns : List Int, RpL H (ns.map V.int) (ns.map PyData.int)
  | [] => .nil
  | n :: r => .cons (.int n) (RpL.ints r)
theorem RpL.reverse {H : Hp} : ∀ {vs : List V} {ds : List Dat}, RpL H vs ds → RpL H vs.reverse ds.reverse
  | _, _, .nil => .nil
  | _, _, .cons a b => by
    rw [List.reverse_cons, List.reverse_cons]
    exact (RpL.reverse b).snoc a
theorem RpL.replicate {H : Hp} {vs : List V} {ds : List Dat} (h : RpL H vs ds) : ∀ n : Nat, RpL H (List.replicate n vs).flatten (List.replicate n ds).flatten
  | 0 => .nil
  | n + 1 => by
    rw [List.replicate_succ, List.replicate_succ, List.flatten_cons, List.flatten_cons]
    exact h.append (RpL.replicate h n)

mutual
/-- no dict at any place -/
def nodD : Dat → Bool
  | .none => true
  | .bool _ => true
  | .int _ => true
  | .str _ => true
  | .list xs => nodL xs
  | .tuple xs => nodL xs
  | .dict _ => false
def nodL : List Dat → Bool
  | [] => true
  | d :: ds => nodD d && nodL ds
end
mutual
theorem Rp.dp {K : PySem.W.Frag} {H : Hp} : ∀ {v : V} {d : Dat}, Rp H v d → nodD d = true → Dp K H v d
  | _, _, .non, _ => .non
  | _, _, .bl b, _ => .bl b
  | _, _, .int i, _ => .int i
  | _, _, .str x, _ => .str x
  | _, _, .lst e _ r, h => .lst (SqL.of e) (RpL.dp r h)
  | _, _, .tup e _ r, h => .tup (SqT.of e) (RpL.dp r h)
theorem RpL.dp {K : PySem.W.Frag} {H : Hp} : ∀ {vs : List V} {ds : List Dat}, RpL H vs ds → nodL ds = true → DpAll K H vs ds
  | _, _, .nil, _ => .nil
  | _, _, .cons a b, h => .cons (Rp.dp a (Bool.and_eq_true _ _ ▸ h).1) (RpL.dp b (Bool.and_eq_true _ _ ▸ h).2)
end

/-! ### cells, slots, results -/
inductive Cell
  | lst (xs : List Dat)
  | lsl (xss : List (List Dat))
  | dK (kvs : List (Key × Dat))
  | dT (kvs : List (List Key × Dat))
  | dD (kvs : List (Dat × Dat))
  | row
  | dead
inductive EV
  | dat (d : Dat)
  | ref (i : Nat)
abbrev Env := List (Option EV)
abbrev Sto := List Cell
structure Exc where
  cls : Nat
  flds : List Dat

inductive R (α : Type) : Type
  | ok (a : α) (s : Sto)
  | ex (e : Exc) (s : Sto)
  | fail
  | pick (n : Nat) (f : Nat → R α)
  | any (p : Dat → Prop) (f : Dat → R α)
namespace R
def bind {α β : Type} : R α → (α → Sto → R β) → R β
  | .ok a s, f => f a s
  | .ex e s, _ => .ex e s
  | .fail, _ => .fail
  | .pick n g, f => .pick n fun i => (g i).bind f
  | .any p g, f => .any p fun d => (g d).bind f
def wp {α : Type} : R α → (α → Sto → Prop) → (Exc → Sto → Prop) → Prop
  | .ok a s, Q, _ => Q a s
  | .ex e s, _, E => E e s
  | .fail, _, _ => False
  | .pick n g, Q, E => ∀ i, i < n → (g i).wp Q E
  | .any p g, Q, E => ∀ d, p d → (g d).wp Q E
theorem wp_bind {α β : Type} {f : α → Sto → R β} {Q : β → Sto → Prop} {E : Exc → Sto → Prop} : ∀ r : R α, (r.bind f).wp Q E ↔ r.wp (fun a s => (f a s).wp Q E) E
  | .ok a s => Iff.rfl
  | .ex e s => Iff.rfl
  | .fail => Iff.rfl
  | .pick n g => ⟨fun h i hi => (wp_bind (g i)).mp (h i hi), fun h i hi => (wp_bind (g i)).mpr (h i hi)⟩
  | .any p g => ⟨fun h d hd => (wp_bind (g d)).mp (h d hd), fun h d hd => (wp_bind (g d)).mpr (h d hd)⟩
theorem wp_mono {α : Type} {Q Q' : α → Sto → Prop} {E E' : Exc → Sto → Prop} (hQ : ∀ a s, Q a s → Q' a s) (hE : ∀ e s, E e s → E' e s) : ∀ r : R α, r.wp Q E → r.wp Q' E'
  | .ok a s, h => hQ a s h
  | .ex e s, h => hE e s h
  | .fail, h => h
  | .pick n g, h => fun i hi => wp_mono hQ hE (g i) (h i hi)
  | .any p g, h => fun d hd => wp_mono hQ hE (g d) (h d hd)
def ofOpt {α : Type} (o : Option α) (s : Sto) : R α := match o with
  | some a => .ok a s
  | none => .fail
theorem wp_ofOpt {α : Type} {o : Option α} {s : Sto} {Q : α → Sto → Prop} {E : Exc → Sto → Prop} (h : (ofOpt o s).wp Q E) : ∃ a, o = some a ∧ Q a s := by
  cases o with
  | none => exact h.elim
  | some a => exact ⟨a, rfl, h⟩
end R

abbrev Mu := List (List Addr)
def off (l : List Addr) (H : Hp) : Hp := fun a => if a ∈ l then none else H a
theorem off_some {l : List Addr} {H : Hp} {a : Addr} {o : HO} (h : off l H a = some o) : a ∉ l ∧ H a = some o := by
  unfold off at h
  split at h
  · cases h
  · exact ⟨by assumption, h⟩
theorem off_of {l : List Addr} {H : Hp} {a : Addr} {o : HO} (h : H a = some o) (n : a ∉ l) : off l H a = some o := by
  unfold off
  rw [if_neg n]
  exact h
theorem off_sub (l : List Addr) (H : Hp) : Sub (off l H) H := fun _ _ h => (off_some h).2
/-- what may be leant upon: all but the cells and what others own -/
abbrev hf (ex : List Addr) (μ : Mu) (H : Hp) : Hp := off (ex ++ μ.flatten) H
def EvR (Hf : Hp) (μ : Mu) (v : V) : EV → Prop
  | .dat d => Rp Hf v d
  | .ref i => ∃ a r, μ[i]? = some (a :: r) ∧ v = .ref a
def kvR (Hf : Hp) {κ : Type} (p : κ × V) (q : κ × Dat) : Prop := p.1 = q.1 ∧ Rp Hf p.2 q.2
def CellR (K : PySem.W.Frag) (H Hf : Hp) (as : List Addr) : Cell → Prop
  | .lst xs => ∃ a vs, as = [a] ∧ H a = some (.lst vs) ∧ vs.length ≤ sizeLine ∧ RpL Hf vs xs
  | .lsl xss => ∃ a bs, as = a :: bs ∧ H a = some (.lst (bs.map V.ref)) ∧ bs.length ≤ sizeLine ∧ Paired (fun b xs => ∃ vs, H b = some (.lst vs) ∧ vs.length ≤ sizeLine ∧ RpL Hf vs xs) bs xss
  | .dK kvs => ∃ a vs, as = [a] ∧ H a = some (.dK vs) ∧ Paired (kvR Hf) vs kvs
  | .dT kvs => ∃ a vs, as = [a] ∧ H a = some (.dT vs) ∧ Paired (kvR Hf) vs kvs
  | .dD kvs => ∃ a es ep, as = [a] ∧ H a = some (DO a es ep) ∧ es.length ≤ sizeLine ∧ DOk kvs ∧ RpE Hf es kvs
  | .row => ∃ (a l : Addr) (ns : List Int) (i x y : Int), as = [a] ∧ H a = some (.lst [.ref l, .int i, .int x, .int y]) ∧ SqL K Hf l (ns.map V.int) ∧ 0 ≤ i ∧ 0 ≤ x ∧ x < 2147483647
  | .dead => as = []

structure StoR (K : PySem.W.Frag) (ex : List Addr) (μ : Mu) (H : Hp) (sto : Sto) : Prop where
  nd : μ.flatten.Nodup
  len : μ.length = sto.length
  cells : ∀ (i : Nat) as c, μ[i]? = some as → sto[i]? = some c → CellR K H (hf ex μ H) as c
  dis : ∀ a ∈ ex, a ∉ μ.flatten
  alive : ∀ a ∈ ex, H a ≠ none
def EnvR (Hf : Hp) (μ : Mu) (σ : L2.St) (env : Env) : Prop := σ.length = env.length ∧ ∀ (i : Nat) e, env[i]? = some (some e) → ∃ v, σ[i]? = some (some v) ∧ EvR Hf μ v e

/-- from one state to a later one -/
structure Fwd (μ : Mu) (H : Hp) (μ' : Mu) (H' : Hp) : Prop where
  keep : ∀ a o, a ∉ μ.flatten → H a = some o → H' a = some o
  fresh : ∀ a ∈ μ'.flatten, a ∈ μ.flatten ∨ H a = none
  ids : ∀ (i : Nat) as, μ[i]? = some as → μ'[i]? = some as ∨ μ'[i]? = some []
/-- .. without a cell given up -/
structure FwdE (μ : Mu) (H : Hp) (μ' : Mu) (H' : Hp) : Prop where
  keep : ∀ a o, a ∉ μ.flatten → H a = some o → H' a = some o
  fresh : ∀ a ∈ μ'.flatten, a ∈ μ.flatten ∨ H a = none
  ext : ∃ ν, μ' = μ ++ ν
theorem FwdE.fwd {μ : Mu} {H : Hp} {μ' : Mu} {H' : Hp} (f : FwdE μ H μ' H') : Fwd μ H μ' H' := ⟨f.keep, f.fresh, fun i as h => by
  obtain ⟨ν, rfl⟩ := f.ext
  have hi : i < μ.length := (List.getElem?_eq_some_iff.mp h).1
  exact .inl (by rw [List.getElem?_append_left hi]; exact h)⟩
theorem Fwd.refl (μ : Mu) (H : Hp) : Fwd μ H μ H := ⟨fun _ _ _ h => h, fun _ h => .inl h, fun _ _ h => .inl h⟩
theorem FwdE.refl (μ : Mu) (H : Hp) : FwdE μ H μ H := ⟨fun _ _ _ h => h, fun _ h => .inl h, ⟨[], by simp⟩⟩
theorem Fwd.trans {μ μ1 μ2 : Mu} {H H1 H2 : Hp} (f : Fwd μ H μ1 H1) (g : Fwd μ1 H1 μ2 H2) : Fwd μ H μ2 H2 where
  keep := fun a o n h => g.keep a o (fun z => by
    rcases f.fresh a z with q | q
    · exact n q
    · rw [q] at h; cases h) (f.keep a o n h)
  fresh := fun a h => by
    rcases g.fresh a h with q | q
    · exact f.fresh a q
    · by_cases n : a ∈ μ.flatten
      · exact .inl n
      · right
        cases e : H a with
        | none => rfl
        | some o => rw [f.keep a o n e] at q; cases q
  ids := fun i as h => by
    rcases f.ids i as h with q | q
    · exact g.ids i as q
    · rcases g.ids i [] q with r | r <;> exact .inr r
theorem FwdE.trans {μ μ1 μ2 : Mu} {H H1 H2 : Hp} (f : FwdE μ H μ1 H1) (g : FwdE μ1 H1 μ2 H2) : FwdE μ H μ2 H2 where
  keep := (f.fwd.trans g.fwd).keep
  fresh := (f.fwd.trans g.fwd).fresh
  ext := by
    obtain ⟨a, rfl⟩ := f.ext
    obtain ⟨b, rfl⟩ := g.ext
    exact ⟨a ++ b, by simp⟩
theorem Fwd.sub {ex : List Addr} {μ : Mu} {H : Hp} {μ' : Mu} {H' : Hp} (f : Fwd μ H μ' H') : Sub (hf ex μ H) (hf ex μ' H') := fun a o h => by
  obtain ⟨n, e⟩ := off_some h
  rw [List.mem_append, not_or] at n
  refine off_of (f.keep a o n.2 e) ?_
  rw [List.mem_append, not_or]
  refine ⟨n.1, fun z => ?_⟩
  rcases f.fresh a z with q | q
  · exact n.2 q
  · rw [q] at e; cases e
theorem EvR.mono {Hf Hf' : Hp} {μ μ' : Mu} {v : V} {e : EV} (s : Sub Hf Hf') (x : ∃ ν, μ' = μ ++ ν) (h : EvR Hf μ v e) : EvR Hf' μ' v e := by
  cases e with
  | dat d => exact Rp.mono s h
  | ref i =>
    obtain ⟨a, r, e, z⟩ := h
    obtain ⟨ν, rfl⟩ := x
    have hi : i < μ.length := (List.getElem?_eq_some_iff.mp e).1
    exact ⟨a, r, by rw [List.getElem?_append_left hi]; exact e, z⟩
theorem EvR.fwd {ex : List Addr} {μ : Mu} {H : Hp} {μ' : Mu} {H' : Hp} {v : V} {e : EV} (f : FwdE μ H μ' H') (h : EvR (hf ex μ H) μ v e) : EvR (hf ex μ' H') μ' v e := h.mono f.fwd.sub f.ext
theorem EnvR.fwd {ex : List Addr} {μ : Mu} {H : Hp} {μ' : Mu} {H' : Hp} {σ : L2.St} {env : Env} (f : FwdE μ H μ' H') (h : EnvR (hf ex μ H) μ σ env) : EnvR (hf ex μ' H') μ' σ env :=
  ⟨h.1, fun i e q => by
    obtain ⟨v, a, b⟩ := h.2 i e q
    exact ⟨v, a, b.fwd f⟩⟩

theorem mem_flat {μ : Mu} {i : Nat} {as : List Addr} {a : Addr} (h : μ[i]? = some as) (m : a ∈ as) : a ∈ μ.flatten := List.mem_flatten.mpr ⟨as, List.mem_of_getElem? h, m⟩
theorem StoR.live {K : PySem.W.Frag} {ex : List Addr} {μ : Mu} {H : Hp} {sto : Sto} (S : StoR K ex μ H sto) {a : Addr} (h : a ∈ μ.flatten) : H a ≠ none := by
  obtain ⟨as, m, ma⟩ := List.mem_flatten.mp h
  obtain ⟨i, hi⟩ := List.mem_iff_getElem?.mp m
  have hl : i < sto.length := by rw [← S.len]; exact (List.getElem?_eq_some_iff.mp hi).1
  have c := S.cells i as _ hi (List.getElem?_eq_getElem hl)
  generalize sto[i] = z at c
  cases z with
  | lst xs =>
    obtain ⟨b, vs, rfl, e, _⟩ := c
    rw [List.mem_singleton] at ma
    subst ma
    rw [e]
    exact fun q => nomatch q
  | lsl xss =>
    obtain ⟨b, bs, rfl, e, _, p⟩ := c
    rcases List.mem_cons.mp ma with q | q
    · subst q
      rw [e]
      exact fun q => nomatch q
    · have : ∀ {l : List Addr} {yss : List (List Dat)}, Paired (fun b xs => ∃ vs, H b = some (.lst vs) ∧ vs.length ≤ sizeLine ∧ RpL (hf ex μ H) vs xs) l yss → a ∈ l → H a ≠ none := by
        intro l yss p
        induction p with
        | nil => intro q; cases q
        | cons r t ih =>
          intro q
          rcases List.mem_cons.mp q with z | z
          · subst z
            obtain ⟨vs, e, _⟩ := r
            rw [e]
            exact fun q => nomatch q
          · exact ih z
      exact this p q
  | dK kvs =>
    obtain ⟨b, vs, rfl, e, _⟩ := c
    rw [List.mem_singleton] at ma
    subst ma
    rw [e]
    exact fun q => nomatch q
  | dT kvs =>
    obtain ⟨b, vs, rfl, e, _⟩ := c
    rw [List.mem_singleton] at ma
    subst ma
    rw [e]
    exact fun q => nomatch q
  | dD kvs =>
    obtain ⟨b, es, ep, rfl, e, _⟩ := c
    rw [List.mem_singleton] at ma
    subst ma
    rw [e]
    exact fun q => nomatch q
  | row =>
    obtain ⟨b, l, ns, i, x, y, rfl, e, _⟩ := c
    rw [List.mem_singleton] at ma
    subst ma
    rw [e]
    exact fun q => nomatch q
  | dead =>
    have c' : as = [] := c
    subst c'
    cases ma
theorem StoR.out {K : PySem.W.Frag} {ex : List Addr} {μ : Mu} {H : Hp} {sto : Sto} (S : StoR K ex μ H sto) {p : Addr} (h : H p = none) : p ∉ ex ++ μ.flatten := fun z => by
  rcases List.mem_append.mp z with q | q
  · exact S.alive p q h
  · exact S.live q h
/-- back in time a new address was new -/
theorem FwdE.back {K : PySem.W.Frag} {ex : List Addr} {μ : Mu} {H : Hp} {μ' : Mu} {H' : Hp} {sto : Sto} (f : FwdE μ H μ' H') (S : StoR K ex μ' H' sto) {p : Addr} (h : H' p = none) : H p = none := by
  cases e : H p with
  | none => rfl
  | some o =>
    by_cases n : p ∈ μ.flatten
    · obtain ⟨ν, rfl⟩ := f.ext
      exact absurd h (S.live (by rw [List.flatten_append]; exact List.mem_append_left _ n))
    · rw [f.keep p o n e] at h; cases h

theorem paired_mono {α β : Type} {F G : α → β → Prop} {l : List α} {m : List β} (h : Paired F l m) (hfg : ∀ a b, F a b → G a b) : Paired G l m := Paired.mapP h hfg
theorem paired_mem {α β : Type} {F G : α → β → Prop} : ∀ {l : List α} {m : List β}, Paired F l m → (∀ a b, a ∈ l → F a b → G a b) → Paired G l m
  | _, _, .nil, _ => .nil
  | _, _, .cons r t, h => .cons (h _ _ List.mem_cons_self r) (paired_mem t fun a b m => h a b (List.mem_cons_of_mem _ m))
/-- a cell's description where its own objects stand as they stood and the rest has grown -/
theorem CellR.mono {K : PySem.W.Frag} {H H' Hf Hf' : Hp} {as : List Addr} {c : Cell} (h : CellR K H Hf as c) (k : ∀ a ∈ as, H' a = H a) (s : Sub Hf Hf') : CellR K H' Hf' as c := by
  cases c with
  | lst xs =>
    obtain ⟨a, vs, rfl, e, z, r⟩ := h
    exact ⟨a, vs, rfl, by rw [k a (by simp)]; exact e, z, r.mono s⟩
  | lsl xss =>
    obtain ⟨a, bs, rfl, e, z, p⟩ := h
    refine ⟨a, bs, rfl, by rw [k a (by simp)]; exact e, z, paired_mem p fun b xs m ⟨vs, e, z, r⟩ => ⟨vs, by rw [k b (by simp [m])]; exact e, z, r.mono s⟩⟩
  | dK kvs =>
    obtain ⟨a, vs, rfl, e, p⟩ := h
    exact ⟨a, vs, rfl, by rw [k a (by simp)]; exact e, paired_mono p fun _ _ q => ⟨q.1, q.2.mono s⟩⟩
  | dT kvs =>
    obtain ⟨a, vs, rfl, e, p⟩ := h
    exact ⟨a, vs, rfl, by rw [k a (by simp)]; exact e, paired_mono p fun _ _ q => ⟨q.1, q.2.mono s⟩⟩
  | dD kvs =>
    obtain ⟨a, es, ep, rfl, e, z, n, p⟩ := h
    exact ⟨a, es, ep, rfl, by rw [k a (by simp)]; exact e, z, n, p.mono s⟩
  | row =>
    obtain ⟨a, l, ns, i, x, y, rfl, e, q, r⟩ := h
    refine ⟨a, l, ns, i, x, y, rfl, by rw [k a (by simp)]; exact e, ?_, r⟩
    rcases q with (q | ⟨o, q⟩) | q
    · exact .inl (.inl (s _ _ q))
    · exact .inl (.inr ⟨o, s _ _ q⟩)
    · exact .inr q
  | dead => exact h
/-- a new object beside the cells -/
theorem StoR.laid {K : PySem.W.Frag} {ex : List Addr} {μ : Mu} {H : Hp} {sto : Sto} (S : StoR K ex μ H sto) {p : Addr} {o : HO} (h : H p = none) : StoR K ex μ (upd H p o) sto ∧ FwdE μ H μ (upd H p o) := by
  have k : ∀ a u, H a = some u → upd H p o a = some u := fun a u e => by rw [upd_ne (ne_of_none e h)]; exact e
  have F : FwdE μ H μ (upd H p o) := ⟨fun a u _ e => k a u e, fun a q => .inl q, ⟨[], by simp⟩⟩
  refine ⟨⟨S.nd, S.len, fun i as c h1 h2 => (S.cells i as c h1 h2).mono (fun a m => ?_) F.fwd.sub, S.dis, fun a m => ?_⟩, F⟩
  · cases e : H a with
    | none => exact absurd e (S.live (mem_flat h1 m))
    | some u => exact k a u e
  · cases e : H a with
    | none => exact absurd e (S.alive a m)
    | some u => rw [k a u e]; exact fun q => nomatch q
/-- behind code that keeps all but the cells -/
theorem StoR.at_new {K : PySem.W.Frag} {ex : List Addr} {μ : Mu} {H : Hp} {sto : Sto} (S : StoR K ex μ H sto) {p : Addr} {o : HO} (h : H p = none) : hf ex μ (upd H p o) p = some o := off_of upd_same (S.out h)

/-! ### readings -/
abbrev EK := Exc → Sto → Mu → Hp → Prop
def ePost (K : PySem.W.Frag) (EQ : EK) (ex : List Addr) (μ : Mu) (H : Hp) (e : Exc) (s' : Sto) : Prop := ∀ μ' H', Fwd μ H μ' H' → StoR K ex μ' H' s' → EQ e s' μ' H'
theorem ePost.fwd {K : PySem.W.Frag} {EQ : EK} {ex : List Addr} {μ : Mu} {H : Hp} {μ1 : Mu} {H1 : Hp} {e : Exc} {s' : Sto} (f : Fwd μ H μ1 H1) (h : ePost K EQ ex μ H e s') : ePost K EQ ex μ1 H1 e s' := fun μ' H' g => h μ' H' (f.trans g)

section
variable (K : PySem.W.Frag) (EQ : EK)
abbrev DE := Env → Sto → R EV
/-- an expression's -/
def T (m : DE) : TE := fun σ H Q => ∃ ex μ env sto, StoR K ex μ H sto ∧ EnvR (hf ex μ H) μ σ env ∧
  (m env sto).wp (fun d s' => ∀ v μ' H', FwdE μ H μ' H' → StoR K ex μ' H' s' → EvR (hf ex μ' H') μ' v d → Q v H') (ePost K EQ ex μ H)
abbrev DF := Env → Sto → R (List Dat)
/-- one that makes a list -/
def Tf (m : DF) : TE := fun σ H Q => ∃ ex μ env sto, StoR K ex μ H sto ∧ EnvR (hf ex μ H) μ σ env ∧
  (m env sto).wp (fun ds s' => ∀ p vs μ' H', FwdE μ H μ' H' → StoR K (p :: ex) μ' H' s' → H p = none → H' p = some (.lst vs) → vs.length ≤ sizeLine → RpL (hf (p :: ex) μ' H') vs ds → Q (.ref p) H') (ePost K EQ ex μ H)
abbrev DT := Env → Sto → R Bool
/-- a test's -/
def Tt (m : DT) : TT := fun σ H Q => ∃ ex μ env sto, StoR K ex μ H sto ∧ EnvR (hf ex μ H) μ σ env ∧
  (m env sto).wp (fun b s' => ∀ μ' H', FwdE μ H μ' H' → StoR K ex μ' H' s' → Q b H') (ePost K EQ ex μ H)
abbrev DA := Env → Sto → R (List EV)
/-- arguments' -/
def Ta (m : DA) : TA := fun σ H Q => ∃ ex μ env sto, StoR K ex μ H sto ∧ EnvR (hf ex μ H) μ σ env ∧
  (m env sto).wp (fun ds s' => ∀ vs μ' H', FwdE μ H μ' H' → StoR K ex μ' H' s' → Paired (EvR (hf ex μ' H') μ') vs ds → Q vs H') (ePost K EQ ex μ H)
end

theorem _root_.L2.PE.weak {X : Cx} {e : Expr} {t t' : TE} (h : PE X e t) (w : ∀ σ H Q, t' σ H Q → t σ H Q) : PE X e t' := ⟨fun pins s σ H Q I q => h.run pins s σ H Q I (w σ H Q q)⟩
theorem _root_.L2.PT.weak {X : Cx} {e : Expr} {t t' : TT} (h : PT X e t) (w : ∀ σ H Q, t' σ H Q → t σ H Q) : PT X e t' := ⟨fun pins s σ H Q I q => h.run pins s σ H Q I (w σ H Q q)⟩
theorem _root_.L2.PW.weak {X : Cx} {e : Expr} {t t' : TT} (h : PW X e t) (w : ∀ σ H Q, t' σ H Q → t σ H Q) : PW X e t' := ⟨fun wh pins s σ H Q I q => h.run wh pins s σ H Q I (w σ H Q q)⟩
theorem _root_.L2.PA.weak {X : Cx} {e : List Expr} {t t' : TA} (h : PA X e t) (w : ∀ σ H Q, t' σ H Q → t σ H Q) : PA X e t' := ⟨fun pos pins s σ H Q I q => h.run pos pins s σ H Q I (w σ H Q q)⟩
theorem _root_.L2.PS.weak {X : Cx} {e : Stmt} {t t' : TS} (h : PS X e t) (w : ∀ D σ H, t' D σ H → t D σ H) : PS X e t' := ⟨fun pins s σ H D I q => h.run pins s σ H D I (w D σ H q)⟩
theorem _root_.L2.PSs.weak {X : Cx} {e : List Stmt} {t t' : TS} (h : PSs X e t) (w : ∀ D σ H, t' D σ H → t D σ H) : PSs X e t' := ⟨fun pins s σ H D I q => h.run pins s σ H D I (w D σ H q)⟩

section
variable {K : PySem.W.Frag} {EQ : EK}
/-- an expression, then what its value leads to -/
theorem T.then {α : Type} {ma : DE} {f : EV → Sto → R α} {σ : L2.St} {H : Hp} {ex : List Addr} {μ : Mu} {env : Env} {sto : Sto} {G : α → Sto → Prop} {Q : VK}
    (S : StoR K ex μ H sto) (V : EnvR (hf ex μ H) μ σ env) (h : ((ma env sto).bind f).wp G (ePost K EQ ex μ H))
    (k : ∀ d s1 v μ1 H1, FwdE μ H μ1 H1 → StoR K ex μ1 H1 s1 → EnvR (hf ex μ1 H1) μ1 σ env → EvR (hf ex μ1 H1) μ1 v d → (f d s1).wp G (ePost K EQ ex μ1 H1) → Q v H1) : T K EQ ma σ H Q := by
  refine ⟨ex, μ, env, sto, S, V, R.wp_mono (fun d s1 q v μ1 H1 F S1 r => ?_) (fun _ _ q => q) _ ((R.wp_bind _).mp h)⟩
  exact k d s1 v μ1 H1 F S1 (V.fwd F) r (R.wp_mono (fun _ _ z => z) (fun _ _ z => z.fwd F.fwd) _ q)
/-- from before a new address, without it -/
theorem Fwd.subX {ex : List Addr} {μ : Mu} {H : Hp} {μ' : Mu} {H' : Hp} {p : Addr} (f : Fwd μ H μ' H') (h : H p = none) : Sub (hf ex μ H) (hf (p :: ex) μ' H') := fun a o e => by
  obtain ⟨n, e2⟩ := off_some (f.sub (ex := ex) a o e)
  refine off_of e2 ?_
  rw [List.cons_append, List.mem_cons, not_or]
  exact ⟨ne_of_none (off_some e).2 h, n⟩
theorem EnvR.fwdX {ex : List Addr} {μ : Mu} {H : Hp} {μ' : Mu} {H' : Hp} {σ : L2.St} {env : Env} {p : Addr} (f : FwdE μ H μ' H') (h : H p = none) (V : EnvR (hf ex μ H) μ σ env) : EnvR (hf (p :: ex) μ' H') μ' σ env :=
  ⟨V.1, fun i e q => by
    obtain ⟨v, a, b⟩ := V.2 i e q
    exact ⟨v, a, b.mono (f.fwd.subX h) f.ext⟩⟩
theorem StoR.less {K : PySem.W.Frag} {p : Addr} {ex : List Addr} {μ : Mu} {H : Hp} {sto : Sto} (S : StoR K (p :: ex) μ H sto) : StoR K ex μ H sto :=
  ⟨S.nd, S.len, fun i as c h1 h2 => (S.cells i as c h1 h2).mono (fun _ _ => rfl) fun a o e => by
    obtain ⟨n, e'⟩ := off_some e
    rw [List.cons_append, List.mem_cons, not_or] at n
    exact off_of e' n.2, fun a m => S.dis a (List.mem_cons_of_mem _ m), fun a m => S.alive a (List.mem_cons_of_mem _ m)⟩
theorem StoR.laidX {K : PySem.W.Frag} {ex : List Addr} {μ : Mu} {H : Hp} {sto : Sto} (S : StoR K ex μ H sto) {p : Addr} {o : HO} (h : H p = none) : StoR K (p :: ex) μ (upd H p o) sto := by
  have L := S.laid (o := o) h
  refine ⟨S.nd, S.len, fun i as c h1 h2 => (S.cells i as c h1 h2).mono (fun a m => ?_) (L.2.fwd.subX h), fun a m => ?_, fun a m => ?_⟩
  · exact upd_ne fun z => S.live (mem_flat h1 m) (by rw [z]; exact h)
  · rcases List.mem_cons.mp m with z | z
    · rw [z]
      exact fun q => S.live q h
    · exact S.dis a z
  · rcases List.mem_cons.mp m with z | z
    · rw [z, upd_same]
      exact fun q => nomatch q
    · exact L.1.alive a z
theorem Tf.then {α : Type} {ma : DF} {f : List Dat → Sto → R α} {σ : L2.St} {H : Hp} {ex : List Addr} {μ : Mu} {env : Env} {sto : Sto} {G : α → Sto → Prop} {Q : VK}
    (S : StoR K ex μ H sto) (V : EnvR (hf ex μ H) μ σ env) (h : ((ma env sto).bind f).wp G (ePost K EQ ex μ H))
    (k : ∀ ds s1 p vs μ1 H1, FwdE μ H μ1 H1 → StoR K (p :: ex) μ1 H1 s1 → EnvR (hf (p :: ex) μ1 H1) μ1 σ env → H p = none → H1 p = some (.lst vs) → vs.length ≤ sizeLine → RpL (hf (p :: ex) μ1 H1) vs ds → (f ds s1).wp G (ePost K EQ ex μ1 H1) → Q (.ref p) H1) : Tf K EQ ma σ H Q := by
  refine ⟨ex, μ, env, sto, S, V, R.wp_mono (fun d s1 q p vs μ1 H1 F S1 a c l r => ?_) (fun _ _ q => q) _ ((R.wp_bind _).mp h)⟩
  exact k d s1 p vs μ1 H1 F S1 (V.fwdX F a) a c l r (R.wp_mono (fun _ _ z => z) (fun _ _ z => z.fwd F.fwd) _ q)
theorem Tt.then {α : Type} {ma : DT} {f : Bool → Sto → R α} {σ : L2.St} {H : Hp} {ex : List Addr} {μ : Mu} {env : Env} {sto : Sto} {G : α → Sto → Prop} {Q : Bool → Hp → Prop}
    (S : StoR K ex μ H sto) (V : EnvR (hf ex μ H) μ σ env) (h : ((ma env sto).bind f).wp G (ePost K EQ ex μ H))
    (k : ∀ d s1 μ1 H1, FwdE μ H μ1 H1 → StoR K ex μ1 H1 s1 → EnvR (hf ex μ1 H1) μ1 σ env → (f d s1).wp G (ePost K EQ ex μ1 H1) → Q d H1) : Tt K EQ ma σ H Q := by
  refine ⟨ex, μ, env, sto, S, V, R.wp_mono (fun d s1 q μ1 H1 F S1 => ?_) (fun _ _ q => q) _ ((R.wp_bind _).mp h)⟩
  exact k d s1 μ1 H1 F S1 (V.fwd F) (R.wp_mono (fun _ _ z => z) (fun _ _ z => z.fwd F.fwd) _ q)
theorem Ta.then {α : Type} {ma : DA} {f : List EV → Sto → R α} {σ : L2.St} {H : Hp} {ex : List Addr} {μ : Mu} {env : Env} {sto : Sto} {G : α → Sto → Prop} {Q : List V → Hp → Prop}
    (S : StoR K ex μ H sto) (V : EnvR (hf ex μ H) μ σ env) (h : ((ma env sto).bind f).wp G (ePost K EQ ex μ H))
    (k : ∀ d s1 vs μ1 H1, FwdE μ H μ1 H1 → StoR K ex μ1 H1 s1 → EnvR (hf ex μ1 H1) μ1 σ env → Paired (EvR (hf ex μ1 H1) μ1) vs d → (f d s1).wp G (ePost K EQ ex μ1 H1) → Q vs H1) : Ta K EQ ma σ H Q := by
  refine ⟨ex, μ, env, sto, S, V, R.wp_mono (fun d s1 q vs μ1 H1 F S1 r => ?_) (fun _ _ q => q) _ ((R.wp_bind _).mp h)⟩
  exact k d s1 vs μ1 H1 F S1 (V.fwd F) r (R.wp_mono (fun _ _ z => z) (fun _ _ z => z.fwd F.fwd) _ q)
end
end Mx

set_option maxHeartbeats 4000000
namespace Mx
open PySem PySem.Spec PyProof.Rows L2

/-! ### names, constants -/
def liftD (o : Option Dat) (s : Sto) : R EV := match o with
  | some d => .ok (.dat d) s
  | none => .fail
theorem wp_liftD {o : Option Dat} {s : Sto} {Q : EV → Sto → Prop} {E : Exc → Sto → Prop} (h : (liftD o s).wp Q E) : ∃ d, o = some d ∧ Q (.dat d) s := by
  cases o with
  | none => exact h.elim
  | some a => exact ⟨a, rfl, h⟩
def eV (i : Nat) : DE := fun env s => match env[i]? with
  | some (some v) => .ok v s
  | _ => .fail
def eC (d : Dat) : DE := fun _ s => .ok (.dat d) s
def e1 (f : Sto → EV → Option Dat) (a : DE) : DE := fun env s => (a env s).bind fun x s1 => liftD (f s1 x) s1
def e2 (f : Sto → EV → EV → Option Dat) (a b : DE) : DE := fun env s => (a env s).bind fun x s1 => (b env s1).bind fun y s2 => liftD (f s2 x y) s2
def aNil : DA := fun _ s => .ok [] s
def aCons (a : DE) (r : DA) : DA := fun env s => (a env s).bind fun x s1 => (r env s1).bind fun xs s2 => .ok (x :: xs) s2
def dats : List EV → Option (List Dat)
  | [] => some []
  | .dat d :: r => (dats r).map (d :: ·)
  | .ref _ :: _ => none
/-- a value as data at this moment -/
def view (sto : Sto) : EV → Option Dat
  | .dat d => some d
  | .ref i => match sto[i]? with
    | some (.lst xs) => some (.list xs)
    | _ => none

section
variable {X : Cx} {EQ : EK} {σ : L2.St} {H : Hp} {Q : VK}
theorem t_var {i : Nat} : T X.K EQ (eV i) σ H Q → tVar i σ H Q := by
  rintro ⟨ex, μ, env, sto, S, V, h⟩
  unfold eV at h
  split at h
  · rename_i v e
    obtain ⟨w, e', r⟩ := V.2 i v e
    exact ⟨w, e', h w μ H (.refl _ _) S r⟩
  · exact h.elim
theorem pe_v (i : Nat) {x : Str} {pos : Pos} (hN : X.N[i]? = some x := by rfl) (hv : Vis X.env.scope x := by first | exact Or.inl rfl | exact Or.inr (Or.inl rfl) | exact Or.inr (Or.inr rfl)) (hd : (x == ("__debug__" : Str)) = false := by decide) (hcd : (x == ("__classdict__" : Str)) = false := by decide) :
    PE X (.Name x pos) (T X.K EQ (eV i)) := (pe_var hN hv hd hcd).weak fun _ _ _ => t_var
theorem t_c {v : V} {d : Dat} (r : ∀ Hf, Rp Hf v d) : T X.K EQ (eC d) σ H Q → tC v σ H Q := by
  rintro ⟨ex, μ, env, sto, S, V, h⟩
  exact h v μ H (.refl _ _) S (r _)
variable {j : Nat} {pos : Pos}
theorem pe_ci {i : Int} : PE X (.Constant (.int i) j pos) (T X.K EQ (eC (.int i))) := pe_int.weak fun _ _ _ => t_c fun _ => .int i
theorem pe_cb {b : Bool} : PE X (.Constant (.bool b) j pos) (T X.K EQ (eC (.bool b))) := pe_bl.weak fun _ _ _ => t_c fun _ => .bl b
theorem pe_cn : PE X (.Constant .none j pos) (T X.K EQ (eC .none)) := pe_non.weak fun _ _ _ => t_c fun _ => .non
theorem pe_cs {x : Str} : PE X (.Constant (.str x) j pos) (T X.K EQ (eC (.str x))) := L2.pe_str.weak fun _ _ _ => t_c fun _ => .str x
theorem pe_gi {x : Str} {i : Int} {t : Tok} (hg : Gl X x) (hm : X.mg x = some (.int i t)) (hd : (x == ("__debug__" : Str)) = false := by decide) : PE X (.Name x pos) (T X.K EQ (eC (.int i))) :=
  (pe_glob (v := .int i) hg hm ⟨t, rfl⟩ hd).weak fun _ _ _ => t_c fun _ => .int i

/-! ### two-place operations -/
def OpD (K : PySem.W.Frag) (r : R2) (f : Sto → EV → EV → Option Dat) : Prop := ∀ ex μ H sto x y v w d (Q : VK), StoR K ex μ H sto → EvR (hf ex μ H) μ v x → EvR (hf ex μ H) μ w y → f sto x y = some d →
  (∀ v' μ' H', FwdE μ H μ' H' → StoR K ex μ' H' sto → Rp (hf ex μ' H') v' d → Q v' H') → r v w H Q
theorem t_e2 {r : R2} {f : Sto → EV → EV → Option Dat} {ma mb : DE} (ho : OpD X.K r f) : T X.K EQ (e2 f ma mb) σ H Q → tOp r (T X.K EQ ma) (T X.K EQ mb) σ H Q := by
  rintro ⟨ex, μ, env, sto, S, V, h⟩
  refine T.then S V h fun x s1 v μ1 H1 F1 S1 V1 r1 h1 => ?_
  refine T.then S1 V1 h1 fun y s2 w μ2 H2 F2 S2 V2 r2 h2 => ?_
  obtain ⟨d, e, q⟩ := wp_liftD h2
  exact ho ex μ2 H2 s2 x y v w d Q S2 (r1.fwd F2) r2 e fun v' μ' H' F' S' r' => q v' μ' H' ((F1.trans F2).trans F') S' r'
variable {a b c : Expr} {ma mb mc : DE}
theorem pe_e2 {op : Operator} {r : R2} {f : Sto → EV → EV → Option Dat} (ho : OpR X (binaryOp op) r) (hd : OpD X.K r f) (ha : PE X a (T X.K EQ ma)) (hb : PE X b (T X.K EQ mb)) : PE X (.BinOp a op b pos) (T X.K EQ (e2 f ma mb)) :=
  (pe_op ho ha hb).weak fun _ _ _ => t_e2 hd
theorem pe_c2 {op : CmpOp} {r : R2} {f : Sto → EV → EV → Option Dat} (ho : OpR X (compareOp op) r) (hd : OpD X.K r f) (ha : PE X a (T X.K EQ ma)) (hb : PE X b (T X.K EQ mb)) (hm : behindInMarks op b = false) : PE X (.Compare a [op] [b] pos) (T X.K EQ (e2 f ma mb)) :=
  (pe_cmpR ho ha hb hm).weak fun _ _ _ => t_e2 hd
/-- a value's truth, bools alone -/
def tru (m : DE) : DT := fun env s => (m env s).bind fun x s1 => match x with
  | .dat (.bool b) => .ok b s1
  | _ => .fail
theorem t_tru {m : DE} {Q : Bool → Hp → Prop} : Tt X.K EQ (tru m) σ H Q → T X.K EQ m σ H fun x H' => ∃ k, x = .bl k ∧ Q k H' := by
  rintro ⟨ex, μ, env, sto, S, V, h⟩
  refine T.then S V h fun x s1 v μ1 H1 F1 S1 V1 r1 h1 => ?_
  split at h1
  · cases r1
    exact ⟨_, rfl, h1 μ1 H1 F1 S1⟩
  · exact h1.elim
theorem pt_c2 {op : CmpOp} {r : R2} {f : Sto → EV → EV → Option Dat} (ho : OpR X (compareOp op) r) (hd : OpD X.K r f) (ha : PE X a (T X.K EQ ma)) (hb : PE X b (T X.K EQ mb)) (hm : behindInMarks op b = false) : PT X (.Compare a [op] [b] pos) (Tt X.K EQ (tru (e2 f ma mb))) :=
  (pt_cmpR ho ha hb hm).weak fun σ H Q q => t_e2 hd (t_tru q)
theorem pt_v {e : Expr} {m : DE} (h : PE X e (T X.K EQ m)) (he : ∀ whole, isTrue e X.env whole = (do let v ← whole; standAt e.pos; holding [v] (truthy v)) := by intro _; rfl) : PT X e (Tt X.K EQ (tru m)) :=
  (L2.pt_val h he).weak fun _ _ _ => t_tru

/-! ### tests: and, or, not -/
def tAndD (a b : DT) : DT := fun env s => (a env s).bind fun c s1 => if c = true then b env s1 else .ok false s1
def tOrD (a b : DT) : DT := fun env s => (a env s).bind fun c s1 => if c = true then .ok true s1 else b env s1
def tNotD (a : DT) : DT := fun env s => (a env s).bind fun c s1 => .ok (!c) s1
variable {ta tb : DT} {rest : List Expr}
theorem pw_1a (ha : PT X a (Tt X.K EQ ta)) : PW X (.BoolOp .And [a] pos) (Tt X.K EQ ta) := pw_and1 ha
theorem pw_1o (ha : PT X a (Tt X.K EQ ta)) : PW X (.BoolOp .Or [a] pos) (Tt X.K EQ ta) := pw_or1 ha
theorem pw_a (ha : PT X a (Tt X.K EQ ta)) (hb : PW X (.BoolOp .And (b :: rest) pos) (Tt X.K EQ tb)) : PW X (.BoolOp .And (a :: b :: rest) pos) (Tt X.K EQ (tAndD ta tb)) :=
  (pw_and ha hb).weak fun σ H Q => by
    rintro ⟨ex, μ, env, sto, S, V, h⟩
    refine Tt.then S V h fun c s1 μ1 H1 F1 S1 V1 h1 => ?_
    cases c with
    | true => exact ⟨ex, μ1, env, s1, S1, V1, R.wp_mono (fun d s' q μ' H' F' S' => q μ' H' (F1.trans F') S') (fun _ _ z => z) _ h1⟩
    | false => exact h1 μ1 H1 F1 S1
theorem pw_o (ha : PT X a (Tt X.K EQ ta)) (hb : PW X (.BoolOp .Or (b :: rest) pos) (Tt X.K EQ tb)) : PW X (.BoolOp .Or (a :: b :: rest) pos) (Tt X.K EQ (tOrD ta tb)) :=
  (pw_or ha hb).weak fun σ H Q => by
    rintro ⟨ex, μ, env, sto, S, V, h⟩
    refine Tt.then S V h fun c s1 μ1 H1 F1 S1 V1 h1 => ?_
    cases c with
    | true => exact h1 μ1 H1 F1 S1
    | false => exact ⟨ex, μ1, env, s1, S1, V1, R.wp_mono (fun d s' q μ' H' F' S' => q μ' H' (F1.trans F') S') (fun _ _ z => z) _ h1⟩
theorem pt_n (ha : PT X a (Tt X.K EQ ta)) : PT X (.UnaryOp .Not a pos) (Tt X.K EQ (tNotD ta)) :=
  (pt_not ha).weak fun σ H Q => by
    rintro ⟨ex, μ, env, sto, S, V, h⟩
    refine Tt.then S V h fun c s1 μ1 H1 F1 S1 V1 h1 => ?_
    exact h1 μ1 H1 F1 S1
/-- .. as values -/
def eAnd (a b : DE) : DE := fun env s => (a env s).bind fun x s1 => match x with
  | .dat (.bool true) => b env s1
  | .dat (.bool false) => .ok (.dat (.bool false)) s1
  | _ => .fail
def eOr (a b : DE) : DE := fun env s => (a env s).bind fun x s1 => match x with
  | .dat (.bool false) => b env s1
  | .dat (.bool true) => .ok (.dat (.bool true)) s1
  | _ => .fail
def eNot (a : DE) : DE := fun env s => (a env s).bind fun x s1 => match x with
  | .dat (.bool c) => .ok (.dat (.bool (!c))) s1
  | _ => .fail
theorem pe_1 {op} (h : PE X a (T X.K EQ ma)) : PE X (.BoolOp op [a] pos) (T X.K EQ ma) := pe_one h
theorem pe_a (ha : PE X a (T X.K EQ ma)) (hb : PE X (.BoolOp .And (b :: rest) pos) (T X.K EQ mb)) : PE X (.BoolOp .And (a :: b :: rest) pos) (T X.K EQ (eAnd ma mb)) :=
  (pe_and ha hb).weak fun σ H Q => by
    rintro ⟨ex, μ, env, sto, S, V, h⟩
    refine T.then S V h fun x s1 v μ1 H1 F1 S1 V1 r1 h1 => ?_
    split at h1
    · cases r1
      exact ⟨_, rfl, ex, μ1, env, s1, S1, V1, R.wp_mono (fun d s' q w μ' H' F' S' => q w μ' H' (F1.trans F') S') (fun _ _ z => z) _ h1⟩
    · cases r1
      exact ⟨_, rfl, h1 _ μ1 H1 F1 S1 (.bl false)⟩
    · exact h1.elim
theorem pe_o (ha : PE X a (T X.K EQ ma)) (hb : PE X (.BoolOp .Or (b :: rest) pos) (T X.K EQ mb)) : PE X (.BoolOp .Or (a :: b :: rest) pos) (T X.K EQ (eOr ma mb)) :=
  (pe_or ha hb).weak fun σ H Q => by
    rintro ⟨ex, μ, env, sto, S, V, h⟩
    refine T.then S V h fun x s1 v μ1 H1 F1 S1 V1 r1 h1 => ?_
    split at h1
    · cases r1
      exact ⟨_, rfl, ex, μ1, env, s1, S1, V1, R.wp_mono (fun d s' q w μ' H' F' S' => q w μ' H' (F1.trans F') S') (fun _ _ z => z) _ h1⟩
    · cases r1
      exact ⟨_, rfl, h1 _ μ1 H1 F1 S1 (.bl true)⟩
    · exact h1.elim
theorem pe_n (ha : PE X a (T X.K EQ ma)) : PE X (.UnaryOp .Not a pos) (T X.K EQ (eNot ma)) :=
  (L2.pe_not ha).weak fun σ H Q => by
    rintro ⟨ex, μ, env, sto, S, V, h⟩
    refine T.then S V h fun x s1 v μ1 H1 F1 S1 V1 r1 h1 => ?_
    split at h1
    · cases r1
      exact ⟨_, rfl, h1 _ μ1 H1 F1 S1 (.bl _)⟩
    · exact h1.elim
def eIf (t : DT) (a b : DE) : DE := fun env s => (t env s).bind fun c s1 => if c = true then a env s1 else b env s1
theorem pe_if (hc : PT X c (Tt X.K EQ ta)) (ha : PE X a (T X.K EQ ma)) (hb : PE X b (T X.K EQ mb)) : PE X (.IfExp c a b pos) (T X.K EQ (eIf ta ma mb)) :=
  (pe_ifExp hc ha hb).weak fun σ H Q => by
    rintro ⟨ex, μ, env, sto, S, V, h⟩
    refine Tt.then S V h fun c s1 μ1 H1 F1 S1 V1 h1 => ?_
    cases c with
    | true => exact ⟨ex, μ1, env, s1, S1, V1, R.wp_mono (fun d s' q w μ' H' F' S' => q w μ' H' (F1.trans F') S') (fun _ _ z => z) _ h1⟩
    | false => exact ⟨ex, μ1, env, s1, S1, V1, R.wp_mono (fun d s' q w μ' H' F' S' => q w μ' H' (F1.trans F') S') (fun _ _ z => z) _ h1⟩
/-- a op b op' c -/
def eChain (f g : Sto → EV → EV → Option Dat) (a b c : DE) : DE := fun env s => (a env s).bind fun x s1 => (b env s1).bind fun y s2 => match f s2 x y with
  | some (.bool true) => (c env s2).bind fun z s3 => liftD (g s3 y z) s3
  | some (.bool false) => .ok (.dat (.bool false)) s2
  | _ => .fail
theorem t_chain {r r' : R2} {f g : Sto → EV → EV → Option Dat} (hf : OpD X.K r f) (hg : OpD X.K r' g) : T X.K EQ (eChain f g ma mb mc) σ H Q → tChain r r' (T X.K EQ ma) (T X.K EQ mb) (T X.K EQ mc) σ H Q := by
  rintro ⟨ex, μ, env, sto, S, V, h⟩
  refine T.then S V h fun x s1 v μ1 H1 F1 S1 V1 r1 h1 => ?_
  refine T.then S1 V1 h1 fun y s2 w μ2 H2 F2 S2 V2 r2 h2 => ?_
  split at h2
  · rename_i e
    refine hf ex μ2 H2 s2 x y v w _ _ S2 (r1.fwd F2) r2 e fun v' μ3 H3 F3 S3 r3 => ?_
    cases r3
    refine ⟨true, rfl, ?_⟩
    rw [if_pos rfl]
    refine T.then S3 (V2.fwd F3) (R.wp_mono (fun _ _ z => z) (fun _ _ z => z.fwd F3.fwd) _ h2) fun z s4 u μ4 H4 F4 S4 V4 r4 h4 => ?_
    obtain ⟨d, e', q⟩ := wp_liftD h4
    exact hg ex μ4 H4 s4 y z w u d Q S4 ((r2.fwd F3).fwd F4) r4 e' fun v' μ' H' F' S' r' => q v' μ' H' ((((F1.trans F2).trans F3).trans F4).trans F') S' r'
  · rename_i e
    refine hf ex μ2 H2 s2 x y v w _ _ S2 (r1.fwd F2) r2 e fun v' μ3 H3 F3 S3 r3 => ?_
    cases r3
    refine ⟨false, rfl, ?_⟩
    rw [if_neg (by decide)]
    exact h2 _ μ3 H3 ((F1.trans F2).trans F3) S3 (.bl false)
  · exact h2.elim
theorem pe_ch {op op' : CmpOp} {r r' : R2} {f g : Sto → EV → EV → Option Dat} (ho : OpR X (compareOp op) r) (ho' : OpR X (compareOp op') r') (hf : OpD X.K r f) (hg : OpD X.K r' g) (ha : PE X a (T X.K EQ ma)) (hb : PE X b (T X.K EQ mb)) (hc : PE X c (T X.K EQ mc)) (hm : lastMarks [op, op'] [b, c] = false := by rfl) : PE X (.Compare a [op, op'] [b, c] pos) (T X.K EQ (eChain f g ma mb mc)) :=
  (pe_chain ho ho' ha hb hc hm).weak fun _ _ _ => t_chain hf hg

/-! ### arguments, displays -/
theorem pa_0 : PA X [] (Ta X.K EQ aNil) := pa_nil.weak fun σ H Q => by
  rintro ⟨ex, μ, env, sto, S, V, h⟩
  exact h [] μ H (.refl _ _) S .nil
theorem evr_paired {ex : List Addr} {μ μ' : Mu} {H H' : Hp} {vs : List V} {es : List EV} (F : FwdE μ H μ' H') (h : Paired (EvR (hf ex μ H) μ) vs es) : Paired (EvR (hf ex μ' H') μ') vs es := paired_mono h fun _ _ q => q.fwd F
theorem pa_1 {e : Expr} {es : List Expr} {m : DE} {mr : DA} (ha : PE X e (T X.K EQ m)) (hr : PA X es (Ta X.K EQ mr)) (hs : starEach (e :: es) X.env = (false, eval e X.env) :: starEach es X.env := by rfl) : PA X (e :: es) (Ta X.K EQ (aCons m mr)) :=
  (pa_cons ha hr hs).weak fun σ H Q => by
    rintro ⟨ex, μ, env, sto, S, V, h⟩
    refine T.then S V h fun x s1 v μ1 H1 F1 S1 V1 r1 h1 => ?_
    refine Ta.then S1 V1 h1 fun xs s2 vs μ2 H2 F2 S2 V2 r2 h2 => ?_
    exact h2 _ μ2 H2 (F1.trans F2) S2 (.cons (r1.fwd F2) r2)
/-- *e -/
def aStar (a : DE) (r : DA) : DA := fun env s => (a env s).bind fun x s1 => match x with
  | .dat (.list ds) => (r env s1).bind fun xs s2 => .ok (ds.map .dat ++ xs) s2
  | .dat (.tuple ds) => (r env s1).bind fun xs s2 => .ok (ds.map .dat ++ xs) s2
  | _ => .fail
theorem paired_app {α β : Type} {F : α → β → Prop} : ∀ {l l' : List α} {m m' : List β}, Paired F l m → Paired F l' m' → Paired F (l ++ l') (m ++ m')
  | _, _, _, _, .nil, h => h
  | _, _, _, _, .cons r t, h => .cons r (paired_app t h)
theorem rpl_paired {Hf : Hp} {μ : Mu} : ∀ {vs : List V} {ds : List Dat}, RpL Hf vs ds → Paired (EvR Hf μ) vs (ds.map .dat)
  | _, _, .nil => .nil
  | _, _, .cons a b => .cons a (rpl_paired b)
/-- the items of a list or tuple -/
theorem Rp.items {Hf : Hp} {v : V} {d : Dat} {ds : List Dat} (r : Rp Hf v d) (e : d = .list ds ∨ d = .tuple ds) : ∃ a vs, v = .ref a ∧ (Hf a = some (.lst vs) ∨ Hf a = some (.tup vs)) ∧ vs.length ≤ sizeLine ∧ RpL Hf vs ds := by
  rcases e with rfl | rfl
  · cases r with
    | lst e l q => exact ⟨_, _, rfl, .inl e, l, q⟩
  · cases r with
    | tup e l q => exact ⟨_, _, rfl, .inr e, l, q⟩
theorem pa_s {e : Expr} {es : List Expr} {m : DE} {mr : DA} {p : Pos} (ha : PE X e (T X.K EQ m)) (hr : PA X es (Ta X.K EQ mr)) (hs : starEach (.Starred e p :: es) X.env = (true, eval e X.env) :: starEach es X.env := by rfl) : PA X (.Starred e p :: es) (Ta X.K EQ (aStar m mr)) :=
  (StX.pa_star ha hr hs).weak fun σ H Q => by
    rintro ⟨ex, μ, env, sto, S, V, h⟩
    refine T.then S V h fun x s1 v μ1 H1 F1 S1 V1 r1 h1 => ?_
    have key : ∀ (d : Dat) (ds : List Dat), x = .dat d → (d = .list ds ∨ d = .tuple ds) → ((mr env s1).bind fun xs s2 => R.ok (ds.map EV.dat ++ xs) s2).wp (fun ds s' => ∀ vs μ' H', FwdE μ H μ' H' → StoR X.K ex μ' H' s' → Paired (EvR (hf ex μ' H') μ') vs ds → Q vs H') (ePost X.K EQ ex μ1 H1) →
        ∃ p xs, v = .ref p ∧ (SqT X.K H1 p xs ∨ SqL X.K H1 p xs) ∧ Ta X.K EQ mr σ H1 fun ys H2 => Q (xs ++ ys) H2 := by
      intro d ds ex1 hd h2
      subst ex1
      obtain ⟨a, vs, rfl, hh, hl, rr⟩ := Rp.items r1 hd
      refine ⟨a, vs, rfl, ?_, ?_⟩
      · rcases hh with q | q
        · exact .inr (SqL.of (off_some q).2)
        · exact .inl (SqT.of (off_some q).2)
      · refine Ta.then S1 V1 h2 fun xs s2 ws μ2 H2 F2 S2 V2 r2 h3 => ?_
        exact h3 _ μ2 H2 (F1.trans F2) S2 (paired_app (rpl_paired (rr.mono F2.fwd.sub)) r2)
    split at h1
    · exact key _ _ rfl (.inl rfl) h1
    · exact key _ _ rfl (.inr rfl) h1
    · exact h1.elim
end
end Mx

set_option maxHeartbeats 4000000
/-! dicts by data: lookups and stores, over the machine -/
namespace Mx
open PySem PySem.Spec PyProof.Rows L2
def valN (kvs : List (Dat × Dat)) (k : Dat) : Option Dat := (kvs.find? fun kv => decide (nkD kv.1 = nkD k)).map (·.2)
def putN (kvs : List (Dat × Dat)) (k v : Dat) : List (Dat × Dat) :=
  if (kvs.any fun kv => decide (nkD kv.1 = nkD k)) = true then kvs.map (fun kv => if nkD kv.1 = nkD k then (kv.1, v) else kv) else kvs ++ [(k, v)]
section
variable {P : Program} {w : World} {H : Hp} {h : Heap}
mutual
theorem rp_nested (ok : HOk P w H h) : ∀ {v : V} {d : Dat}, Rp H v d → kyD d = true → ∀ u, RelV v u → NestedIs h (nkD d) u
  | _, _, .non, _, u, r => by
    cases (show u = Value.none from r)
    exact .none
  | _, _, .int i, _, u, r => by
    obtain ⟨t, rfl⟩ := (show ∃ t, u = Value.int i t from r)
    exact .int i t
  | _, _, .tup (a := a) e _ q, k, u, r => by
    cases (show u = Value.ref a from r)
    obtain ⟨_, its, rv, o, h1, h2, n, h3⟩ := ok a _ e
    exact .tup h1 h2 h3 (by simpa using rp_nestedL ok q k its rv)
  | _, _, .bl _, k, _, _ => by cases k
  | _, _, .str _, k, _, _ => by cases k
  | _, _, .lst _ _ _, k, _, _ => by cases k
  | _, _, .dct _ _ _ _, k, _, _ => by cases k
  | _, _, .dkk _ _, k, _, _ => by cases k
theorem rp_nestedL (ok : HOk P w H h) : ∀ {vs : List V} {ds : List Dat}, RpL H vs ds → kyL ds = true → ∀ us, Vals vs us → NestedAll h (nkL ds) us
  | _, _, .nil, _, us, r => by cases r; exact .nil
  | _, _, .cons a b, k, us, r => by
    rw [kyL, Bool.and_eq_true] at k
    cases r with
    | cons r1 r2 => exact .cons (rp_nested ok a k.1 _ r1) (rp_nestedL ok b k.2 _ r2)
end
theorem tk_tup {d : Dat} (k : tkD d = true) : (∃ ds, d = .tuple ds) ∧ kyD d = true ∧ (nkD d).depth ≤ 8 := by
  unfold tkD at k
  rw [Bool.and_eq_true, Bool.and_eq_true, decide_eq_true_iff] at k
  obtain ⟨⟨k1, k2⟩, k3⟩ := k
  cases d with
  | tuple ds => exact ⟨⟨ds, rfl⟩, k2, k3⟩
  | _ => cases k1
theorem key_is (ok : HOk P w H h) {v : V} {d : Dat} (r : Rp H v d) (k : tkD d = true) : ∃ b, v = .ref b ∧ (nestedKind P w).is h (nkD d) b := by
  obtain ⟨⟨ds, rfl⟩, k2, k3⟩ := tk_tup k
  cases r with
  | tup e l q => exact ⟨_, rfl, rp_nested ok (.tup e l q) k2 _ rfl, k3⟩
mutual
/-- without texts the hash is that of every world -/
theorem hash_free (w w' : World) : ∀ {d : Dat}, kyD d = true → (nkD d).hash w = (nkD d).hash w'
  | .none, _ => rfl
  | .int _, _ => rfl
  | .tuple ds, k => by
    unfold nkD NestedKey.hash
    rw [hash_freeL w w' (ds := ds) k]
  | .bool _, k => by cases k
  | .str _, k => by cases k
  | .list _, k => by cases k
  | .dict _, k => by cases k
theorem hash_freeL (w w' : World) : ∀ {ds : List Dat}, kyL ds = true → NestedKey.hashes w (nkL ds) = NestedKey.hashes w' (nkL ds)
  | [], _ => rfl
  | d :: ds, k => by
    rw [kyL, Bool.and_eq_true] at k
    unfold nkL NestedKey.hashes
    rw [hash_free w w' k.1, hash_freeL w w' k.2]
end
/-- an entry of the machine's dict and one by data -/
def EntR (H : Hp) (x : NestedKey × Addr × Value) (p : Dat × Dat) : Prop := x.1 = nkD p.1 ∧ Rp H (.ref x.2.1) p.1 ∧ ∃ v, RelV v x.2.2 ∧ Rp H v p.2
abbrev EntsR (H : Hp) : List (NestedKey × Addr × Value) → List (Dat × Dat) → Prop := Paired (EntR H)
theorem ents_of {Hf : Hp} (ok : HOk P w H h) (sb : Sub Hf H) : ∀ {es : List DictEntry} {kvs : List (Dat × Dat)}, RpE Hf es kvs → (∀ p ∈ kvs, tkD p.1 = true) → ∃ xs, es = xs.map (entryOfKey (nestedKind P w)) ∧ EntsR Hf xs kvs
  | _, _, .nil, _ => ⟨[], rfl, .nil⟩
  | _, _, .cons (e := e) r1 r2 r3 r4 r5 t, k => by
    obtain ⟨xs, e1, e2⟩ := ents_of ok sb t fun p hp => k p (List.mem_cons_of_mem _ hp)
    obtain ⟨b, e3, _⟩ := key_is ok (r2.mono sb) (k _ List.mem_cons_self)
    subst e3
    obtain ⟨eh, ek, ev⟩ := e
    cases (show ek = Value.ref b from r1)
    refine ⟨(_, b, ev) :: xs, ?_, .cons ⟨rfl, r2, _, r4, r5⟩ e2⟩
    rw [List.map_cons, ← e1]
    congr 1
    show DictEntry.mk eh (Value.ref b) ev = ⟨_, _, _⟩
    have := r3 w
    simp only at this
    rw [this]
    rfl
theorem ents_keys : ∀ {xs : List (NestedKey × Addr × Value)} {kvs : List (Dat × Dat)}, EntsR H xs kvs → xs.map (·.1) = kvs.map fun p => nkD p.1
  | _, _, .nil => rfl
  | _, _, .cons r t => by rw [List.map_cons, List.map_cons, ents_keys t, r.1]
theorem ents_is {Hf : Hp} (ok : HOk P w H h) (sb : Sub Hf H) : ∀ {xs : List (NestedKey × Addr × Value)} {kvs : List (Dat × Dat)}, EntsR Hf xs kvs → (∀ p ∈ kvs, tkD p.1 = true) → ∀ x ∈ xs, (nestedKind P w).is h x.1 x.2.1
  | _, _, .nil, _, x, hx => by cases hx
  | _, _, .cons r t, k, x, hx => by
    rcases List.mem_cons.mp hx with rfl | hx
    · obtain ⟨b, e1, e2⟩ := key_is ok (r.2.1.mono sb) (k _ List.mem_cons_self)
      cases e1
      rw [r.1]
      exact e2
    · exact ents_is ok sb t (fun p hp => k p (List.mem_cons_of_mem _ hp)) x hx
theorem do_of {Hf : Hp} (ok : HOk P w H h) (sb : Sub Hf H) {a : Addr} {es : List DictEntry} {ep : Nat} {kvs : List (Dat × Dat)} (ha : H a = some (DO a es ep)) (k : DOk kvs) (r : RpE Hf es kvs) :
    (a == sysModules) = false ∧ ∃ xs, h.DictOfH (nestedKind P w) a xs ∧ EntsR Hf xs kvs ∧ es = xs.map (entryOfKey (nestedKind P w)) := by
  obtain ⟨⟨hd, o, h1, h2, h3⟩, _⟩ := ok a _ ha
  obtain ⟨xs, e1, e2⟩ := ents_of ok sb r k.keys
  refine ⟨hd, xs, ⟨o, es.toArray, ep, h1, h2, h3, by simpa using e1, ents_is ok sb e2 k.keys, ?_⟩, e2, e1⟩
  rw [ents_keys e2]
  exact k.nd
theorem ents_find : ∀ {xs : List (NestedKey × Addr × Value)} {kvs : List (Dat × Dat)}, EntsR H xs kvs → ∀ k : Dat, (valN kvs k = none ∧ atKey xs (nkD k) = none) ∨ ∃ d b u v, valN kvs k = some d ∧ atKey xs (nkD k) = some (b, u) ∧ RelV v u ∧ Rp H v d
  | _, _, .nil, k => .inl ⟨rfl, rfl⟩
  | x :: _, p :: _, .cons r t, k => by
    have ih := ents_find t k
    unfold valN atKey at ih ⊢
    by_cases q : nkD p.1 = nkD k
    · obtain ⟨v, r1, r2⟩ := r.2.2
      refine .inr ⟨p.2, x.2.1, x.2.2, v, ?_, ?_, r1, r2⟩
      · rw [List.find?_cons_of_pos (by simpa using q)]
        rfl
      · rw [List.find?_cons_of_pos (by rw [r.1]; simpa using q)]
        rfl
    · rw [List.find?_cons_of_neg (by simpa using q), List.find?_cons_of_neg (by rw [r.1]; simpa using q)]
      exact ih
theorem ents_put {b : Addr} {u : Value} {v : V} {k d : Dat} (rk : Rp H (.ref b) k) (ru : RelV v u) (rd : Rp H v d) {xs : List (NestedKey × Addr × Value)} {kvs : List (Dat × Dat)} (r : EntsR H xs kvs) : EntsR H (storedH xs (nkD k) b u) (putN kvs k d) := by
  have any : ∀ {xs : List (NestedKey × Addr × Value)} {kvs : List (Dat × Dat)}, EntsR H xs kvs → (atKey xs (nkD k)).isSome = kvs.any fun kv => decide (nkD kv.1 = nkD k) := by
    intro xs kvs r
    induction r with
    | nil => rfl
    | @cons x p xs kvs r t ih =>
      unfold atKey at ih ⊢
      rw [List.any_cons]
      by_cases q : nkD p.1 = nkD k
      · rw [List.find?_cons_of_pos (by rw [r.1]; simpa using q), decide_eq_true q]
        rfl
      · rw [List.find?_cons_of_neg (by rw [r.1]; simpa using q), decide_eq_false q, ih]
        rfl
  have map : ∀ {xs : List (NestedKey × Addr × Value)} {kvs : List (Dat × Dat)}, EntsR H xs kvs → EntsR H (xs.map (putAt (nkD k) u)) (kvs.map fun kv => if nkD kv.1 = nkD k then (kv.1, d) else kv) := by
    intro xs kvs r
    induction r with
    | nil => exact .nil
    | @cons x p xs kvs r t ih =>
      refine .cons ?_ ih
      show EntR H (putAt (nkD k) u x) (if nkD p.1 = nkD k then (p.1, d) else p)
      unfold putAt
      by_cases q : nkD p.1 = nkD k
      · rw [if_pos q, if_pos (by rw [r.1]; exact q)]
        exact ⟨r.1, r.2.1, v, ru, rd⟩
      · rw [if_neg q, if_neg (by rw [r.1]; exact q)]
        exact r
  have app : ∀ {xs : List (NestedKey × Addr × Value)} {kvs : List (Dat × Dat)}, EntsR H xs kvs → EntsR H (xs ++ [(nkD k, b, u)]) (kvs ++ [(k, d)]) := by
    intro xs kvs r
    induction r with
    | nil => exact .cons ⟨rfl, rk, v, ru, rd⟩ .nil
    | cons r t ih => exact .cons r ih
  unfold storedH putN
  rw [any r]
  split
  · exact map r
  · exact app r
theorem putN_len (kvs : List (Dat × Dat)) (k v : Dat) : (putN kvs k v).length ≤ kvs.length + 1 := by
  unfold putN
  split <;> simp
theorem putN_ok {kvs : List (Dat × Dat)} {k : Dat} (v : Dat) (h : DOk kvs) (hk : tkD k = true) : DOk (putN kvs k v) := by
  unfold putN
  split
  · rename_i q
    refine ⟨fun p hp => ?_, ?_⟩
    · obtain ⟨x, hx, rfl⟩ := List.mem_map.mp hp
      split
      · exact h.keys x hx
      · exact h.keys x hx
    · rw [List.map_map]
      have : ((fun p : Dat × Dat => nkD p.1) ∘ fun kv => if nkD kv.1 = nkD k then (kv.1, v) else kv) = fun p => nkD p.1 := by
        funext x
        show nkD (if nkD x.1 = nkD k then (x.1, v) else x).1 = nkD x.1
        split <;> rfl
      rw [this]
      exact h.nd
  · rename_i q
    refine ⟨fun p hp => ?_, ?_⟩
    · rcases List.mem_append.mp hp with hp | hp
      · exact h.keys p hp
      · rw [List.mem_singleton] at hp
        subst hp
        exact hk
    · rw [List.map_append, List.nodup_append]
      refine ⟨h.nd, by simp, fun a ha b hb e => ?_⟩
      rw [List.map_cons, List.map_nil, List.mem_singleton] at hb
      subst hb
      subst e
      obtain ⟨x, hx, e⟩ := List.mem_map.mp ha
      exact q (List.any_eq_true.mpr ⟨x, hx, decide_eq_true e⟩)
theorem rpe_of (w : World) {H : Hp} : ∀ {xs : List (NestedKey × Addr × Value)} {kvs : List (Dat × Dat)}, EntsR H xs kvs → (∀ p ∈ kvs, tkD p.1 = true) → RpE H (xs.map (entryOfKey (nestedKind P w))) kvs := by
  intro xs kvs r
  induction r with
  | nil => intro _; exact .nil
  | @cons x p xs kvs r t ih =>
    intro k
    obtain ⟨v, r1, r2⟩ := r.2.2
    exact .cons (v := .ref x.2.1) (show L2.RelV (.ref x.2.1) (Value.ref x.2.1) from rfl) r.2.1 (fun w' => by
      show NestedKey.hash w x.1 = _
      rw [r.1]
      exact hash_free w w' (tk_tup (k p List.mem_cons_self)).2.1) r1 r2 (ih fun q hq => k q (List.mem_cons_of_mem _ hq))
end
end Mx
namespace Mx
open PySem PySem.Spec PyProof.Rows L2
section
variable {X : Cx} {pins : List (Addr × Obj)} {σ : L2.St} {H Hf : Hp} {s : Shared} {a : Addr} {es : List DictEntry} {ep : Nat} {kvs : List (Dat × Dat)} {k : Dat} {y : V} {u : Value} {A : Around} {E : Value → Shared → Prop}
theorem do_get {d : Dat} {Q : Value → Shared → Prop} (hu : A.units + 9 < cLine) (I : Inv X pins σ H s) (sb : Sub Hf H) (ha : H a = some (DO a es ep)) (ko : DOk kvs) (r : RpE Hf es kvs) (hk : tkD k = true) (rk : Rp H y k) (ry : RelV y u) (hd : valN kvs k = some d)
    (h : ∀ v w' s', Inv X pins σ H s' → RelV v w' → Rp Hf v d → Q w' s') : wpAny (model X.prog X.w) A (getItem (.ref a) u) Q E s := by
  obtain ⟨hs, xs, dd, er, _⟩ := do_of I.hok sb ha ko r
  obtain ⟨b, rfl, ki⟩ := key_is I.hok rk hk
  cases (show u = Value.ref b from ry)
  rcases ents_find er k with ⟨z, _⟩ | ⟨d', b', u', v, e1, e2, e3, e4⟩
  · rw [z] at hd
    cases hd
  · rw [e1] at hd
    cases hd
    exact wpAny_getItem_heap (by show A.units + 1 + 8 < cLine; omega) ki dd e2 (h v u' _ (I.tok _) e3 e4)
theorem do_in {Q : Value → Shared → Prop} (hu : A.units + 9 < cLine) (I : Inv X pins σ H s) (sb : Sub Hf H) (ha : H a = some (DO a es ep)) (ko : DOk kvs) (r : RpE Hf es kvs) (hk : tkD k = true) (rk : Rp H y k) (ry : RelV y u)
    (h : ∀ s', Inv X pins σ H s' → Q (.bool (valN kvs k).isSome) s') : wpAny (model X.prog X.w) A (compareOp .In u (.ref a)) Q E s := by
  obtain ⟨hs, xs, dd, er, _⟩ := do_of I.hok sb ha ko r
  obtain ⟨b, rfl, ki⟩ := key_is I.hok rk hk
  cases (show u = Value.ref b from ry)
  refine wpAny_in_heap (by show A.units + 1 + 8 < cLine; omega) ki hs dd ?_
  have e : (atKey xs (nkD k)).isSome = (valN kvs k).isSome := by
    rcases ents_find er k with ⟨z, z2⟩ | ⟨d', b', u', v, e1, e2, e3, e4⟩
    · rw [z, z2]
      rfl
    · rw [e1, e2]
      rfl
  rw [e]
  exact h _ (I.tok _)
theorem do_notIn {Q : Value → Shared → Prop} (hu : A.units + 9 < cLine) (I : Inv X pins σ H s) (sb : Sub Hf H) (ha : H a = some (DO a es ep)) (ko : DOk kvs) (r : RpE Hf es kvs) (hk : tkD k = true) (rk : Rp H y k) (ry : RelV y u)
    (h : ∀ s', Inv X pins σ H s' → Q (.bool (!(valN kvs k).isSome)) s') : wpAny (model X.prog X.w) A (compareOp .NotIn u (.ref a)) Q E s := by
  obtain ⟨hs, xs, dd, er, _⟩ := do_of I.hok sb ha ko r
  obtain ⟨b, rfl, ki⟩ := key_is I.hok rk hk
  cases (show u = Value.ref b from ry)
  refine wpAny_notIn_heap (by show A.units + 1 + 8 < cLine; omega) ki hs dd ?_
  have e : (atKey xs (nkD k)).isSome = (valN kvs k).isSome := by
    rcases ents_find er k with ⟨z, z2⟩ | ⟨d', b', u', v, e1, e2, e3, e4⟩
    · rw [z, z2]
      rfl
    · rw [e1, e2]
      rfl
  rw [e]
  exact h _ (I.tok _)
theorem do_ne_rp {es : List DictEntry} : ∀ u, DO a es ep ≠ .tup u := fun _ z => nomatch z
/-- a[y] = v: the dict's object is replaced -/
theorem do_set {v : V} {r' : Value} {d : Dat} {Q : Unit → Shared → Prop} (hu : A.units + 9 < cLine) (I : Inv X pins σ H s) (sb : Sub Hf H) (hn : Hf a = none) (ha : H a = some (DO a es ep)) (ko : DOk kvs) (hl : es.length < sizeLine) (r : RpE Hf es kvs) (hk : tkD k = true) (rk : Rp Hf y k) (ry : RelV y u) (rv : RelV v r') (rd : Rp Hf v d)
    (h : ∀ es' ep' s', Inv X pins σ (upd H a (DO a es' ep')) s' → es'.length ≤ sizeLine → RpE Hf es' (putN kvs k d) → Q () s') : wpAny (model X.prog X.w) A (setItem (.ref a) u r') Q E s := by
  obtain ⟨hs, xs, dd, er, ee⟩ := do_of I.hok sb ha ko r
  obtain ⟨b, rfl, ki⟩ := key_is I.hok (rk.mono sb) hk
  cases (show u = Value.ref b from ry)
  have hxl : xs.length < sizeLine := by
    have := congrArg List.length ee
    rw [List.length_map] at this
    omega
  refine wpAny_setItem_heap (hsz := by omega) (by show A.units + 1 + 8 < cLine; omega) ki dd fun h' dd' hsb => ?_
  have er' := ents_put rk rv rd er
  have hlen : (storedH xs (nkD k) b r').length ≤ sizeLine := by
    have e1 := Paired.length er'
    have e2 := putN_len kvs k d
    have e3 := Paired.length er
    omega
  obtain ⟨q, es2, ep2, hq, h2, h3, h4, h5, h6⟩ := dd'
  refine h ((storedH xs (nkD k) b r').map (entryOfKey (nestedKind X.prog X.w))) ep2 _ ?_ (by rw [List.length_map]; exact hlen) (rpe_of X.w er' (putN_ok d ko hk).keys)
  refine d_write I (by rw [ha]; exact True.intro) hsb ⟨q, hq⟩ ⟨⟨hs, q, hq, h2, ?_⟩, ⟨q, hq⟩, fun h1 h2' p k' => ?_⟩
  · rw [h3]
    rw [← h4]
  · obtain ⟨p1, p3, p4, p5⟩ := p
    exact ⟨p1, p3, k' _ p4, p5⟩
end
end Mx

set_option maxHeartbeats 4000000
namespace Mx
open PySem PySem.Spec PyProof.Rows L2

/-! ### values of operations -/
def iOp (k : Int → Int → Dat) : Sto → EV → EV → Option Dat := fun _ x y => match x, y with
  | .dat (.int i), .dat (.int j) => some (k i j)
  | _, _ => none
def iOpC (c : Int → Int → Bool) (k : Int → Int → Dat) : Sto → EV → EV → Option Dat := fun _ x y => match x, y with
  | .dat (.int i), .dat (.int j) => if c i j = true then some (k i j) else none
  | _, _ => none
def subD := iOp fun i j => .int (i - j)
def fdivD := iOpC (fun i j => decide (j ≠ 0) && decide (j.natAbs < 1073741824)) fun i j => .int (i.fdiv j)
def modD := iOpC (fun i j => decide (j ≠ 0)) fun i j => .int (i.fmod j)
def ltI := iOp fun i j => .bool (decide (i < j))
def leI := iOp fun i j => .bool (decide (i ≤ j))
def gtI := iOp fun i j => .bool (decide (j < i))
def geI := iOp fun i j => .bool (decide (j ≤ i))
def addD : Sto → EV → EV → Option Dat := fun sto x y => match x, y with
  | .dat (.int i), .dat (.int j) => some (.int (i + j))
  | .dat (.str a), .dat (.str b) => if a.length + b.length ≤ sizeLine then some (.str (a ++ b)) else none
  | .dat (.tuple a), .dat (.tuple b) => if a.length + b.length ≤ sizeLine then some (.tuple (a ++ b)) else none
  | x, y => match view sto x, view sto y with
    | some (.list a), some (.list b) => if a.length + b.length ≤ sizeLine then some (.list (a ++ b)) else none
    | _, _ => none
def wIn (m : Nat) : Int → Bool
  | .ofNat n => Nat.blt n m
  | .negSucc n => Nat.blt n m
theorem wIn_iff {m : Nat} {i : Int} : wIn m i = true ↔ -(m : Int) ≤ i ∧ i < m := by
  cases i with
  | ofNat n =>
    show Nat.blt n m = true ↔ _
    rw [Nat.blt_eq, Int.ofNat_eq_natCast]
    omega
  | negSucc n =>
    show Nat.blt n m = true ↔ _
    rw [Nat.blt_eq, Int.negSucc_eq]
    omega
def mulOk (i j : Int) : Bool := wIn 18446744073709551615 i || wIn 18446744073709551615 j
def mulD : Sto → EV → EV → Option Dat := fun sto x y => match x, y with
  | .dat (.int i), .dat (.int j) => if mulOk i j = true then some (.int (i * j)) else none
  | .dat (.tuple a), .dat (.int k) => if a ≠ [] ∧ 2 ≤ k ∧ k ≤ 1000 ∧ a.length ≤ 1000 then some (.tuple (List.replicate k.toNat a).flatten) else none
  | x, .dat (.int k) => match view sto x with
    | some (.list a) => if wIn 9223372036854775808 k = true ∧ a.length * k.toNat ≤ sizeLine then some (.list (List.replicate k.toNat a).flatten) else none
    | _ => none
  | _, _ => none
/-- of a depth that == goes into -/
def shp : Nat → Dat → Bool
  | _, .none => true
  | _, .bool _ => true
  | _, .int _ => true
  | _, .str x => PySem.PyData.strOk x
  | n + 1, .list xs => xs.all (shp n)
  | n + 1, .tuple xs => xs.all (shp n)
  | _, _ => false
def eqD : Sto → EV → EV → Option Dat := fun sto x y => match view sto x, view sto y with
  | some d, some e => if shp 60 d && shp 60 e then some (.bool (PyData.eqv d e)) else none
  | _, _ => none
def neD : Sto → EV → EV → Option Dat := fun sto x y => match view sto x, view sto y with
  | some d, some e => if shp 60 d && shp 60 e then some (.bool (!PyData.eqv d e)) else none
  | _, _ => none
def flatD : Dat → Bool
  | .none => true
  | .bool _ => true
  | .int _ => true
  | .str _ => true
  | _ => false
def keyD : Dat → Option Key
  | .int i => some (.inl i)
  | .str x => some (.inr x)
  | _ => none
def keysD : List Dat → Option (List Key)
  | [] => some []
  | d :: r => match keyD d, keysD r with
    | some k, some ks => some (k :: ks)
    | _, _ => none
def valD {κ : Type} [DecidableEq κ] (kvs : List (κ × Dat)) (k : κ) : Option Dat := (kvs.find? fun kv => decide (kv.1 = k)).map (·.2)
def putD {κ : Type} [DecidableEq κ] (kvs : List (κ × Dat)) (k : κ) (v : Dat) : List (κ × Dat) :=
  if (kvs.any fun kv => decide (kv.1 = k)) = true then kvs.map (fun kv => if kv.1 = k then (kv.1, v) else kv) else kvs ++ [(k, v)]
/-- d[k] of a dict that is a value -/
def lookV (kvs : List (Dat × Dat)) (k : Dat) : Option (Option Dat) := match kvs with
  | (.int _, _) :: _ => match k with
    | .int i => some (valN kvs (.int i))
    | _ => none
  | (.tuple _, _) :: _ => if tkD k = true then some (valN kvs k) else none
  | _ => none
/-- d[k] of a dict: none, it is no dict or no key; some none: it is not there -/
def lookD (sto : Sto) (d : EV) (k : Dat) : Option (Option Dat) := match d with
  | .ref i => match sto[i]? with
    | some (.dK kvs) => (keyD k).map fun k => valD kvs k
    | some (.dT kvs) => match k with
      | .tuple ks => (keysD ks).map fun k => valD kvs k
      | _ => none
    | some (.dD kvs) => if tkD k = true then some (valN kvs k) else none
    | _ => none
  | .dat (.dict kvs) => lookV kvs k
  | _ => none
def inD : Sto → EV → EV → Option Bool := fun sto x y => match x with
  | .dat d => match view sto y with
    | some (.list ds) => if flatD d && ds.all flatD then some (ds.any fun z => PyData.eqv z d) else if shp 60 d && shp 60 (.list ds) then some (ds.any fun z => PyData.eqv z d) else none
    | some (.tuple ds) => if flatD d && ds.all flatD then some (ds.any fun z => PyData.eqv z d) else if shp 60 d && shp 60 (.tuple ds) then some (ds.any fun z => PyData.eqv z d) else none
    | some (.dict _) => (lookD sto y d).map fun o => o.isSome
    | some _ => none
    | none => (lookD sto y d).map fun o => o.isSome
  | _ => none
def inO : Sto → EV → EV → Option Dat := fun sto x y => (inD sto x y).map .bool
def ninO : Sto → EV → EV → Option Dat := fun sto x y => (inD sto x y).map fun b => .bool (!b)
def isNone : Dat → Bool
  | .none => true
  | _ => false
def isNO : Sto → EV → EV → Option Dat := fun _ x y => match x, y with
  | .dat d, .dat .none => some (.bool (isNone d))
  | _, _ => none
def isnNO : Sto → EV → EV → Option Dat := fun _ x y => match x, y with
  | .dat d, .dat .none => some (.bool (!isNone d))
  | _, _ => none
def isBO : Sto → EV → EV → Option Dat := fun _ x y => match x, y with
  | .dat (.bool a), .dat (.bool b) => some (.bool (decide (a = b)))
  | _, _ => none
def isnBO : Sto → EV → EV → Option Dat := fun _ x y => match x, y with
  | .dat (.bool a), .dat (.bool b) => some (.bool (!decide (a = b)))
  | _, _ => none

/-! ### facts -/
section
variable {K : PySem.W.Frag} {ex : List Addr} {μ : Mu} {H : Hp} {sto : Sto} {Q : VK} {vs : List V} {ds : List Dat}
theorem new_tup (S : StoR K ex μ H sto) (r : RpL (hf ex μ H) vs ds) (l : vs.length ≤ sizeLine) (q : ∀ v' μ' H', FwdE μ H μ' H' → StoR K ex μ' H' sto → Rp (hf ex μ' H') v' (.tuple ds) → Q v' H') : ∀ p, H p = none → Q (.ref p) (upd H p (.tup vs)) :=
  fun p hp => q _ μ _ (S.laid hp).2 (S.laid hp).1 (.tup (S.at_new hp) l (r.mono (S.laid hp).2.fwd.sub))
theorem new_lst (S : StoR K ex μ H sto) (r : RpL (hf ex μ H) vs ds) (l : vs.length ≤ sizeLine) (q : ∀ v' μ' H', FwdE μ H μ' H' → StoR K ex μ' H' sto → Rp (hf ex μ' H') v' (.list ds) → Q v' H') : ∀ p, H p = none → Q (.ref p) (upd H p (.lst vs)) :=
  fun p hp => q _ μ _ (S.laid hp).2 (S.laid hp).1 (.lst (S.at_new hp) l (r.mono (S.laid hp).2.fwd.sub))
theorem view_rp (S : StoR K ex μ H sto) {v : V} {x : EV} {d : Dat} (r : EvR (hf ex μ H) μ v x) (h : view sto x = some d) : Rp H v d := by
  cases x with
  | dat e =>
    cases h
    exact Rp.mono (off_sub _ _) r
  | ref i =>
    obtain ⟨a, as, hμ, rfl⟩ := r
    unfold view at h
    simp only at h
    split at h
    · rename_i xs hs
      cases h
      obtain ⟨b, vs, e, hb, l, rr⟩ := S.cells i _ _ hμ hs
      cases e
      exact .lst hb l (rr.mono (off_sub _ _))
    · cases h
end
theorem shp_ok : ∀ (n : Nat) (d : Dat), shp n d = true → d.canLay0 = true ∧ d.depth ≤ n := by
  have all : ∀ (n : Nat), (∀ d : Dat, shp n d = true → d.canLay0 = true ∧ d.depth ≤ n) → ∀ xs : List Dat, xs.all (shp n) = true → PyData.canLayAll0 xs = true ∧ PyData.depthAll xs ≤ n := by
    intro n ih xs
    induction xs with
    | nil => intro _; simp [PyData.canLayAll0, PyData.depthAll]
    | cons x r ihr =>
      intro h
      rw [List.all_cons, Bool.and_eq_true] at h
      have a := ih x h.1
      have b := ihr h.2
      simp only [PyData.canLayAll0, PyData.depthAll, a.1, b.1, Bool.and_self, true_and]
      omega
  intro n
  induction n with
  | zero =>
    intro d h
    cases d <;> simp [shp, PyData.canLay0, PyData.depth] at h ⊢ <;> exact h
  | succ n ih =>
    intro d h
    cases d with
    | none => simp [PyData.canLay0, PyData.depth]
    | bool b => simp [PyData.canLay0, PyData.depth]
    | int i => simp [PyData.canLay0, PyData.depth]
    | str x => simp [PyData.canLay0, PyData.depth]; exact h
    | list xs =>
      have := all n ih xs h
      simp only [PyData.canLay0, PyData.depth]
      exact ⟨this.1, by omega⟩
    | tuple xs =>
      have := all n ih xs h
      simp only [PyData.canLay0, PyData.depth]
      exact ⟨this.1, by omega⟩
    | dict kvs => simp [shp] at h
theorem nod_of : ∀ (n : Nat) (d : Dat), shp n d = true → nodD d = true := by
  have all : ∀ (n : Nat), (∀ d : Dat, shp n d = true → nodD d = true) → ∀ xs : List Dat, xs.all (shp n) = true → nodL xs = true := by
    intro n ih xs
    induction xs with
    | nil => intro _; rfl
    | cons x r ihr =>
      intro h
      rw [List.all_cons, Bool.and_eq_true] at h
      rw [nodL, ih x h.1, ihr h.2]
      rfl
  intro n
  induction n with
  | zero =>
    intro d h
    cases d <;> first | rfl | simp [shp] at h
  | succ n ih =>
    intro d h
    cases d with
    | list xs => exact all n ih xs h
    | tuple xs => exact all n ih xs h
    | dict kvs => simp [shp] at h
    | _ => rfl
theorem shaped_of {d : Dat} (h : shp 60 d = true) : SeqAt.shaped d = true := by
  have := shp_ok 60 d h
  unfold SeqAt.shaped
  rw [this.1, decide_eq_true (by omega : d.depth ≤ 64)]
  rfl

section
variable {K : PySem.W.Frag}
theorem od_i {g : Int → Int → V} {k : Int → Int → Dat} (hk : ∀ i j Hf, Rp Hf (g i j) (k i j)) : OpD K (rI0 g) (iOp k) := by
  intro ex μ H sto x y v w d Q S rx ry h q
  unfold iOp at h
  split at h
  · cases h
    cases rx
    cases ry
    exact ⟨_, _, rfl, rfl, q _ μ H (.refl _ _) S (hk _ _ _)⟩
  · cases h
theorem od_ic {C : Int → Int → Prop} {c : Int → Int → Bool} {g : Int → Int → V} {k : Int → Int → Dat} (hc : ∀ i j, c i j = true → C i j) (hk : ∀ i j Hf, Rp Hf (g i j) (k i j)) : OpD K (rI C g) (iOpC c k) := by
  intro ex μ H sto x y v w d Q S rx ry h q
  unfold iOpC at h
  split at h
  · split at h
    · rename_i hh
      cases h
      cases rx
      cases ry
      exact ⟨_, _, rfl, rfl, hc _ _ hh, q _ μ H (.refl _ _) S (hk _ _ _)⟩
    · cases h
  · cases h
theorem od_sub : OpD K (rI0 fun i j => .int (i - j)) subD := od_i fun _ _ _ => .int _
theorem od_fdiv : OpD K (rI CDivN fun i j => .int (i.fdiv j)) fdivD := od_ic (fun i j h => by
  rw [Bool.and_eq_true, decide_eq_true_iff, decide_eq_true_iff] at h
  exact h) fun _ _ _ => .int _
theorem od_mod : OpD K (rI (fun _ j => j ≠ 0) fun i j => .int (i.fmod j)) modD := od_ic (fun i j h => of_decide_eq_true h) fun _ _ _ => .int _
theorem od_lt : OpD K (rI0 fun i j => .bl (decide (i < j))) ltI := od_i fun _ _ _ => .bl _
theorem od_le : OpD K (rI0 fun i j => .bl (decide (i ≤ j))) leI := od_i fun _ _ _ => .bl _
theorem od_gt : OpD K (rI0 fun i j => .bl (decide (j < i))) gtI := od_i fun _ _ _ => .bl _
theorem od_ge : OpD K (rI0 fun i j => .bl (decide (j ≤ i))) geI := od_i fun _ _ _ => .bl _
theorem OpD.mono {r r' : R2} {f : Sto → EV → EV → Option Dat} (h : OpD K r f) (w : ∀ x y H Q, r x y H Q → r' x y H Q) : OpD K r' f := fun ex μ H sto x y v w' d Q S rx ry e q => w _ _ _ _ (h ex μ H sto x y v w' d Q S rx ry e q)
/-! + -/
def rAddA (K : PySem.W.Frag) : R2 := fun x y H Q => (rI0 fun i j => V.int (i + j)) x y H Q ∨ ((∃ i j, x = .str i ∧ y = .str j ∧ i.length + j.length ≤ sizeLine ∧ Q (.str (i ++ j)) H) ∨ (rCatA K x y H Q ∨ rCat x y H Q))
theorem op_addA {X : Cx} : OpR X (binaryOp .Add) (rAddA X.K) := OpR.or op_add (OpR.or op_add_str (OpR.or op_catA op_cat))
theorem Rp.list_inv {H : Hp} {v : V} {ds : List Dat} (h : Rp H v (.list ds)) : ∃ a vs, v = .ref a ∧ H a = some (.lst vs) ∧ vs.length ≤ sizeLine ∧ RpL H vs ds := by
  cases h with
  | lst e l r => exact ⟨_, _, rfl, e, l, r⟩
theorem Rp.tup_inv {H : Hp} {v : V} {ds : List Dat} (h : Rp H v (.tuple ds)) : ∃ a vs, v = .ref a ∧ H a = some (.tup vs) ∧ vs.length ≤ sizeLine ∧ RpL H vs ds := by
  cases h with
  | tup e l r => exact ⟨_, _, rfl, e, l, r⟩
/-- the items of a viewed list, by what may be leant upon -/
theorem view_items {ex : List Addr} {μ : Mu} {H : Hp} {sto : Sto} (S : StoR K ex μ H sto) {v : V} {x : EV} {ds : List Dat} (r : EvR (hf ex μ H) μ v x) (h : view sto x = some (.list ds)) : ∃ a vs, v = .ref a ∧ H a = some (.lst vs) ∧ vs.length ≤ sizeLine ∧ RpL (hf ex μ H) vs ds := by
  cases x with
  | dat e =>
    cases h
    obtain ⟨a, vs, rfl, e, l, rr⟩ := Rp.list_inv r
    exact ⟨a, vs, rfl, (off_some e).2, l, rr⟩
  | ref i =>
    obtain ⟨a, as, hμ, rfl⟩ := r
    unfold view at h
    simp only at h
    split at h
    · rename_i xs hs
      cases h
      obtain ⟨b, vs, e, hb, l, rr⟩ := S.cells i _ _ hμ hs
      cases e
      exact ⟨a, vs, rfl, hb, l, rr⟩
    · cases h
theorem view_tup {ex : List Addr} {μ : Mu} {H : Hp} {sto : Sto} (S : StoR K ex μ H sto) {v : V} {x : EV} {ds : List Dat} (r : EvR (hf ex μ H) μ v x) (h : view sto x = some (.tuple ds)) : ∃ a vs, v = .ref a ∧ H a = some (.tup vs) ∧ vs.length ≤ sizeLine ∧ RpL (hf ex μ H) vs ds := by
  cases x with
  | dat e =>
    cases h
    obtain ⟨a, vs, rfl, e, l, rr⟩ := Rp.tup_inv r
    exact ⟨a, vs, rfl, (off_some e).2, l, rr⟩
  | ref i =>
    unfold view at h
    simp only at h
    split at h <;> cases h
theorem od_add : OpD K (rAddA K) addD := by
  intro ex μ H sto x y v w d Q S rx ry h q
  unfold addD at h
  split at h
  · cases h
    cases rx
    cases ry
    exact .inl ⟨_, _, rfl, rfl, q _ μ H (.refl _ _) S (.int _)⟩
  · split at h
    · cases h
      cases rx
      cases ry
      exact .inr (.inl ⟨_, _, rfl, rfl, by assumption, q _ μ H (.refl _ _) S (.str _)⟩)
    · cases h
  · split at h
    · rename_i a b hl
      cases h
      obtain ⟨pa, va, rfl, ha, la, ra⟩ := Rp.tup_inv rx
      obtain ⟨pb, vb, rfl, hb, lb, rb⟩ := Rp.tup_inv ry
      have hlen : va.length + vb.length ≤ sizeLine := by rw [ra.length, rb.length]; exact hl
      refine .inr (.inr (.inl ⟨pa, pb, va, vb, rfl, rfl, SqT.of (off_some ha).2, SqT.of (off_some hb).2, hlen, fun e => ?_, fun _ e => ?_, fun _ _ => new_tup S (ra.append rb) (by rw [List.length_append]; exact hlen) q⟩))
      · subst e
        cases ra
        exact q _ μ H (.refl _ _) S ry
      · subst e
        cases rb
        rw [List.append_nil] at q
        exact q _ μ H (.refl _ _) S rx
    · cases h
  · split at h
    · rename_i a b e1 e2
      split at h
      · rename_i hl
        cases h
        obtain ⟨pa, va, rfl, ha, la, ra⟩ := view_items S rx e1
        obtain ⟨pb, vb, rfl, hb, lb, rb⟩ := view_items S ry e2
        have hlen : va.length + vb.length ≤ sizeLine := by rw [ra.length, rb.length]; exact hl
        exact .inr (.inr (.inr ⟨pa, pb, va, vb, rfl, rfl, ha, hb, hlen, new_lst S (ra.append rb) (by rw [List.length_append]; exact hlen) q⟩))
      · cases h
    · cases h
/-! * -/
def rMulA (K : PySem.W.Frag) : R2 := fun x y H Q => (rI CMul fun i j => V.int (i * j)) x y H Q ∨ (rRepT K x y H Q ∨ rRep x y H Q)
theorem op_mulA {X : Cx} : OpR X (binaryOp .Mult) (rMulA X.K) := OpR.or op_mul (OpR.or op_repT op_rep)
theorem mulOk_c {i j : Int} (h : mulOk i j = true) : CMul i j := by
  unfold mulOk at h
  rw [Bool.or_eq_true, wIn_iff, wIn_iff] at h
  unfold CMul
  omega
theorem flat_len {α : Type} (l : List α) : ∀ n : Nat, (List.replicate n l).flatten.length = l.length * n
  | 0 => by simp
  | n + 1 => by
    rw [List.replicate_succ, List.flatten_cons, List.length_append, flat_len l n, Nat.mul_succ]
    omega
theorem od_mul : OpD K (rMulA K) mulD := by
  intro ex μ H sto x y v w d Q S rx ry h q
  unfold mulD at h
  split at h
  · split at h
    · rename_i hh
      cases h
      cases rx
      cases ry
      exact .inl ⟨_, _, rfl, rfl, mulOk_c hh, q _ μ H (.refl _ _) S (.int _)⟩
    · cases h
  · rename_i a0 k0
    split at h
    · rename_i hh
      cases h
      obtain ⟨h1, h2, h3, h4⟩ := hh
      obtain ⟨pa, va, rfl, ha, la, ra⟩ := Rp.tup_inv rx
      cases ry
      refine .inr (.inl ⟨pa, _, va, rfl, rfl, SqT.of (off_some ha).2, fun z => ?_, h2, h3, by rw [ra.length]; exact h4, new_tup S (ra.replicate _) ?_ q⟩)
      · subst z
        cases ra
        exact h1 rfl
      · rw [flat_len, ra.length]
        have a1 := Nat.mul_le_mul h4 (show k0.toNat ≤ 1000 from by omega)
        exact Nat.le_trans a1 (by decide)
    · cases h
  · split at h
    · rename_i e1
      split at h
      · rename_i hh
        cases h
        obtain ⟨h1, h3⟩ := hh
        obtain ⟨h1, h2⟩ := wIn_iff.mp h1
        obtain ⟨pa, va, rfl, ha, la, ra⟩ := view_items S rx e1
        cases ry
        exact .inr (.inr ⟨pa, _, va, rfl, rfl, ha, h1, h2, by rw [ra.length]; exact h3, new_lst S (ra.replicate _) (by rw [flat_len, ra.length]; exact h3) q⟩)
      · cases h
    · cases h
  · cases h
/-! ==, != -/
theorem od_eq : OpD K (rEqD K) eqD := by
  intro ex μ H sto x y v w d Q S rx ry h q
  unfold eqD at h
  split at h
  · rename_i a b e1 e2
    split at h
    · rename_i hh
      rw [Bool.and_eq_true] at hh
      cases h
      exact ⟨a, b, (view_rp S rx e1).dp (nod_of _ _ hh.1), (view_rp S ry e2).dp (nod_of _ _ hh.2), shaped_of hh.1, shaped_of hh.2, q _ μ H (.refl _ _) S (.bl _)⟩
    · cases h
  · cases h
theorem od_ne : OpD K (rNeD K) neD := by
  intro ex μ H sto x y v w d Q S rx ry h q
  unfold neD at h
  split at h
  · rename_i a b e1 e2
    split at h
    · rename_i hh
      rw [Bool.and_eq_true] at hh
      cases h
      exact ⟨a, b, (view_rp S rx e1).dp (nod_of _ _ hh.1), (view_rp S ry e2).dp (nod_of _ _ hh.2), shaped_of hh.1, shaped_of hh.2, q _ μ H (.refl _ _) S (.bl _)⟩
    · cases h
  · cases h
/-! is -/
theorem od_isN : OpD K (fun x y H Q => y = .non ∧ Q (.bl (decide (x = .non))) H) isNO := by
  intro ex μ H sto x y v w d Q S rx ry h q
  unfold isNO at h
  split at h
  · rename_i e
    cases h
    cases ry
    refine ⟨rfl, q _ μ H (.refl _ _) S ?_⟩
    have r : Rp (hf ex μ H) v e := rx
    cases r <;> exact .bl _
  · cases h
theorem od_isnN : OpD K (fun x y H Q => y = .non ∧ Q (.bl (!decide (x = .non))) H) isnNO := by
  intro ex μ H sto x y v w d Q S rx ry h q
  unfold isnNO at h
  split at h
  · rename_i e
    cases h
    cases ry
    refine ⟨rfl, q _ μ H (.refl _ _) S ?_⟩
    have r : Rp (hf ex μ H) v e := rx
    cases r <;> exact .bl _
  · cases h
theorem od_isB : OpD K rIsB isBO := by
  intro ex μ H sto x y v w d Q S rx ry h q
  unfold isBO at h
  split at h
  · cases h
    cases rx
    cases ry
    exact ⟨_, _, rfl, rfl, q _ μ H (.refl _ _) S (.bl _)⟩
  · cases h
theorem od_isnB : OpD K rNotB isnBO := by
  intro ex μ H sto x y v w d Q S rx ry h q
  unfold isnBO at h
  split at h
  · cases h
    cases rx
    cases ry
    exact ⟨_, _, rfl, rfl, q _ μ H (.refl _ _) S (.bl _)⟩
  · cases h
/-! in -/
theorem flat_of {Hf : Hp} {v : V} {d : Dat} (r : Rp Hf v d) (h : flatD d = true) : flatV v = true := by
  cases r <;> first | rfl | (simp [flatD] at h)
theorem eqV_of {Hf Hg : Hp} {v w : V} {d e : Dat} (r : Rp Hf v d) (s : Rp Hg w e) (h : flatD d = true) (h' : flatD e = true) : eqV v w = PyData.eqv d e := by
  cases r <;> cases s <;> simp [flatD] at h h' <;> rfl
theorem allFlat {Hf : Hp} : ∀ {vs : List V} {ds : List Dat}, RpL Hf vs ds → ds.all flatD = true → vs.all flatV = true
  | _, _, .nil, _ => rfl
  | _, _, .cons a b, h => by
    rw [List.all_cons, Bool.and_eq_true] at h
    rw [List.all_cons, flat_of a h.1, allFlat b h.2]
    rfl
theorem anyFlat {Hf Hg : Hp} {w : V} {e : Dat} (s : Rp Hg w e) (h' : flatD e = true) : ∀ {vs : List V} {ds : List Dat}, RpL Hf vs ds → ds.all flatD = true → inV w vs = ds.any fun z => PyData.eqv z e
  | _, _, .nil, _ => rfl
  | _, _, .cons a b, h => by
    rw [List.all_cons, Bool.and_eq_true] at h
    unfold inV
    rw [List.any_cons, List.any_cons, eqV_of a s h.1 h']
    congr 1
    exact anyFlat s h' b h.2
theorem pairedK_find {Hf : Hp} {κ : Type} [DecidableEq κ] {k : κ} : ∀ {vs : List (κ × V)} {kvs : List (κ × Dat)}, Paired (kvR Hf) vs kvs → (valV vs k = none ∧ valD kvs k = none) ∨ ∃ v d, valV vs k = some v ∧ valD kvs k = some d ∧ Rp Hf v d
  | _, _, .nil => .inl ⟨rfl, rfl⟩
  | _, _, .cons (a := p) (b := q) r t => by
    by_cases e : p.1 = k
    · have e' : q.1 = k := by rw [← r.1]; exact e
      refine .inr ⟨p.2, q.2, valV_pos e, ?_, r.2⟩
      unfold valD
      rw [List.find?_cons, decide_eq_true e']
      rfl
    · have e' : ¬ q.1 = k := by rw [← r.1]; exact e
      rw [valV_neg e]
      have : ∀ (l : List (κ × Dat)), valD (q :: l) k = valD l k := fun l => by
        unfold valD
        rw [List.find?_cons, decide_eq_false e']
      rw [this]
      exact pairedK_find t
theorem keyD_v {Hf : Hp} {v : V} {d : Dat} {k : Key} (r : Rp Hf v d) (h : keyD d = some k) : v = kV k := by
  cases r <;> simp [keyD] at h <;> subst h <;> rfl
theorem keysD_v {Hf : Hp} : ∀ {vs : List V} {ds : List Dat} {ks : List Key}, RpL Hf vs ds → keysD ds = some ks → vs = ks.map kV
  | _, _, ks, .nil, h => by
    cases h
    rfl
  | _, _, ks, .cons a b, h => by
    unfold keysD at h
    split at h
    · rename_i e1 e2
      cases h
      rw [List.map_cons, keyD_v a e1, keysD_v b e2]
    · cases h
/-- what a dict's cell holds, by the layer's own word -/
theorem rpk_find {Hf : Hp} (i : Int) : ∀ {vs : List (Key × V)} {kvs : List (Dat × Dat)}, RpK Hf vs kvs → (valV vs (.inl i) = none ∧ valN kvs (.int i) = none) ∨ ∃ z e, valV vs (.inl i) = some z ∧ valN kvs (.int i) = some e ∧ Rp Hf z e
  | _, _, .nil => .inl ⟨rfl, rfl⟩
  | _, _, .cons (k := k) r t => by
    have ih := rpk_find i t
    unfold valV valN at ih ⊢
    by_cases q : k = i
    · subst q
      refine .inr ⟨_, _, ?_, ?_, r⟩
      · rw [List.find?_cons_of_pos (by simp)]
        rfl
      · rw [List.find?_cons_of_pos (by simp)]
        rfl
    · rw [List.find?_cons_of_neg (by simpa using q), List.find?_cons_of_neg (by
        simp only [decide_eq_true_eq]
        intro z
        unfold nkD at z
        cases z
        exact q rfl)]
      exact ih
/-- what a dict by data holds at a key -/
def DOG (Hf H : Hp) (x y : V) (od : Option Dat) : Prop := ∃ a es ep kvs k, x = .ref a ∧ Sub Hf H ∧ H a = some (DO a es ep) ∧ DOk kvs ∧ RpE Hf es kvs ∧ tkD k = true ∧ Rp H y k ∧ valN kvs k = od
theorem look_get {ex : List Addr} {μ : Mu} {H : Hp} {sto : Sto} (S : StoR K ex μ H sto) {v w : V} {x : EV} {d : Dat} {o : Option Dat} (rx : EvR (hf ex μ H) μ v x) (ry : Rp (hf ex μ H) w d) (h : lookD sto x d = some o) :
    (∃ a u, v = .ref a ∧ DGet H a w u ∧ ((o = none ∧ u = none) ∨ ∃ e z, o = some e ∧ u = some z ∧ Rp (hf ex μ H) z e)) ∨ DOG (hf ex μ H) H v w o := by
  unfold lookD at h
  split at h
  · rename_i i
    obtain ⟨a, as, hμ, rfl⟩ := rx
    split at h
    · rename_i kvs hs
      obtain ⟨b, vs, e, hb, p⟩ := S.cells i _ _ hμ hs
      cases e
      cases hk : keyD d with
      | none => rw [hk] at h; cases h
      | some k =>
        rw [hk] at h
        cases h
        have ek := keyD_v ry hk
        subst ek
        refine .inl ⟨a, _, rfl, DGet.k hb, ?_⟩
        rcases pairedK_find (k := k) p with ⟨q1, q2⟩ | ⟨z, e, q1, q2, q3⟩
        · exact .inl ⟨q2, q1⟩
        · exact .inr ⟨e, z, q2, q1, q3⟩
    · rename_i kvs hs
      obtain ⟨b, vs, e, hb, p⟩ := S.cells i _ _ hμ hs
      cases e
      split at h
      · rename_i ks
        cases hk : keysD ks with
        | none => rw [hk] at h; cases h
        | some k =>
          rw [hk] at h
          cases h
          obtain ⟨q, ws, rfl, hq, _, rq⟩ := Rp.tup_inv ry
          have ek := keysD_v rq hk
          subst ek
          refine .inl ⟨a, _, rfl, DGet.t hb (off_some hq).2, ?_⟩
          rcases pairedK_find (k := k) p with ⟨q1, q2⟩ | ⟨z, e, q1, q2, q3⟩
          · exact .inl ⟨q2, q1⟩
          · exact .inr ⟨e, z, q2, q1, q3⟩
      · cases h
    · rename_i kvs hs
      obtain ⟨b, es, ep, e, hb, z, ko, p⟩ := S.cells i _ _ hμ hs
      cases e
      split at h
      · rename_i hk
        cases h
        exact .inr ⟨a, es, ep, kvs, d, rfl, off_sub _ _, hb, ko, p, hk, Rp.mono (off_sub _ _) ry, rfl⟩
      · cases h
    · cases h
  · rename_i kvs
    unfold lookV at h
    split at h
    · rename_i i0 d0 r0
      split at h
      · rename_i i
        cases h
        have rx : Rp (hf ex μ H) v (.dict ((.int i0, d0) :: r0)) := rx
        cases rx with
        | dct e l ko p =>
          have := ko.keys _ List.mem_cons_self
          cases this
        | dkk e p =>
          rename_i a vs
          cases ry
          refine .inl ⟨a, _, rfl, DGet.k (k := .inl i) (off_some e).2, ?_⟩
          rcases rpk_find i p with ⟨q1, q2⟩ | ⟨z, e, q1, q2, q3⟩
          · exact .inl ⟨q2, q1⟩
          · exact .inr ⟨e, z, q2, q1, q3⟩
      · cases h
    · rename_i ds0 d0 r0
      split at h
      · rename_i hk
        cases h
        have rx : Rp (hf ex μ H) v (.dict ((.tuple ds0, d0) :: r0)) := rx
        cases rx with
        | dct e l ko p => exact .inr ⟨_, _, _, _, d, rfl, off_sub _ _, (off_some e).2, ko, p, hk, Rp.mono (off_sub _ _) ry, rfl⟩
        | dkk e p => cases p
      · cases h
    · cases h
  · cases h
def rDIn (neg : Bool) : R2 := fun y x H Q => ∃ a o, x = .ref a ∧ DGet H a y o ∧ Q (.bl (if neg then !o.isSome else o.isSome)) H
theorem op_dIn {X : Cx} (hu : X.A.units + 1 < cLine) : OpR X (compareOp .In) (rDIn false) := by
  intro pins s σ H x y v u Q I rx ry ⟨a, o, e, g, q⟩
  subst e
  obtain rfl : u = Value.ref a := ry
  exact d_in hu I g rx fun s3 I3 => ⟨.bl o.isSome, H, I3, rfl, q⟩
theorem op_dNin {X : Cx} (hu : X.A.units + 1 < cLine) : OpR X (compareOp .NotIn) (rDIn true) := by
  intro pins s σ H x y v u Q I rx ry ⟨a, o, e, g, q⟩
  subst e
  obtain rfl : u = Value.ref a := ry
  exact d_notIn hu I g rx fun s3 I3 => ⟨.bl (!o.isSome), H, I3, rfl, q⟩
def rDOIn (neg : Bool) : R2 := fun y x H Q => ∃ Hf od, DOG Hf H x y od ∧ Q (.bl (if neg then !od.isSome else od.isSome)) H
theorem op_doIn {X : Cx} (hu : X.A.units + 9 < cLine) : OpR X (compareOp .In) (rDOIn false) := by
  intro pins s σ H x y v u Q I rx ry ⟨Hf, od, ⟨a, es, ep, kvs, k, e, sb, ha, ko, r, hk, rk, hv⟩, q⟩
  subst e hv
  obtain rfl : u = Value.ref a := ry
  exact do_in hu I sb ha ko r hk rk rx fun s3 I3 => ⟨.bl (valN kvs k).isSome, H, I3, rfl, q⟩
theorem op_doNin {X : Cx} (hu : X.A.units + 9 < cLine) : OpR X (compareOp .NotIn) (rDOIn true) := by
  intro pins s σ H x y v u Q I rx ry ⟨Hf, od, ⟨a, es, ep, kvs, k, e, sb, ha, ko, r, hk, rk, hv⟩, q⟩
  subst e hv
  obtain rfl : u = Value.ref a := ry
  exact do_notIn hu I sb ha ko r hk rk rx fun s3 I3 => ⟨.bl (!(valN kvs k).isSome), H, I3, rfl, q⟩
def rInDD (K : PySem.W.Frag) (neg : Bool) : R2 := fun x y H Q => ∃ d c ds, (c = PyData.list ds ∨ c = PyData.tuple ds) ∧ Dp K H x d ∧ Dp K H y c ∧ SeqAt.shaped d = true ∧ SeqAt.shaped c = true ∧ Q (.bl (if neg then !ds.any (fun z => PyData.eqv z d) else ds.any fun z => PyData.eqv z d)) H
theorem op_inDD {X : Cx} (hu : X.A.units + 65 < cLine) : OpR X (compareOp .In) (rInDD X.K false) := by
  intro pins s σ H x y v u Q I rx ry ⟨d, c, ds, hc, hd, he, sd, se, q⟩
  rcases hc with rfl | rfl
  · exact op_inD hu pins s σ H x y v u Q I rx ry ⟨d, ds, hd, he, sd, se, q⟩
  · obtain ⟨as, r1⟩ := Dp.reads I d x v hd rx
    obtain ⟨bs, r2⟩ := Dp.reads I (.tuple ds) y u he ry
    exact SeqAt.in_tuple_reads r2 r1 (SeqAt.canLay_of_shaped se) (SeqAt.canLay_of_shaped sd) (room_in_shaped sd hu) ⟨.bl _, H, I, rfl, q⟩
theorem op_notInDD {X : Cx} (hu : X.A.units + 65 < cLine) : OpR X (compareOp .NotIn) (rInDD X.K true) := by
  intro pins s σ H x y v u Q I rx ry ⟨d, c, ds, hc, hd, he, sd, se, q⟩
  rcases hc with rfl | rfl
  · exact op_notInD hu pins s σ H x y v u Q I rx ry ⟨d, ds, hd, he, sd, se, q⟩
  · obtain ⟨as, r1⟩ := Dp.reads I d x v hd rx
    obtain ⟨bs, r2⟩ := Dp.reads I (.tuple ds) y u he ry
    exact SeqAt.notIn_tuple_reads r2 r1 (SeqAt.canLay_of_shaped se) (SeqAt.canLay_of_shaped sd) (room_in_shaped sd hu) ⟨.bl _, H, I, rfl, q⟩
def rInA (K : PySem.W.Frag) : R2 := fun x y H Q => rIn K false x y H Q ∨ (rInDD K false x y H Q ∨ (rDIn false x y H Q ∨ rDOIn false x y H Q))
def rNinA (K : PySem.W.Frag) : R2 := fun x y H Q => rIn K true x y H Q ∨ (rInDD K true x y H Q ∨ (rDIn true x y H Q ∨ rDOIn true x y H Q))
theorem op_inA {X : Cx} (hu : X.A.units + 65 < cLine) : OpR X (compareOp .In) (rInA X.K) := OpR.or op_in_seq (OpR.or (op_inDD hu) (OpR.or (op_dIn (by omega)) (op_doIn (by omega))))
theorem op_ninA {X : Cx} (hu : X.A.units + 65 < cLine) : OpR X (compareOp .NotIn) (rNinA X.K) := OpR.or op_notIn_seq (OpR.or (op_notInDD hu) (OpR.or (op_dNin (by omega)) (op_doNin (by omega))))
theorem in_core {ex : List Addr} {μ : Mu} {H : Hp} {sto : Sto} {x y : EV} {v w : V} {b : Bool} (S : StoR K ex μ H sto) (rx : EvR (hf ex μ H) μ v x) (ry : EvR (hf ex μ H) μ w y) (h : inD sto x y = some b) :
    (∃ p xs, w = .ref p ∧ (SqL K H p xs ∨ SqT K H p xs) ∧ flatV v = true ∧ xs.all flatV = true ∧ inV v xs = b) ∨
    (∃ d c ds, (c = PyData.list ds ∨ c = PyData.tuple ds) ∧ Dp K H v d ∧ Dp K H w c ∧ SeqAt.shaped d = true ∧ SeqAt.shaped c = true ∧ (ds.any fun z => PyData.eqv z d) = b) ∨
    (∃ a o, w = .ref a ∧ DGet H a v o ∧ o.isSome = b) ∨ ∃ od, DOG (hf ex μ H) H w v od ∧ od.isSome = b := by
  have core : ∀ {d : Dat}, EvR (hf ex μ H) μ v (.dat d) → (lookD sto y d).map (fun (o : Option Dat) => o.isSome) = some b → (∃ a o, w = .ref a ∧ DGet H a v o ∧ o.isSome = b) ∨ ∃ od, DOG (hf ex μ H) H w v od ∧ od.isSome = b := by
    intro d rx h
    cases hl : lookD sto y d with
    | none => rw [hl] at h; cases h
    | some o =>
      rw [hl] at h
      cases h
      rcases look_get S ry rx hl with ⟨a, u, rfl, g, c⟩ | g
      · refine .inl ⟨a, u, rfl, g, ?_⟩
        rcases c with ⟨rfl, rfl⟩ | ⟨e, z, rfl, rfl, _⟩ <;> rfl
      · exact .inr ⟨o, g, rfl⟩
  unfold inD at h
  split at h
  · rename_i d
    split at h
    · rename_i ds e
      obtain ⟨p, vs, rfl, hp, l, rr⟩ := view_items S ry e
      split at h
      · rename_i hh
        rw [Bool.and_eq_true] at hh
        cases h
        exact .inl ⟨p, vs, rfl, .inl (SqL.of hp), flat_of rx hh.1, allFlat rr hh.2, anyFlat rx hh.1 rr hh.2⟩
      · split at h
        · rename_i hh
          rw [Bool.and_eq_true] at hh
          cases h
          exact .inr (.inl ⟨d, _, ds, .inl rfl, (Rp.mono (off_sub _ _) rx).dp (nod_of _ _ hh.1), (view_rp S ry e).dp (nod_of _ _ hh.2), shaped_of hh.1, shaped_of hh.2, rfl⟩)
        · cases h
    · rename_i ds e
      obtain ⟨p, vs, rfl, hp, l, rr⟩ := view_tup S ry e
      split at h
      · rename_i hh
        rw [Bool.and_eq_true] at hh
        cases h
        exact .inl ⟨p, vs, rfl, .inr (SqT.of hp), flat_of rx hh.1, allFlat rr hh.2, anyFlat rx hh.1 rr hh.2⟩
      · split at h
        · rename_i hh
          rw [Bool.and_eq_true] at hh
          cases h
          exact .inr (.inl ⟨d, _, ds, .inr rfl, (Rp.mono (off_sub _ _) rx).dp (nod_of _ _ hh.1), (view_rp S ry e).dp (nod_of _ _ hh.2), shaped_of hh.1, shaped_of hh.2, rfl⟩)
        · cases h
    · exact .inr (.inr (core rx h))
    · cases h
    · exact .inr (.inr (core rx h))
  · cases h
theorem od_in : OpD K (rInA K) inO := by
  intro ex μ H sto x y v w d Q S rx ry h q
  unfold inO at h
  cases hb : inD sto x y with
  | none => rw [hb] at h; cases h
  | some b =>
    rw [hb] at h
    cases h
    have fin : Q (.bl b) H := q _ μ H (.refl _ _) S (.bl _)
    rcases in_core S rx ry hb with ⟨p, xs, rfl, h1, h2, h3, rfl⟩ | ⟨d, c, ds, hc, h1, h2, h3, h4, rfl⟩ | ⟨a, o, rfl, g, rfl⟩ | ⟨od, g, rfl⟩
    · exact .inl ⟨p, xs, rfl, h1, h2, h3, fin⟩
    · exact .inr (.inl ⟨d, c, ds, hc, h1, h2, h3, h4, fin⟩)
    · exact .inr (.inr (.inl ⟨a, o, rfl, g, fin⟩))
    · exact .inr (.inr (.inr ⟨_, od, g, fin⟩))
theorem od_nin : OpD K (rNinA K) ninO := by
  intro ex μ H sto x y v w d Q S rx ry h q
  unfold ninO at h
  cases hb : inD sto x y with
  | none => rw [hb] at h; cases h
  | some b =>
    rw [hb] at h
    cases h
    have fin : Q (.bl (!b)) H := q _ μ H (.refl _ _) S (.bl _)
    rcases in_core S rx ry hb with ⟨p, xs, rfl, h1, h2, h3, rfl⟩ | ⟨d, c, ds, hc, h1, h2, h3, h4, rfl⟩ | ⟨a, o, rfl, g, rfl⟩ | ⟨od, g, rfl⟩
    · exact .inl ⟨p, xs, rfl, h1, h2, h3, fin⟩
    · exact .inr (.inl ⟨d, c, ds, hc, h1, h2, h3, h4, fin⟩)
    · exact .inr (.inr (.inl ⟨a, o, rfl, g, fin⟩))
    · exact .inr (.inr (.inr ⟨_, od, g, fin⟩))
end
end Mx

set_option maxHeartbeats 4000000
namespace Mx
open PySem PySem.Spec PyProof.Rows L2

/-! ### displays, new lists -/
def eTup (m : DA) : DE := fun env s => (m env s).bind fun xs s1 => match dats xs with
  | some ds => if ds.length ≤ sizeLine then .ok (.dat (.tuple ds)) s1 else .fail
  | none => .fail
def fLst (m : DA) : DF := fun env s => (m env s).bind fun xs s1 => match dats xs with
  | some ds => if ds.length ≤ sizeLine then .ok ds s1 else .fail
  | none => .fail
def eFrz (m : DF) : DE := fun env s => (m env s).bind fun ds s1 => .ok (.dat (.list ds)) s1
def eNew (m : DF) : DE := fun env s => (m env s).bind fun ds s1 => .ok (.ref s1.length) (s1 ++ [.lst ds])
theorem dats_rpl {Hf : Hp} {μ : Mu} : ∀ {vs : List V} {es : List EV} {ds : List Dat}, Paired (EvR Hf μ) vs es → dats es = some ds → RpL Hf vs ds
  | _, _, ds, .nil, h => by
    cases h
    exact .nil
  | _, _, ds, .cons (b := e) r t, h => by
    cases e with
    | ref i => cases h
    | dat d =>
      unfold dats at h
      rename_i es'
      cases hd : dats es' with
      | none => rw [hd] at h; cases h
      | some ds' =>
        rw [hd] at h
        cases h
        exact .cons r (dats_rpl t hd)
/-- a new list is a cell -/
theorem hf_add {ex : List Addr} {μ : Mu} {H : Hp} {p : Addr} : hf ex (μ ++ [[p]]) H = hf (p :: ex) μ H := by
  funext a
  have : a ∈ ex ++ (μ ++ [[p]]).flatten ↔ a ∈ (p :: ex) ++ μ.flatten := by
    simp only [List.flatten_append, List.mem_append, List.mem_cons, List.flatten_cons, List.flatten_nil, List.append_nil, List.not_mem_nil, or_false]
    constructor
    · rintro (h | h | h) <;> simp [h]
    · rintro ((h | h) | h) <;> simp [h]
  unfold hf off
  by_cases q : a ∈ (p :: ex) ++ μ.flatten
  · rw [if_pos q, if_pos (this.mpr q)]
  · rw [if_neg q, if_neg fun z => q (this.mp z)]
theorem StoR.add {K : PySem.W.Frag} {ex : List Addr} {μ : Mu} {H : Hp} {sto : Sto} {p : Addr} {c : Cell} (S : StoR K (p :: ex) μ H sto) (hp : p ∉ ex) (hc : CellR K H (hf (p :: ex) μ H) [p] c) : StoR K ex (μ ++ [[p]]) H (sto ++ [c]) := by
  have np : p ∉ μ.flatten := S.dis p List.mem_cons_self
  refine ⟨?_, by simp [S.len], fun i as d h1 h2 => ?_, fun a m => ?_, fun a m => S.alive a (List.mem_cons_of_mem _ m)⟩
  · rw [List.flatten_append, List.nodup_append]
    refine ⟨S.nd, by simp, fun a ha b hb => ?_⟩
    simp at hb
    subst hb
    intro z
    subst z
    exact np ha
  · rw [hf_add]
    by_cases hi : i < μ.length
    · rw [List.getElem?_append_left hi] at h1
      rw [List.getElem?_append_left (by rw [← S.len]; exact hi)] at h2
      exact S.cells i as d h1 h2
    · have hl := S.len
      have e : i = μ.length := by
        have := (List.getElem?_eq_some_iff.mp h1).1
        simp at this
        omega
      subst e
      rw [List.getElem?_append_right (Nat.le_refl _)] at h1
      rw [hl, List.getElem?_append_right (Nat.le_refl _)] at h2
      simp at h1 h2
      subst h1
      subst h2
      exact hc
  · rw [List.flatten_append, List.mem_append, not_or]
    refine ⟨S.dis a (List.mem_cons_of_mem _ m), ?_⟩
    simp
    intro z
    subst z
    exact hp m
theorem FwdE.add {μ : Mu} {H : Hp} {μ' : Mu} {H' : Hp} {p : Addr} (F : FwdE μ H μ' H') (h : H p = none) : FwdE μ H (μ' ++ [[p]]) H' := by
  obtain ⟨ν, rfl⟩ := F.ext
  refine ⟨F.keep, fun a m => ?_, ⟨ν ++ [[p]], by simp⟩⟩
  rw [List.flatten_append, List.mem_append] at m
  rcases m with m | m
  · exact F.fresh a m
  · simp at m
    subst m
    exact .inr h
section
variable {X : Cx} {EQ : EK} {σ : L2.St} {H : Hp} {Q : VK} {e : Expr} {es : List Expr} {pos : Pos}
theorem out_ex {K : PySem.W.Frag} {ex : List Addr} {μ : Mu} {H : Hp} {sto : Sto} (S : StoR K ex μ H sto) {p : Addr} (h : H p = none) : p ∉ ex := fun z => S.alive p z h
theorem pe_frz {m : DF} (h : PE X e (Tf X.K EQ m)) : PE X e (T X.K EQ (eFrz m)) := h.weak fun σ H Q => by
  rintro ⟨ex, μ, env, sto, S, V, h⟩
  refine Tf.then S V h fun ds s1 p vs μ1 H1 F1 S1 V1 hp hp1 l r h1 => ?_
  refine h1 _ μ1 H1 F1 S1.less (Rp.lst (off_of hp1 ?_) l (r.mono fun a o q => ?_))
  · rw [List.mem_append, not_or]
    exact ⟨out_ex S hp, S1.dis p List.mem_cons_self⟩
  · obtain ⟨n, q'⟩ := off_some q
    rw [List.cons_append, List.mem_cons, not_or] at n
    exact off_of q' n.2
theorem pe_new {m : DF} (h : PE X e (Tf X.K EQ m)) : PE X e (T X.K EQ (eNew m)) := h.weak fun σ H Q => by
  rintro ⟨ex, μ, env, sto, S, V, h⟩
  refine Tf.then S V h fun ds s1 p vs μ1 H1 F1 S1 V1 hp hp1 l r h1 => ?_
  refine h1 _ (μ1 ++ [[p]]) H1 (F1.add hp) (S1.add (out_ex S hp) ⟨p, vs, rfl, hp1, l, r⟩) ⟨p, [], ?_, rfl⟩
  rw [← S1.len, List.getElem?_append_right (Nat.le_refl _)]
  simp
theorem pe_t {m : DA} {k : Nat} (h : PA X es (Ta X.K EQ m)) : PE X (.Tuple es k pos) (T X.K EQ (eTup m)) := (L2.pe_tup h).weak fun σ H Q => by
  rintro ⟨ex, μ, env, sto, S, V, h⟩
  refine Ta.then S V h fun xs s1 vs μ1 H1 F1 S1 V1 r h1 => ?_
  split at h1
  · rename_i ds e
    split at h1
    · rename_i hl
      have rr := dats_rpl r e
      refine ⟨by rw [rr.length]; exact hl, new_tup S1 rr (by rw [rr.length]; exact hl) fun v' μ' H' F' S' r' => h1 v' μ' H' (F1.trans F') S' r'⟩
    · exact h1.elim
  · exact h1.elim
/-- a new list of these items -/
theorem fresh_lst {K : PySem.W.Frag} {ex : List Addr} {μ : Mu} {H : Hp} {sto : Sto} {vs : List V} {ds : List Dat} {μ0 : Mu} {H0 : Hp} (F : FwdE μ0 H0 μ H) (S : StoR K ex μ H sto) (r : RpL (hf ex μ H) vs ds) (l : vs.length ≤ sizeLine)
    (q : ∀ p vs μ' H', FwdE μ0 H0 μ' H' → StoR K (p :: ex) μ' H' sto → H0 p = none → H' p = some (.lst vs) → vs.length ≤ sizeLine → RpL (hf (p :: ex) μ' H') vs ds → Q (.ref p) H') : ∀ p, H p = none → Q (.ref p) (upd H p (.lst vs)) := fun p hp =>
  q p vs μ _ (F.trans (S.laid hp).2) (S.laidX hp) (F.back S hp) upd_same l (r.mono ((S.laid hp).2.fwd.subX hp))
theorem pf_l {m : DA} (h : PA X es (Ta X.K EQ m)) : PE X (.List es pos) (Tf X.K EQ (fLst m)) := (L2.pe_lst h).weak fun σ H Q => by
  rintro ⟨ex, μ, env, sto, S, V, h⟩
  refine Ta.then S V h fun xs s1 vs μ1 H1 F1 S1 V1 r h1 => ?_
  split at h1
  · rename_i ds e
    split at h1
    · rename_i hl
      have rr := dats_rpl r e
      exact ⟨by rw [rr.length]; exact hl, fresh_lst F1 S1 rr (by rw [rr.length]; exact hl) h1⟩
    · exact h1.elim
  · exact h1.elim

/-! ### calls of built-ins -/
def CallD (K : PySem.W.Frag) (r : List V → Hp → VK → Prop) (f : Sto → List EV → Option Dat) : Prop := ∀ ex μ H sto xs vs d (Q : VK), StoR K ex μ H sto → Paired (EvR (hf ex μ H) μ) vs xs → f sto xs = some d →
  (∀ v' μ' H', FwdE μ H μ' H' → StoR K ex μ' H' sto → Rp (hf ex μ' H') v' d → Q v' H') → r vs H Q
def CallF (K : PySem.W.Frag) (r : List V → Hp → VK → Prop) (f : Sto → List EV → Option (List Dat)) : Prop := ∀ ex μ H sto xs vs ds (Q : VK), StoR K ex μ H sto → Paired (EvR (hf ex μ H) μ) vs xs → f sto xs = some ds →
  (∀ ws, ws.length ≤ sizeLine → RpL (hf ex μ H) ws ds → ∀ p, H p = none → Q (.ref p) (upd H p (.lst ws))) → r vs H Q
def eB (f : Sto → List EV → Option Dat) (m : DA) : DE := fun env s => (m env s).bind fun xs s1 => liftD (f s1 xs) s1
def fB (f : Sto → List EV → Option (List Dat)) (m : DA) : DF := fun env s => (m env s).bind fun xs s1 => R.ofOpt (f s1 xs) s1
theorem t_b {r : List V → Hp → VK → Prop} {f : Sto → List EV → Option Dat} {m : DA} (hd : CallD X.K r f) : T X.K EQ (eB f m) σ H Q → tCB r (Ta X.K EQ m) σ H Q := by
  rintro ⟨ex, μ, env, sto, S, V, h⟩
  refine Ta.then S V h fun xs s1 vs μ1 H1 F1 S1 V1 r1 h1 => ?_
  obtain ⟨d, e, q⟩ := wp_liftD h1
  exact hd ex μ1 H1 s1 xs vs d Q S1 r1 e fun v' μ' H' F' S' r' => q v' μ' H' (F1.trans F') S' r'
theorem t_fb {r : List V → Hp → VK → Prop} {f : Sto → List EV → Option (List Dat)} {m : DA} (hd : CallF X.K r f) : Tf X.K EQ (fB f m) σ H Q → tCB r (Ta X.K EQ m) σ H Q := by
  rintro ⟨ex, μ, env, sto, S, V, h⟩
  refine Ta.then S V h fun xs s1 vs μ1 H1 F1 S1 V1 r1 h1 => ?_
  obtain ⟨d, e, q⟩ := R.wp_ofOpt h1
  exact hd ex μ1 H1 s1 xs vs d Q S1 r1 e fun ws l rr => fresh_lst F1 S1 rr l q
variable {x : Str} {p : Pos} {id Ty : String} {r : List V → Hp → VK → Prop} {m : DA}
theorem pe_b {f : Sto → List EV → Option Dat} (hc : CallR X (.builtin id) r) (hd : CallD X.K r f) (hg : Gl X x) (hm : X.mg x = none) (hv : bootBuiltins x = some (.builtin id)) (ha : PA X (e :: es) (Ta X.K EQ m)) (hn : x ≠ "__name__" := by decide) (hdb : (x == ("__debug__" : Str)) = false := by decide)
    (he : starEach (e :: es) X.env = (false, eval e X.env) :: starEach es X.env := by rfl) (hpl : (backTo pos (starEach es X.env)).any (·.1) = false := by rfl) : PE X (.Call (.Name x p) (e :: es) [] pos) (T X.K EQ (eB f m)) := (pe_callB hc hg hm hv ha hn hdb he hpl).weak fun _ _ _ => t_b hd
theorem pf_b {f : Sto → List EV → Option (List Dat)} (hc : CallR X (.builtin id) r) (hd : CallF X.K r f) (hg : Gl X x) (hm : X.mg x = none) (hv : bootBuiltins x = some (.builtin id)) (ha : PA X (e :: es) (Ta X.K EQ m)) (hn : x ≠ "__name__" := by decide) (hdb : (x == ("__debug__" : Str)) = false := by decide)
    (he : starEach (e :: es) X.env = (false, eval e X.env) :: starEach es X.env := by rfl) (hpl : (backTo pos (starEach es X.env)).any (·.1) = false := by rfl) : PE X (.Call (.Name x p) (e :: es) [] pos) (Tf X.K EQ (fB f m)) := (pe_callB hc hg hm hv ha hn hdb he hpl).weak fun _ _ _ => t_fb hd
theorem pe_ty {f : Sto → List EV → Option Dat} (hc : CallR X (.type Ty) r) (hd : CallD X.K r f) (hg : Gl X x) (hm : X.mg x = none) (hv : bootBuiltins x = some (.type Ty)) (ha : PA X (e :: es) (Ta X.K EQ m)) (hn : x ≠ "__name__" := by decide) (hdb : (x == ("__debug__" : Str)) = false := by decide)
    (he : starEach (e :: es) X.env = (false, eval e X.env) :: starEach es X.env := by rfl) (hpl : (backTo pos (starEach es X.env)).any (·.1) = false := by rfl) : PE X (.Call (.Name x p) (e :: es) [] pos) (T X.K EQ (eB f m)) := (pe_callTy hc hg hm hv ha hn hdb he hpl).weak fun _ _ _ => t_b hd
theorem pf_ty {f : Sto → List EV → Option (List Dat)} (hc : CallR X (.type Ty) r) (hd : CallF X.K r f) (hg : Gl X x) (hm : X.mg x = none) (hv : bootBuiltins x = some (.type Ty)) (ha : PA X (e :: es) (Ta X.K EQ m)) (hn : x ≠ "__name__" := by decide) (hdb : (x == ("__debug__" : Str)) = false := by decide)
    (he : starEach (e :: es) X.env = (false, eval e X.env) :: starEach es X.env := by rfl) (hpl : (backTo pos (starEach es X.env)).any (·.1) = false := by rfl) : PE X (.Call (.Name x p) (e :: es) [] pos) (Tf X.K EQ (fB f m)) := (pe_callTy hc hg hm hv ha hn hdb he hpl).weak fun _ _ _ => t_fb hd
end

/-! ### what they compute -/
def lenD : Sto → List EV → Option Dat
  | sto, [x] => match view sto x with
    | some (.list ds) => some (.int ds.length)
    | some (.tuple ds) => some (.int ds.length)
    | some (.str z) => if z.length ≤ sizeLine then some (.int z.length) else none
    | some _ => none
    | none => match x with
      | .ref c => match sto[c]? with
        | some (.dT kvs) => some (.int kvs.length)
        | some (.dK kvs) => some (.int kvs.length)
        | _ => none
      | _ => none
  | _, _ => none
def blsD : List Dat → Option (List Bool)
  | [] => some []
  | .bool b :: r => (blsD r).map (b :: ·)
  | _ :: _ => none
def intsD : List Dat → Option (List Int)
  | [] => some []
  | .int b :: r => (intsD r).map (b :: ·)
  | _ :: _ => none
def onBls (f : List Bool → Bool) : Sto → List EV → Option Dat
  | sto, [x] => match view sto x with
    | some (.list ds) => (blsD ds).map fun bs => .bool (f bs)
    | _ => none
  | _, _ => none
def allD := onBls fun bs => bs.all id
def anyD := onBls fun bs => bs.any id
def sumD : Sto → List EV → Option Dat
  | sto, [x] => match view sto x with
    | some (.list ds) => (intsD ds).map fun ns => .int ns.sum
    | _ => none
  | _, _ => none
def maxL : Int → List Int → Int
  | a, [] => a
  | a, b :: r => maxL (if a < b then b else a) r
def minL : Int → List Int → Int
  | a, [] => a
  | a, b :: r => minL (if b < a then b else a) r
def maxD : Sto → List EV → Option Dat
  | sto, [x] => match view sto x with
    | some (.list ds) => match intsD ds with
      | some (a :: r) => some (.int (maxL a r))
      | _ => none
    | _ => none
  | _, _ => none
def minD : Sto → List EV → Option Dat
  | sto, [x] => match view sto x with
    | some (.list ds) => match intsD ds with
      | some (a :: r) => some (.int (minL a r))
      | _ => none
    | _ => none
  | _, _ => none
def tupD : Sto → List EV → Option Dat
  | sto, [x] => match view sto x with
    | some (.list ds) => some (.tuple ds)
    | some (.tuple ds) => some (.tuple ds)
    | _ => none
  | _, _ => none
def lstF : Sto → List EV → Option (List Dat)
  | sto, [x] => match view sto x with
    | some (.list ds) => some ds
    | some (.tuple ds) => some ds
    | _ => none
  | _, _ => none
def intD : Sto → List EV → Option Dat
  | _, [.dat (.int i)] => some (.int i)
  | _, [.dat (.bool k)] => some (.int (if k then 1 else 0))
  | _, _ => none
def absD : Sto → List EV → Option Dat
  | _, [.dat (.int i)] => some (.int (if i < 0 then -i else i))
  | _, _ => none
def max2D : Sto → List EV → Option Dat
  | _, [.dat (.int i), .dat (.int j)] => some (.int (if j > i then j else i))
  | _, _ => none
def min2D : Sto → List EV → Option Dat
  | _, [.dat (.int i), .dat (.int j)] => some (.int (if j < i then j else i))
  | _, _ => none
def insI (a : Int) : List Int → List Int
  | [] => [a]
  | b :: r => if a ≤ b then a :: b :: r else b :: insI a r
def sortI : List Int → List Int
  | [] => []
  | a :: r => insI a (sortI r)
def sortIF : Sto → List EV → Option (List Dat)
  | sto, [x] => match view sto x with
    | some (.list ds) => (intsD ds).map fun ns => (sortI ns).map .int
    | some (.tuple ds) => (intsD ds).map fun ns => (sortI ns).map .int
    | _ => none
  | _, _ => none
section
variable {K : PySem.W.Frag}
theorem one_of {Hf : Hp} {μ : Mu} {vs : List V} {x : EV} (h : Paired (EvR Hf μ) vs [x]) : ∃ v, vs = [v] ∧ EvR Hf μ v x := by
  cases h with
  | cons a b => cases b; exact ⟨_, rfl, a⟩
theorem two_of {Hf : Hp} {μ : Mu} {vs : List V} {x y : EV} (h : Paired (EvR Hf μ) vs [x, y]) : ∃ v w, vs = [v, w] ∧ EvR Hf μ v x ∧ EvR Hf μ w y := by
  cases h with
  | cons a b =>
    obtain ⟨w, rfl, q⟩ := one_of b
    exact ⟨_, w, rfl, a, q⟩
def rLen (K : PySem.W.Frag) : List V → Hp → VK → Prop := fun xs H Q => ((∃ p ys, xs = [.ref p] ∧ (SqL K H p ys ∨ SqT K H p ys) ∧ Q (.int ys.length) H) ∨ (∃ z, xs = [.str z] ∧ z.length ≤ sizeLine ∧ Q (.int z.length) H)) ∨ (rLenT xs H Q ∨ ∃ a kvs, xs = [V.ref a] ∧ H a = some (.dK kvs) ∧ Q (.int kvs.length) H)
theorem call_len_dK {X : Cx} : CallR X (.builtin "len") (fun xs H Q => ∃ a kvs, xs = [V.ref a] ∧ H a = some (.dK kvs) ∧ Q (.int kvs.length) H) := by
  intro pins s σ H xs us Q I r h
  obtain ⟨a, kvs, rfl, ha, q⟩ := h
  obtain ⟨u, rfl, rx⟩ := vals1 r
  obtain rfl : u = .ref a := rx
  exact d_len I (.inl ha) fun t s' I1 => ⟨.int ((kvs.length : Nat) : Int), H, I1, ⟨t, rfl⟩, q⟩
theorem cd_len : CallD K (rLen K) lenD := by
  intro ex μ H sto xs vs d Q S r h q
  unfold lenD at h
  split at h
  · obtain ⟨v, rfl, rv⟩ := one_of r
    split at h
    · rename_i e
      cases h
      obtain ⟨p, ws, rfl, hp, l, rr⟩ := view_items S rv e
      exact .inl (.inl ⟨p, ws, rfl, .inl (SqL.of hp), by rw [rr.length]; exact q _ μ H (.refl _ _) S (.int _)⟩)
    · rename_i e
      cases h
      obtain ⟨p, ws, rfl, hp, l, rr⟩ := view_tup S rv e
      exact .inl (.inl ⟨p, ws, rfl, .inr (SqT.of hp), by rw [rr.length]; exact q _ μ H (.refl _ _) S (.int _)⟩)
    · rename_i z e
      split at h
      · cases h
        have := view_rp S rv e
        cases this
        exact .inl (.inr ⟨z, rfl, by assumption, q _ μ H (.refl _ _) S (.int _)⟩)
      · cases h
    · cases h
    · split at h
      · obtain ⟨a, as, hμ, rfl⟩ := rv
        split at h
        · rename_i kvs hs
          cases h
          obtain ⟨a', vs, e, hv, p⟩ := S.cells _ _ _ hμ hs
          cases e
          exact .inr (.inl ⟨a, vs, rfl, hv, by rw [Paired.length p]; exact q _ μ H (.refl _ _) S (.int _)⟩)
        · rename_i kvs hs
          cases h
          obtain ⟨a', vs, e, hv, p⟩ := S.cells _ _ _ hμ hs
          cases e
          exact .inr (.inr ⟨a, vs, rfl, hv, by rw [Paired.length p]; exact q _ μ H (.refl _ _) S (.int _)⟩)
        · cases h
      · cases h
  · cases h
theorem cr_len {X : Cx} : CallR X (.builtin "len") (rLen X.K) := CallR.or (CallR.or call_len_seq call_len_str) (CallR.or call_len_dT call_len_dK)
theorem bls_v {Hf : Hp} : ∀ {vs : List V} {ds : List Dat} {bs : List Bool}, RpL Hf vs ds → blsD ds = some bs → vs = bs.map V.bl
  | _, _, bs, .nil, h => by
    cases h
    rfl
  | _, _, bs, .cons (d := d) a b, h => by
    cases a <;> simp only [blsD] at h <;> try cases h
    rename_i ds' c
    cases e : blsD ds' with
    | none => rw [e] at h; cases h
    | some cs =>
      rw [e] at h
      cases h
      rw [List.map_cons, bls_v b e]
theorem ints_v {Hf : Hp} : ∀ {vs : List V} {ds : List Dat} {bs : List Int}, RpL Hf vs ds → intsD ds = some bs → vs = bs.map V.int
  | _, _, bs, .nil, h => by
    cases h
    rfl
  | _, _, bs, .cons (d := d) a b, h => by
    cases a <;> simp only [intsD] at h <;> try cases h
    rename_i ds' c
    cases e : intsD ds' with
    | none => rw [e] at h; cases h
    | some cs =>
      rw [e] at h
      cases h
      rw [List.map_cons, ints_v b e]
theorem cd_all : CallD K (rAll K) allD := by
  intro ex μ H sto xs vs d Q S r h q
  unfold allD onBls at h
  split at h
  · obtain ⟨v, rfl, rv⟩ := one_of r
    split at h
    · rename_i ds e
      obtain ⟨p, ws, rfl, hp, l, rr⟩ := view_items S rv e
      cases eb : blsD ds with
      | none => rw [eb] at h; cases h
      | some bs =>
        rw [eb] at h
        cases h
        have := bls_v rr eb
        subst this
        exact ⟨p, bs, rfl, SqL.of hp, q _ μ H (.refl _ _) S (.bl _)⟩
    · cases h
  · cases h
theorem cd_any : CallD K (rAny K) anyD := by
  intro ex μ H sto xs vs d Q S r h q
  unfold anyD onBls at h
  split at h
  · obtain ⟨v, rfl, rv⟩ := one_of r
    split at h
    · rename_i ds e
      obtain ⟨p, ws, rfl, hp, l, rr⟩ := view_items S rv e
      cases eb : blsD ds with
      | none => rw [eb] at h; cases h
      | some bs =>
        rw [eb] at h
        cases h
        have := bls_v rr eb
        subst this
        exact ⟨p, bs, rfl, SqL.of hp, q _ μ H (.refl _ _) S (.bl _)⟩
    · cases h
  · cases h
theorem cd_sum : CallD K (rSum K) sumD := by
  intro ex μ H sto xs vs d Q S r h q
  unfold sumD at h
  split at h
  · obtain ⟨v, rfl, rv⟩ := one_of r
    split at h
    · rename_i ds e
      obtain ⟨p, ws, rfl, hp, l, rr⟩ := view_items S rv e
      cases eb : intsD ds with
      | none => rw [eb] at h; cases h
      | some bs =>
        rw [eb] at h
        cases h
        have := ints_v rr eb
        subst this
        exact ⟨p, bs, rfl, SqL.of hp, q _ μ H (.refl _ _) S (.int _)⟩
    · cases h
  · cases h
theorem maxL_spec : ∀ (r : List Int) (a : Int), maxL a r ∈ a :: r ∧ ∀ y ∈ a :: r, y ≤ maxL a r
  | [], a => ⟨by simp [maxL], by simp [maxL]⟩
  | b :: r, a => by
    obtain ⟨h1, h2⟩ := maxL_spec r (if a < b then b else a)
    have h3 := h2 _ List.mem_cons_self
    have g1 : a ≤ (if a < b then b else a) := by split <;> omega
    have g2 : b ≤ (if a < b then b else a) := by split <;> omega
    refine ⟨?_, fun y hy => ?_⟩
    · show maxL (if a < b then b else a) r ∈ _
      rcases List.mem_cons.mp h1 with z | z
      · rw [z]
        split <;> simp
      · simp [z]
    · show y ≤ maxL (if a < b then b else a) r
      rcases List.mem_cons.mp hy with z | z
      · rw [z]
        exact Int.le_trans g1 h3
      · rcases List.mem_cons.mp z with z | z
        · rw [z]
          exact Int.le_trans g2 h3
        · exact h2 y (List.mem_cons_of_mem _ z)
theorem minL_spec : ∀ (r : List Int) (a : Int), minL a r ∈ a :: r ∧ ∀ y ∈ a :: r, minL a r ≤ y
  | [], a => ⟨by simp [minL], by simp [minL]⟩
  | b :: r, a => by
    obtain ⟨h1, h2⟩ := minL_spec r (if b < a then b else a)
    have h3 := h2 _ List.mem_cons_self
    have g1 : (if b < a then b else a) ≤ a := by split <;> omega
    have g2 : (if b < a then b else a) ≤ b := by split <;> omega
    refine ⟨?_, fun y hy => ?_⟩
    · show minL (if b < a then b else a) r ∈ _
      rcases List.mem_cons.mp h1 with z | z
      · rw [z]
        split <;> simp
      · simp [z]
    · show minL (if b < a then b else a) r ≤ y
      rcases List.mem_cons.mp hy with z | z
      · rw [z]
        exact Int.le_trans h3 g1
      · rcases List.mem_cons.mp z with z | z
        · rw [z]
          exact Int.le_trans h3 g2
        · exact h2 y (List.mem_cons_of_mem _ z)
theorem cd_max : CallD K (rMax K) maxD := by
  intro ex μ H sto xs vs d Q S r h q
  unfold maxD at h
  split at h
  · obtain ⟨v, rfl, rv⟩ := one_of r
    split at h
    · rename_i ds e
      obtain ⟨p, ws, rfl, hp, l, rr⟩ := view_items S rv e
      split at h
      · rename_i a t eb
        cases h
        have := ints_v rr eb
        subst this
        obtain ⟨k1, k2⟩ := maxL_spec t a
        refine ⟨p, a :: t, rfl, SqL.of hp, by simp, fun m hm hy => ?_⟩
        have : m = maxL a t := Int.le_antisymm (k2 m hm) (hy _ k1)
        rw [this]
        exact q _ μ H (.refl _ _) S (.int _)
      · cases h
    · cases h
  · cases h
theorem cd_min : CallD K (rMin K) minD := by
  intro ex μ H sto xs vs d Q S r h q
  unfold minD at h
  split at h
  · obtain ⟨v, rfl, rv⟩ := one_of r
    split at h
    · rename_i ds e
      obtain ⟨p, ws, rfl, hp, l, rr⟩ := view_items S rv e
      split at h
      · rename_i a t eb
        cases h
        have := ints_v rr eb
        subst this
        obtain ⟨k1, k2⟩ := minL_spec t a
        refine ⟨p, a :: t, rfl, SqL.of hp, by simp, fun m hm hy => ?_⟩
        have : m = minL a t := Int.le_antisymm (hy _ k1) (k2 m hm)
        rw [this]
        exact q _ μ H (.refl _ _) S (.int _)
      · cases h
    · cases h
  · cases h
theorem view_isTup {sto : Sto} {x : EV} {ds : List Dat} (e : view sto x = some (.tuple ds)) : x = .dat (.tuple ds) := by
  cases x with
  | dat d =>
    cases e
    rfl
  | ref i =>
    unfold view at e
    simp only at e
    split at e <;> cases e
theorem cd_tup : CallD K (fun xs H Q => ∃ p ys, xs = [.ref p] ∧ ((SqL K H p ys ∧ ∀ l, H l = none → Q (.ref l) (upd H l (.tup ys))) ∨ (SqT K H p ys ∧ Q (.ref p) H))) tupD := by
  intro ex μ H sto xs vs d Q S r h q
  unfold tupD at h
  split at h
  · obtain ⟨v, rfl, rv⟩ := one_of r
    split at h
    · rename_i ds e
      cases h
      obtain ⟨p, ws, rfl, hp, l, rr⟩ := view_items S rv e
      exact ⟨p, ws, rfl, .inl ⟨SqL.of hp, new_tup S rr l q⟩⟩
    · rename_i ds e
      cases h
      obtain rfl := view_isTup e
      obtain ⟨p, ws, rfl, hp, l, rr⟩ := Rp.tup_inv rv
      exact ⟨p, ws, rfl, .inr ⟨SqT.of (off_some hp).2, q _ μ H (.refl _ _) S rv⟩⟩
    · cases h
  · cases h
theorem cf_lst : CallF K (fun xs H Q => ∃ p ys, xs = [.ref p] ∧ (SqL K H p ys ∨ SqT K H p ys) ∧ ∀ l, H l = none → Q (.ref l) (upd H l (.lst ys))) lstF := by
  intro ex μ H sto xs vs d Q S r h q
  unfold lstF at h
  split at h
  · obtain ⟨v, rfl, rv⟩ := one_of r
    split at h
    · rename_i ds e
      cases h
      obtain ⟨p, ws, rfl, hp, l, rr⟩ := view_items S rv e
      exact ⟨p, ws, rfl, .inl (SqL.of hp), q ws l rr⟩
    · rename_i ds e
      cases h
      obtain ⟨p, ws, rfl, hp, l, rr⟩ := view_tup S rv e
      exact ⟨p, ws, rfl, .inr (SqT.of hp), q ws l rr⟩
    · cases h
  · cases h
theorem cd_int : CallD K (fun xs H Q => (∃ i, xs = [.int i] ∧ Q (.int i) H) ∨ ∃ k, xs = [.bl k] ∧ Q (.int (if k then 1 else 0)) H) intD := by
  intro ex μ H sto xs vs d Q S r h q
  unfold intD at h
  split at h
  · cases h
    obtain ⟨v, rfl, rv⟩ := one_of r
    cases rv
    exact .inl ⟨_, rfl, q _ μ H (.refl _ _) S (.int _)⟩
  · cases h
    obtain ⟨v, rfl, rv⟩ := one_of r
    cases rv
    exact .inr ⟨_, rfl, q _ μ H (.refl _ _) S (.int _)⟩
  · cases h
theorem cd_abs : CallD K (fun xs H Q => ∃ i, xs = [.int i] ∧ Q (.int (if i < 0 then -i else i)) H) absD := by
  intro ex μ H sto xs vs d Q S r h q
  unfold absD at h
  split at h
  · cases h
    obtain ⟨v, rfl, rv⟩ := one_of r
    cases rv
    exact ⟨_, rfl, q _ μ H (.refl _ _) S (.int _)⟩
  · cases h
theorem cd_max2 : CallD K (fun xs H Q => ∃ i j, xs = [.int i, .int j] ∧ Q (.int (if j > i then j else i)) H) max2D := by
  intro ex μ H sto xs vs d Q S r h q
  unfold max2D at h
  split at h
  · cases h
    obtain ⟨v, w, rfl, rv, rw'⟩ := two_of r
    cases rv
    cases rw'
    exact ⟨_, _, rfl, q _ μ H (.refl _ _) S (.int _)⟩
  · cases h
theorem cd_min2 : CallD K (fun xs H Q => ∃ i j, xs = [.int i, .int j] ∧ Q (.int (if j < i then j else i)) H) min2D := by
  intro ex μ H sto xs vs d Q S r h q
  unfold min2D at h
  split at h
  · cases h
    obtain ⟨v, w, rfl, rv, rw'⟩ := two_of r
    cases rv
    cases rw'
    exact ⟨_, _, rfl, q _ μ H (.refl _ _) S (.int _)⟩
  · cases h
theorem insI_perm (a : Int) : ∀ l : List Int, (insI a l).Perm (a :: l)
  | [] => List.Perm.refl _
  | b :: r => by
    unfold insI
    split
    · exact List.Perm.refl _
    · exact ((insI_perm a r).cons b).trans (List.Perm.swap a b r)
theorem sortI_perm : ∀ l : List Int, (sortI l).Perm l
  | [] => List.Perm.refl _
  | a :: r => (insI_perm a _).trans ((sortI_perm r).cons a)
theorem insI_sorted (a : Int) : ∀ l : List Int, l.Pairwise (· ≤ ·) → (insI a l).Pairwise (· ≤ ·)
  | [], _ => by simp [insI]
  | b :: r, h => by
    unfold insI
    have hb := List.pairwise_cons.mp h
    split
    · rename_i q
      refine List.pairwise_cons.mpr ⟨fun c hc => ?_, h⟩
      rcases List.mem_cons.mp hc with z | z
      · omega
      · have := hb.1 c z
        omega
    · rename_i q
      refine List.pairwise_cons.mpr ⟨fun c hc => ?_, insI_sorted a r hb.2⟩
      rcases List.mem_cons.mp ((insI_perm a r).mem_iff.mp hc) with z | z
      · omega
      · exact hb.1 c z
theorem sortI_sorted : ∀ l : List Int, (sortI l).Pairwise (· ≤ ·)
  | [] => List.Pairwise.nil
  | a :: r => insI_sorted a _ (sortI_sorted r)
theorem sorted_uniq : ∀ {l m : List Int}, l.Perm m → l.Pairwise (· ≤ ·) → m.Pairwise (· ≤ ·) → l = m
  | [], m, h, _, _ => (List.Perm.eq_nil h.symm).symm
  | a :: l, [], h, _, _ => absurd h.length_eq (by simp)
  | a :: l, b :: m, h, h1, h2 => by
    have q1 := List.pairwise_cons.mp h1
    have q2 := List.pairwise_cons.mp h2
    have e : a = b := by
      have ha : a ∈ b :: m := h.mem_iff.mp List.mem_cons_self
      have hb : b ∈ a :: l := h.mem_iff.mpr List.mem_cons_self
      rcases List.mem_cons.mp ha with z | z
      · exact z
      · rcases List.mem_cons.mp hb with y | y
        · exact y.symm
        · have := q1.1 b y
          have := q2.1 a z
          omega
    subst e
    rw [sorted_uniq h.cons_inv q1.2 q2.2]
end
end Mx
namespace Mx
open PySem PySem.Spec PyProof.Rows L2 PySem.W
section
open PyProof
theorem coll_tup {P : Program} {w : World} {A : Around} {E : Value → Shared → Prop} {s : Shared} {t : Addr} {us : List Value} {Q : List Value → Shared → Prop} (ht : s.heap.IsTuple t us.toArray)
    (q : Q us { s with heap := (s.heap.push (seqObj "list" #[] 0)).update s.heap.objs.size (Obj.mapSeq (· ++ us.toArray)) }) (hz : us.length ≤ sizeLine) : wpAny (model P w) A (collect (.ref t)) Q E s := by
  obtain ⟨ob, e1, e2, k, e3⟩ := id ht
  unfold collect
  refine wpAny_bind (wpAny_runValue (codeAny_builtin entry_proto_collect' ?_))
  show wpAny _ _ (do
    again (.builtin "list.__iadd__" ⟨[← newList [], .ref t], []⟩)) _ _ s
  refine wpAny_bind (wpAny_newList (wpAny_pure ⟨Code.quiet_builtin _ (by decide +kernel), codeAny_builtin entry_list_iadd' ?_⟩))
  show wpAny _ _ (Builtin.List.listExtendWith (.ref s.heap.objs.size) (.ref t) (.ref s.heap.objs.size)) _ _ { s with
    heap := s.heap.push (seqObj "list" #[] 0) }
  unfold Builtin.List.listExtendWith
  have e1' : (s.heap.push (seqObj "list" #[] 0)).get? t = some ob := Heap.get?_push_of_some _ e1
  refine wpAny_bind (wpAny_typeOf (T := "tuple") ⟨ob, e1', e2⟩ ?_)
  have tt : (Value.type "tuple" == Value.type "tuple") = true := by rfl
  rw [if_pos (by rw [tt]; simp)]
  refine wpAny_bind (listItems_at e1' e3 (wpAny_bind (listItems_at (xs := #[]) (n := 0) (Heap.get?_push_size _ rfl) rfl ?_)))
  rw [if_neg (by simp)]
  refine wpAny_bind (listUpdate_at (xs := #[]) (n := 0) (Heap.get?_push_size _ rfl) rfl ?_ (Nat.zero_le _) ?_)
  · refine wpAny_pure (show wpAny (model P w) A (do
      let o ← load s.heap.objs.size
      match o.data with
      | .seq xs _ => pure xs.toList
      | _ => unsupported "internal:collect") Q E { s with heap := (s.heap.push (seqObj "list" #[] 0)).update s.heap.objs.size (Obj.mapSeq (· ++ us.toArray)) } from ?_)
    refine wpAny_bind (wpAny_load (get?_update_seq (Heap.get?_push_size _ rfl) _) ?_)
    show wpAny _ _ (pure ((#[] : Array Value) ++ us.toArray).toList) Q E _
    rw [show ((#[] : Array Value) ++ us.toArray).toList = us by simp]
    exact wpAny_pure q
  · show (#[] ++ us.toArray).size ≤ sizeLine + 1
    simp only [Array.size_append, List.size_toArray, List.length_nil]
    omega
open SrtO in
theorem sort_tup {P : Program} {w : World} {A : Around} {E : Value → Shared → Prop} {s : Shared} {t : Addr} {us : List Value} {lt : Value → Value → Bool} {Q : Value → Shared → Prop} (O : Swo lt) (ht : s.heap.IsTuple t us.toArray) (hz : us.length ≤ sizeLine)
    (hS : 2 ≤ us.length → ∀ (g : Heap) (a : Addr), g.get? a = some (seqObj "list" us.toArray 0) → (∀ b o, s.heap.get? b = some o → b ≠ a ∧ g.get? b = some o) → SortableO P w A.in1.in1 { s with heap := g } a us lt)
    (q : ∀ out : List Value, Srtd lt out → Stb lt out us → Q (.ref (s.heap.objs.size + 1)) { s with heap := sortedAll s.heap us out.toArray }) : wpAny (model P w) A (call (.builtin "sorted") [.ref t]) Q E s := by
  refine Calls.call_function_entry kind_sorted plain_sorted entry_sorted (args_sorted1 _) ?_
  unfold Builtin.«sorted»
  refine wpAny_bind (m := checkCount "sorted" 1 1 _) (wpAny_pure (wpAny_bind (coll_tup ht ?_ hz)))
  refine wpAny_bind (wpAny_newList ?_ hz)
  have h1 : ((s.heap.push (seqObj "list" #[] 0)).update s.heap.objs.size (Obj.mapSeq (· ++ us.toArray))).objs.size = s.heap.objs.size + 1 := by rw [Heap.size_update, size_push']
  have h2 : (((s.heap.push (seqObj "list" #[] 0)).update s.heap.objs.size (Obj.mapSeq (· ++ us.toArray))).push (seqObj "list" us.toArray 0)).get? (s.heap.objs.size + 1) = some (seqObj "list" us.toArray 0) := by
    rw [← h1]
    exact Heap.get?_push_size _ rfl
  have h3 : ∀ b o, s.heap.get? b = some o → b ≠ s.heap.objs.size + 1 ∧ (((s.heap.push (seqObj "list" #[] 0)).update s.heap.objs.size (Obj.mapSeq (· ++ us.toArray))).push (seqObj "list" us.toArray 0)).get? b = some o := fun b o e => by
    have lt' : b < s.heap.objs.size := Heap.lt_size e
    refine ⟨Nat.ne_of_lt (Nat.lt_succ_of_lt lt'), Heap.get?_push_of_some _ (by
      rw [Heap.get?_update_ne _ _ _ _ (Nat.ne_of_lt lt')]
      exact Heap.get?_push_of_some _ e)⟩
  show wpAny _ _ _ _ _ { s with
    heap := ((s.heap.push (seqObj "list" #[] 0)).update s.heap.objs.size (Obj.mapSeq (· ++ us.toArray))).push (seqObj "list" us.toArray 0) }
  rw [h1]
  refine wpAny_bind (wpAny_holding (wpAny_call_entry slot_list_sort ⟨_, h2, rfl⟩ entry_list_sort (list_sort_ord O h2 hz (fun g => hS g _ _ h2 h3) fun out a b => ⟨_, rfl, wpAny_pure ⟨_, rfl, q out a b⟩⟩) (args_list_sort _)))
end
def rSortedT (K : PySem.W.Frag) : List V → Hp → VK → Prop := fun vs H Q => ∃ (a : Addr) (ns : List Int), vs = [V.ref a] ∧ SqT K H a (ns.map V.int) ∧
  ∀ (ms : List Int) (p : Addr), ms.Perm ns → ms.Pairwise (· ≤ ·) → H p = none → Q (.ref p) (upd H p (.lst (ms.map V.int)))
theorem cr_sortedT {X : Cx} : CallR X (.builtin "sorted") (rSortedT X.K) := by
  intro pins s σ H vs us Q I r h
  obtain ⟨a, ns, rfl, hs, q⟩ := h
  obtain ⟨its, rv, hl, hz⟩ := I.tuple hs
  rw [Vals.ref1 r]
  have hi := rv.ints
  refine sort_tup SrtO.swo_int hl (by rw [← rv.length]; exact hz) (fun h2 h₁ a' _ _ => SrtO.ints_sortable hi h2) fun out h1 h2 => ?_
  obtain ⟨k1, k2, k3⟩ := SrtO.ints_out hi h1 h2
  obtain ⟨ep, he'⟩ := PyProof.Rows.sortedAll_at s.heap its out.toArray
  have hn : ((out.map SrtO.iv).map V.int).length ≤ sizeLine := by
    rw [List.length_map, k2.length_eq, ← List.length_map (f := V.int)]
    exact hz
  refine ⟨.ref _, upd H (s.heap.objs.size + 1) (.lst ((out.map SrtO.iv).map V.int)), ?_, rfl, q _ _ k2 k3 (I.hok.fresh (Nat.le_succ _))⟩
  exact I.laid (t' := s.toks) (fun _ _ => PyProof.Rows.sortedAll_old) (Nat.le_succ _) ⟨hn, out, ep, vals_of_ints k1, he'⟩
def rSortedA (K : PySem.W.Frag) : List V → Hp → VK → Prop := fun vs H Q => rSortedI K vs H Q ∨ rSortedT K vs H Q
theorem cr_sortedA {X : Cx} : CallR X (.builtin "sorted") (rSortedA X.K) := by
  intro pins s σ H vs us Q I r h
  rcases h with h | h
  · exact cr_sortedI pins s σ H vs us Q I r h
  · exact cr_sortedT pins s σ H vs us Q I r h
section
variable {K : PySem.W.Frag}
theorem cf_sortI : CallF K (rSortedA K) sortIF := by
  intro ex μ H sto xs vs d Q S r h q
  unfold sortIF at h
  split at h
  · obtain ⟨v, rfl, rv⟩ := one_of r
    split at h
    · rename_i ds e
      obtain ⟨p, ws, rfl, hp, l, rr⟩ := view_items S rv e
      cases eb : intsD ds with
      | none => rw [eb] at h; cases h
      | some bs =>
        rw [eb] at h
        cases h
        have := ints_v rr eb
        subst this
        refine .inl ⟨p, bs, rfl, SqL.of hp, fun ns' p' h1 h2 hp' => ?_⟩
        have : ns' = sortI bs := sorted_uniq (h1.trans (sortI_perm bs).symm) h2 (sortI_sorted bs)
        subst this
        refine q _ ?_ (RpL.ints _) p' hp'
        rw [List.length_map, (sortI_perm bs).length_eq]
        rw [List.length_map] at l
        exact l
    · rename_i x s0 ds e
      cases x with
      | ref i =>
        rw [view] at e
        split at e <;> cases e
      | dat d0 =>
        cases e
        obtain ⟨p, ws, rfl, hp, l, rr⟩ := Rp.tup_inv rv
        cases eb : intsD ds with
        | none => rw [eb] at h; cases h
        | some bs =>
          rw [eb] at h
          cases h
          have := ints_v rr eb
          subst this
          refine .inr ⟨p, bs, rfl, SqT.of (off_some hp).2, fun ns' p' h1 h2 hp' => ?_⟩
          have : ns' = sortI bs := sorted_uniq (h1.trans (sortI_perm bs).symm) h2 (sortI_sorted bs)
          subst this
          refine q _ ?_ (RpL.ints _) p' hp'
          rw [List.length_map, (sortI_perm bs).length_eq]
          rw [List.length_map] at l
          exact l
    · cases h
  · cases h
end
end Mx

set_option maxHeartbeats 4000000
namespace Mx
open PySem PySem.Spec PyProof.Rows L2

/-! ### subscripts, slices -/
def ixD : Sto → EV → EV → Option Dat := fun sto x y => match y with
  | .dat k => match view sto x with
    | some (.list ds) => match k with
      | .int i => atI ds i
      | _ => none
    | some (.tuple ds) => match k with
      | .int i => atI ds i
      | _ => none
    | some (.str z) => match k with
      | .int i => if z.length ≤ sizeLine then (atI z.cps.toList i).map fun c => .str ⟨#[c]⟩ else none
      | _ => none
    | some (.dict _) => match lookD sto x k with
      | some o => o
      | none => none
    | some _ => none
    | none => match lookD sto x k with
      | some o => o
      | none => none
  | _ => none
def rDOGet : R2 := fun x y H Q => ∃ Hf d, DOG Hf H x y (some d) ∧ ∀ v, Rp Hf v d → Q v H
theorem ix_do {X : Cx} (hu : X.A.units + 9 < cLine) : IxR X rDOGet := by
  intro value slice pins s σ H x y v u Q I rx ry ⟨Hf, d, ⟨a, es, ep, kvs, k, e, sb, ha, ko, r, hk, rk, hv⟩, q⟩ hs
  subst e
  obtain rfl : v = Value.ref a := rx
  have ht : s.TypeIs (.ref a) "dict" := by
    obtain ⟨_, xs, dd, _⟩ := do_of I.hok sb ha ko r
    exact dd.typeIs
  exact tail_any ht PySem.F.slot_dict_getitem.lookup (do_get hu I sb ha ko r hk rk ry hv fun v' w' s3 I3 rw' rv => ⟨v', H, I3, rw', q v' rv⟩) hs
def rDGet : R2 := fun x y H Q => ∃ a v, x = .ref a ∧ DGet H a y (some v) ∧ Q v H
theorem ix_dict {X : Cx} (hu : X.A.units + 1 < cLine) : IxR X rDGet := by
  intro value slice pins s σ H x y v u Q I rx ry ⟨a, w, e, g, q⟩ hs
  subst e
  obtain rfl : v = Value.ref a := rx
  exact tail_any (dict_typeIs I g) PySem.F.slot_dict_getitem.lookup (d_getItem hu I g ry fun w' s3 I3 rw' => ⟨w, H, I3, rw', q⟩) hs
def rIxA (K : PySem.W.Frag) : R2 := fun x y H Q => rIx K x y H Q ∨ (rDGet x y H Q ∨ rDOGet x y H Q)
theorem ix_all {X : Cx} (hu : X.A.units + 9 < cLine) : IxR X (rIxA X.K) := ix_seq.or ((ix_dict (by omega)).or (ix_do hu))
theorem atI_rp {Hf : Hp} {vs : List V} {ds : List Dat} {i : Int} {d : Dat} (r : RpL Hf vs ds) (h : atI ds i = some d) : ∃ v, atI vs i = some v ∧ Rp Hf v d := by
  unfold atI at h ⊢
  rw [r.length]
  cases e : ixN ds.length i with
  | none => rw [e] at h; cases h
  | some j =>
    rw [e] at h
    obtain ⟨v, h1, h2⟩ := r.get (i := j) h
    exact ⟨v, h1, h2⟩
section
variable {K : PySem.W.Frag}
theorem od_ix : OpD K (rIxA K) ixD := by
  intro ex μ H sto x y v w d Q S rx ry h q
  have corek : ∀ k, EvR (hf ex μ H) μ w (.dat k) → (match lookD sto x k with | some o => o | none => none) = some d → rIxA K v w H Q := by
    intro k ry h
    split at h
    · rename_i o hl
      subst h
      rcases look_get S rx ry hl with ⟨a, u, rfl, g, c⟩ | g
      · rcases c with ⟨c, _⟩ | ⟨e, z, e1, e2, r⟩
        · cases c
        · cases e1
          subst e2
          exact .inr (.inl ⟨a, z, rfl, g, q _ μ H (.refl _ _) S r⟩)
      · exact .inr (.inr ⟨_, _, g, fun v r => q v μ H (.refl _ _) S r⟩)
    · cases h
  unfold ixD at h
  split at h
  · rename_i k
    have core := corek k ry
    split at h
    · rename_i ds e
      obtain ⟨p, vs, rfl, hp, l, rr⟩ := view_items S rx e
      split at h
      · cases ry
        obtain ⟨z, e1, e2⟩ := atI_rp rr h
        exact .inl (.inl ⟨p, vs, _, z, rfl, rfl, SqL.of hp, e1, q _ μ H (.refl _ _) S e2⟩)
      · cases h
    · rename_i ds e
      obtain ⟨p, vs, rfl, hp, l, rr⟩ := view_tup S rx e
      split at h
      · cases ry
        obtain ⟨z, e1, e2⟩ := atI_rp rr h
        exact .inl (.inr (.inl ⟨p, vs, _, z, rfl, rfl, SqT.of hp, e1, q _ μ H (.refl _ _) S e2⟩))
      · cases h
    · rename_i z e
      split at h
      · split at h
        · rename_i hl
          cases ry
          have := view_rp S rx e
          cases this
          cases ec : atI z.cps.toList _ with
          | none => rw [ec] at h; cases h
          | some c =>
            rw [ec] at h
            cases h
            exact .inl (.inr (.inr ⟨z, _, c, rfl, rfl, hl, ec, q _ μ H (.refl _ _) S (.str _)⟩))
        · cases h
      · cases h
    · exact core h
    · cases h
    · exact core h
  · cases h
end
def oNone : Env → Sto → R (Option Int) := fun _ s => .ok none s
def oSome (m : DE) : Env → Sto → R (Option Int) := fun env s => (m env s).bind fun x s1 => match x with
  | .dat (.int i) => .ok (some i) s1
  | _ => .fail
def cutD (ds : List Dat) (lo hi : Option Int) : List Dat := (ds.drop (HT.sIx ds.length 0 lo)).take (HT.sIx ds.length ds.length hi - HT.sIx ds.length 0 lo)
def eSl (a : DE) (lo hi : Env → Sto → R (Option Int)) : DE := fun env s => (a env s).bind fun x s1 => (lo env s1).bind fun l s2 => (hi env s2).bind fun u s3 => match view s3 x with
  | some (.list ds) => .ok (.dat (.list (cutD ds l u))) s3
  | some (.tuple ds) => .ok (.dat (.tuple (cutD ds l u))) s3
  | _ => .fail
section
variable {X : Cx} {EQ : EK} {σ : L2.St} {H : Hp} {Q : VK} {e a b : Expr} {es : List Expr} {pos p2 : Pos} {m ma mb : DE}
def To (K : PySem.W.Frag) (EQ : EK) (m : Env → Sto → R (Option Int)) : TO := fun σ H Q => ∃ ex μ env sto, StoR K ex μ H sto ∧ EnvR (hf ex μ H) μ σ env ∧
  (m env sto).wp (fun o s' => ∀ μ' H', FwdE μ H μ' H' → StoR K ex μ' H' s' → Q o H') (ePost K EQ ex μ H)
theorem PO.weak {X : Cx} {e : Option Expr} {t t' : TO} (h : PO X e t) (w : ∀ σ H Q, t' σ H Q → t σ H Q) : PO X e t' := ⟨fun pins s σ H Q I q => h.run pins s σ H Q I (w σ H Q q)⟩
theorem po_0 : PO X none (To X.K EQ oNone) := PO.weak po_none fun σ H Q => by
  rintro ⟨ex, μ, env, sto, S, V, h⟩
  exact h μ H (.refl _ _) S
theorem po_1 (h : PE X e (T X.K EQ m)) : PO X (some e) (To X.K EQ (oSome m)) := PO.weak (po_some h) fun σ H Q => by
  rintro ⟨ex, μ, env, sto, S, V, h⟩
  refine T.then S V h fun x s1 v μ1 H1 F1 S1 V1 r h1 => ?_
  split at h1
  · cases r
    exact ⟨_, rfl, h1 μ1 H1 F1 S1⟩
  · exact h1.elim
theorem cut_rp {Hf : Hp} {vs : List V} {ds : List Dat} (r : RpL Hf vs ds) (lo hi : Option Int) : RpL Hf (cutV vs lo hi) (cutD ds lo hi) := by
  unfold cutV cutD
  rw [r.length]
  exact (r.drop _).take _
theorem pe_ix2 (hu : X.A.units + 9 < cLine) (ha : PE X a (T X.K EQ ma)) (hb : PE X b (T X.K EQ mb)) (hs : PlainIx b := by exact fun _ _ => rfl) : PE X (.Subscript a b pos) (T X.K EQ (e2 ixD ma mb)) := (pe_ix (ix_all hu) ha hb hs).weak fun _ _ _ => t_e2 od_ix
theorem pe_sl {lo hi : Option Expr} {ml mh : Env → Sto → R (Option Int)} (ha : PE X a (T X.K EQ ma)) (hl : PO X lo (To X.K EQ ml)) (hh : PO X hi (To X.K EQ mh)) : PE X (.Subscript a (.Slice lo hi none p2) pos) (T X.K EQ (eSl ma ml mh)) :=
  (pe_slice (SlR.or sl_list sl_tupA) ha hl hh).weak fun σ H Q => by
    rintro ⟨ex, μ, env, sto, S, V, h⟩
    refine T.then S V h fun x s1 v μ1 H1 F1 S1 V1 r h1 => ?_
    refine ⟨ex, μ1, env, s1, S1, V1, R.wp_mono (fun l s2 q2 μ2 H2 F2 S2 => ?_) (fun _ _ z => z) _ ((R.wp_bind _).mp h1)⟩
    refine ⟨ex, μ2, env, s2, S2, V1.fwd F2, R.wp_mono (fun u s3 q3 μ3 H3 F3 S3 => ?_) (fun _ _ z => z.fwd F2.fwd) _ ((R.wp_bind _).mp q2)⟩
    have r3 := (r.fwd F2).fwd F3
    split at q3
    · rename_i ds ev
      obtain ⟨p, vs, rfl, hp, l', rr⟩ := view_items S3 r3 ev
      exact .inl ⟨p, vs, rfl, SqL.of hp, new_lst S3 (cut_rp rr _ _) (Nat.le_trans (cutV_length _ _ _) l') fun v' μ' H' F' S' r' => q3 v' μ' H' (((F1.trans F2).trans F3).trans F') S' r'⟩
    · rename_i ds ev
      obtain ⟨p, vs, rfl, hp, l', rr⟩ := view_tup S3 r3 ev
      refine .inr ⟨p, vs, rfl, SqT.of hp, fun hw => ?_, fun _ => new_tup S3 (cut_rp rr _ _) (Nat.le_trans (cutV_length _ _ _) l') fun v' μ' H' F' S' r' => q3 v' μ' H' (((F1.trans F2).trans F3).trans F') S' r'⟩
      have e : cutD ds l u = ds := by
        unfold cutD
        rw [← rr.length, hw.1, hw.2, List.drop_zero, Nat.sub_zero, rr.length, List.take_length]
      rw [e] at q3
      obtain rfl := view_isTup ev
      exact q3 _ μ3 H3 ((F1.trans F2).trans F3) S3 r3
    · exact q3.elim

/-! ### ranges as values -/
def rgD (a b : Int) : List Dat := (List.range (b - a).toNat).map fun i => .int (a + (i : Nat))
def inRg : Int → Bool
  | .ofNat n => Nat.ble n 16777216
  | .negSucc n => Nat.ble n 16777215
theorem inRg_iff {a : Int} : inRg a = true ↔ -16777216 ≤ a ∧ a ≤ 16777216 := by
  cases a with
  | ofNat n =>
    show Nat.ble n 16777216 = true ↔ _
    rw [Nat.ble_eq, Int.ofNat_eq_natCast]
    omega
  | negSucc n =>
    show Nat.ble n 16777215 = true ↔ _
    rw [Nat.ble_eq, Int.negSucc_eq]
    omega
def rgOk (a b : Int) : Bool := inRg a && inRg b && decide ((b - a).toNat ≤ 16777216)
theorem rgOk_iff {a b : Int} : rgOk a b = true ↔ -16777216 ≤ a ∧ a ≤ 16777216 ∧ -16777216 ≤ b ∧ b ≤ 16777216 ∧ (b - a).toNat ≤ 16777216 := by
  unfold rgOk
  rw [Bool.and_eq_true, Bool.and_eq_true, inRg_iff, inRg_iff, decide_eq_true_eq]
  grind
def g1 (m : DE) : Env → Sto → R (Int × Int) := fun env s => (m env s).bind fun x s1 => match x with
  | .dat (.int n) => .ok (0, n) s1
  | _ => .fail
def g2 (m n : DE) : Env → Sto → R (Int × Int) := fun env s => (m env s).bind fun x s1 => (n env s1).bind fun y s2 => match x, y with
  | .dat (.int i), .dat (.int j) => .ok (i, j) s2
  | _, _ => .fail
def Tr (K : PySem.W.Frag) (EQ : EK) (m : Env → Sto → R (Int × Int)) : L2.St → Hp → (Int → Int → Hp → Prop) → Prop := fun σ H Q => ∃ ex μ env sto, StoR K ex μ H sto ∧ EnvR (hf ex μ H) μ σ env ∧
  (m env sto).wp (fun o s' => ∀ μ' H', FwdE μ H μ' H' → StoR K ex μ' H' s' → Q o.1 o.2 H') (ePost K EQ ex μ H)
theorem PRg.weak {e : Expr} {t t' : L2.St → Hp → (Int → Int → Hp → Prop) → Prop} (h : PRg X e t) (w : ∀ σ H Q, t' σ H Q → t σ H Q) : PRg X e t' := fun pins s σ H Q I q => h pins s σ H Q I (w σ H Q q)
theorem pr_1 {p pos : Pos} (hg : Gl X "range") (hm : X.mg "range" = none) (ha : PE X a (T X.K EQ ma)) (na : starEach [a] X.env = (false, eval a X.env) :: starEach [] X.env := by rfl) : PRg X (.Call (.Name "range" p) [a] [] pos) (Tr X.K EQ (g1 ma)) :=
  PRg.weak (prg_1 hg hm ha na) fun σ H Q => by
    rintro ⟨ex, μ, env, sto, S, V, h⟩
    refine T.then S V h fun x s1 v μ1 H1 F1 S1 V1 r h1 => ?_
    split at h1
    · cases r
      exact ⟨_, rfl, h1 μ1 H1 F1 S1⟩
    · exact h1.elim
theorem pr_2 {p pos : Pos} (hg : Gl X "range") (hm : X.mg "range" = none) (ha : PE X a (T X.K EQ ma)) (hb : PE X b (T X.K EQ mb)) (na : starEach [a, b] X.env = (false, eval a X.env) :: starEach [b] X.env := by rfl) (nb : starEach [b] X.env = (false, eval b X.env) :: starEach [] X.env := by rfl) (hpl : (backTo pos (starEach [b] X.env)).any (·.1) = false := by rfl) : PRg X (.Call (.Name "range" p) [a, b] [] pos) (Tr X.K EQ (g2 ma mb)) :=
  PRg.weak (prg_2 hg hm ha hb na nb hpl) fun σ H Q => by
    rintro ⟨ex, μ, env, sto, S, V, h⟩
    refine T.then S V h fun x s1 v μ1 H1 F1 S1 V1 r h1 => ?_
    refine T.then S1 V1 h1 fun y s2 w μ2 H2 F2 S2 V2 r2 h2 => ?_
    split at h2
    · cases r
      cases r2
      exact ⟨_, _, rfl, rfl, h2 μ2 H2 (F1.trans F2) S2⟩
    · exact h2.elim
theorem rgOk_ok {a b : Int} (h : rgOk a b = true) : RgOk a b := by
  rw [rgOk_iff] at h
  unfold RgOk
  refine ⟨?_, ?_, ?_, ?_, ?_⟩ <;> omega
theorem rg_rp (a b : Int) {Hf : Hp} : RpL Hf (rgV a b) (rgD a b) := by
  unfold rgV rgD
  generalize List.range (b - a).toNat = l
  induction l with
  | nil => exact .nil
  | cons x r ih => exact .cons (.int _) ih
def fRg (m : Env → Sto → R (Int × Int)) : DF := fun env s => (m env s).bind fun p s1 => if rgOk p.1 p.2 = true then .ok (rgD p.1 p.2) s1 else .fail
def eTupRg (m : Env → Sto → R (Int × Int)) : DE := fun env s => (m env s).bind fun p s1 => if rgOk p.1 p.2 = true then .ok (.dat (.tuple (rgD p.1 p.2))) s1 else .fail
theorem rgV_len {a b : Int} (h : rgOk a b = true) : (rgV a b).length ≤ sizeLine := by
  rw [rgV_length]
  exact (rgOk_ok h).2.2.2.2
variable {mr : Env → Sto → R (Int × Int)} {p : Pos}
theorem pf_rg (hc : X.calm = true) (hg : Gl X "list") (hm : X.mg "list" = none) (he : PRg X e (Tr X.K EQ mr)) (na : starEach [e] X.env = (false, eval e X.env) :: starEach [] X.env := by rfl) : PE X (.Call (.Name "list" p) [e] [] pos) (Tf X.K EQ (fRg mr)) :=
  (pe_listRg hc hg hm he na).weak fun σ H Q => by
    rintro ⟨ex, μ, env, sto, S, V, h⟩
    refine ⟨ex, μ, env, sto, S, V, R.wp_mono (fun l s2 q μ2 H2 F2 S2 => ?_) (fun _ _ z => z) _ ((R.wp_bind _).mp h)⟩
    split at q
    · rename_i hr
      exact ⟨rgOk_ok hr, fresh_lst F2 S2 (rg_rp _ _) (rgV_len hr) q⟩
    · exact q.elim
theorem pe_tupRg' (hc : X.calm = true) (hg : Gl X "tuple") (hm : X.mg "tuple" = none) (he : PRg X e (Tr X.K EQ mr)) (na : starEach [e] X.env = (false, eval e X.env) :: starEach [] X.env := by rfl) : PE X (.Call (.Name "tuple" p) [e] [] pos) (T X.K EQ (eTupRg mr)) :=
  (pe_tupRg hc hg hm he na).weak fun σ H Q => by
    rintro ⟨ex, μ, env, sto, S, V, h⟩
    refine ⟨ex, μ, env, sto, S, V, R.wp_mono (fun l s2 q μ2 H2 F2 S2 => ?_) (fun _ _ z => z) _ ((R.wp_bind _).mp h)⟩
    split at q
    · rename_i hr
      exact ⟨rgOk_ok hr, new_tup S2 (rg_rp _ _) (rgV_len hr) fun v' μ' H' F' S' r' => q v' μ' H' (F2.trans F') S' r'⟩
    · exact q.elim

/-! ### isinstance -/
def tyN (sto : Sto) : EV → Option String
  | .dat .none => some "NoneType"
  | .dat (.bool _) => some "bool"
  | .dat (.int _) => some "int"
  | .dat (.str _) => some "str"
  | .dat (.list _) => some "list"
  | .dat (.tuple _) => some "tuple"
  | .ref i => match sto[i]? with
    | some (.lst _) => some "list"
    | _ => none
  | _ => none
/-- the built-in types that stand in the text, decided once -/
def isOne : String → String → Option Bool
  | "int", "int" => some true
  | "bool", "int" => some true
  | "str", "int" => some false
  | "list", "int" => some false
  | "tuple", "int" => some false
  | "NoneType", "int" => some false
  | "int", "bool" => some false
  | "bool", "bool" => some true
  | "str", "bool" => some false
  | "list", "bool" => some false
  | "tuple", "bool" => some false
  | "NoneType", "bool" => some false
  | "int", "str" => some false
  | "bool", "str" => some false
  | "str", "str" => some true
  | "list", "str" => some false
  | "tuple", "str" => some false
  | "NoneType", "str" => some false
  | "int", "list" => some false
  | "bool", "list" => some false
  | "str", "list" => some false
  | "list", "list" => some true
  | "tuple", "list" => some false
  | "NoneType", "list" => some false
  | "int", "tuple" => some false
  | "bool", "tuple" => some false
  | "str", "tuple" => some false
  | "list", "tuple" => some false
  | "tuple", "tuple" => some true
  | "NoneType", "tuple" => some false
  | _, _ => none
def eIsi (ty : String) (m : DE) : DE := fun env s => (m env s).bind fun x s1 => match tyN s1 x with
  | some t => liftD ((isOne t ty).map .bool) s1
  | none => .fail
def eIsi2 (ty ty2 : String) (m : DE) : DE := fun env s => (m env s).bind fun x s1 => match tyN s1 x with
  | some t => match isOne t ty, isOne t ty2 with
    | some a, some b => .ok (.dat (.bool (a || b))) s1
    | _, _ => .fail
  | none => .fail
theorem tyN_ok {K : PySem.W.Frag} {ex : List Addr} {μ : Mu} {H : Hp} {sto : Sto} {x : EV} {v : V} {t : String} (S : StoR K ex μ H sto) (r : EvR (hf ex μ H) μ v x) (h : tyN sto x = some t) : TyX K H v (.type t) := by
  unfold tyN at h
  split at h
  · cases h; cases r; exact .base .non
  · cases h; cases r; exact .base (.bl _)
  · cases h; cases r; exact .base (.int _)
  · cases h; cases r; exact .base (.str _)
  · cases h
    obtain ⟨p, vs, rfl, hp, _⟩ := Rp.list_inv r
    exact .base (.lst (off_some hp).2)
  · cases h
    obtain ⟨p, vs, rfl, hp, _⟩ := Rp.tup_inv r
    exact .base (.tup (off_some hp).2)
  · obtain ⟨a, as, hμ, rfl⟩ := r
    split at h
    · rename_i hs
      cases h
      obtain ⟨b, vs, e, hb, _⟩ := S.cells _ _ _ hμ hs
      cases e
      exact .base (.lst hb)
    · cases h
  · cases h
set_option maxHeartbeats 8000000 in
theorem isOne_kit {t u : String} {b : Bool} (h : isOne t u = some b) : kitB t u = some b := by
  unfold isOne at h
  split at h <;> first | (cases h; decide +kernel) | cases h
theorem pe_isi {ty : String} {x : Str} {p pt : Pos} (he : PE X e (T X.K EQ m)) (hg : Gl X "isinstance") (hm : X.mg "isinstance" = none) (hgt : Gl X x) (hmt : X.mg x = none) (hv : bootBuiltins x = some (.type ty)) (hn : x ≠ "__name__" := by decide) (hdb : (x == ("__debug__" : Str)) = false := by decide)
    (h1 : starEach [e, .Name x pt] X.env = (false, eval e X.env) :: starEach [.Name x pt] X.env := by rfl) (h2 : starEach [.Name x pt] X.env = (false, eval (.Name x pt) X.env) :: starEach [] X.env := by rfl) (hpl : (backTo pos (starEach [.Name x pt] X.env)).any (·.1) = false := by rfl) :
    PE X (.Call (.Name "isinstance" p) [e, .Name x pt] [] pos) (T X.K EQ (eIsi ty m)) :=
  (pe_callB call_isi hg hm (by decide +kernel) (pa_cons he (pa_cons (pe_bltn (v := .ty ty) hgt hmt hv rfl hn hdb) pa_nil h2) h1) (by decide) (by decide) h1 hpl).weak fun σ H Q => by
    rintro ⟨ex, μ, env, sto, S, V, h⟩
    refine T.then S V h fun x s1 v μ1 H1 F1 S1 V1 r h1 => ?_
    split at h1
    · rename_i t et
      obtain ⟨d, ed, q⟩ := wp_liftD h1
      cases eb : isOne t ty with
      | none => rw [eb] at ed; cases ed
      | some b =>
        rw [eb] at ed
        cases ed
        exact ⟨v, .ty ty, .type t, .type ty, b, rfl, .ty ty, tyN_ok S1 r et, kit_ty (isOne_kit eb), q _ μ1 H1 F1 S1 (.bl b)⟩
    · exact h1.elim
theorem pe_isi2 {ty ty2 : String} {x x2 : Str} {p pt pt2 ptt : Pos} {k : Nat} (he : PE X e (T X.K EQ m)) (hg : Gl X "isinstance") (hm : X.mg "isinstance" = none) (hgt : Gl X x) (hmt : X.mg x = none) (hv : bootBuiltins x = some (.type ty)) (hgt2 : Gl X x2) (hmt2 : X.mg x2 = none) (hv2 : bootBuiltins x2 = some (.type ty2))
    (hn : x ≠ "__name__" := by decide) (hdb : (x == ("__debug__" : Str)) = false := by decide) (hn2 : x2 ≠ "__name__" := by decide) (hdb2 : (x2 == ("__debug__" : Str)) = false := by decide)
    (h1 : starEach [e, .Tuple [.Name x pt, .Name x2 pt2] k ptt] X.env = (false, eval e X.env) :: starEach [.Tuple [.Name x pt, .Name x2 pt2] k ptt] X.env := by rfl)
    (h2 : starEach [.Tuple [.Name x pt, .Name x2 pt2] k ptt] X.env = (false, eval (.Tuple [.Name x pt, .Name x2 pt2] k ptt) X.env) :: starEach [] X.env := by rfl)
    (h3 : starEach [.Name x pt, .Name x2 pt2] X.env = (false, eval (.Name x pt) X.env) :: starEach [.Name x2 pt2] X.env := by rfl) (h4 : starEach [.Name x2 pt2] X.env = (false, eval (.Name x2 pt2) X.env) :: starEach [] X.env := by rfl)
    (hpl : (backTo pos (starEach [.Tuple [.Name x pt, .Name x2 pt2] k ptt] X.env)).any (·.1) = false := by rfl) :
    PE X (.Call (.Name "isinstance" p) [e, .Tuple [.Name x pt, .Name x2 pt2] k ptt] [] pos) (T X.K EQ (eIsi2 ty ty2 m)) :=
  (pe_callB call_isiT hg hm (by decide +kernel) (pa_cons he (pa_cons (L2.pe_tup (pa_cons (pe_bltn (v := .ty ty) hgt hmt hv rfl hn hdb) (pa_cons (pe_bltn (v := .ty ty2) hgt2 hmt2 hv2 rfl hn2 hdb2) pa_nil h4) h3)) pa_nil h2) h1) (by decide) (by decide) h1 hpl).weak fun σ H Q => by
    rintro ⟨ex, μ, env, sto, S, V, h⟩
    refine T.then S V h fun x s1 v μ1 H1 F1 S1 V1 r h1 => ?_
    refine ⟨by show 2 ≤ sizeLine; decide, fun tp htp => ?_⟩
    split at h1
    · rename_i t et
      split at h1
      · rename_i a b ea eb
        have L := S1.laid (o := .tup [.ty ty, .ty ty2]) htp
        refine ⟨v, tp, [.ty ty, .ty ty2], .type t, [.type ty, .type ty2], a || b, rfl, upd_same, .cons (.ty _) (.cons (.ty _) .nil), tyN_ok L.1 (r.fwd L.2) et, ?_, h1 _ μ1 _ (F1.trans L.2) L.1 (.bl _)⟩
        refine kitAny_cons (kit_ty (isOne_kit ea)) (fun z => ?_) fun z => by rw [z]; rfl
        subst z
        refine kitAny_cons (kit_ty (isOne_kit eb)) (fun z => ?_) fun z => by rw [z]; rfl
        subst z
        exact kitAny_nil
      · exact h1.elim
    · exact h1.elim
end
end Mx

set_option maxHeartbeats 4000000
/-! enumerate over a tuple -/
namespace L2
open PySem PySem.Spec PyProof.Rows
def IteT (K : PySem.W.Frag) (a : Addr) : It :=
  ⟨fun i H => ∃ (xs : List V) (x : V), SqT K H a xs ∧ xs[i]? = some x, fun i H v H' => ∃ T x, v = .ref T ∧ H T = none ∧ H' = upd H T (.tup [.int (i : Nat), x]) ∧ ∀ xs, SqT K H a xs → xs[i]? = some x, fun i H => ∃ xs : List V, SqT K H a xs ∧ xs.length ≤ i⟩
end L2
namespace Mx
open PySem PySem.Spec PyProof.Rows L2

/-! ### what is walked -/
/-- J gives the items one after another while Hf stands -/
structure Src (J : It) (Hf : Hp) (items : List Dat) : Prop where
  len : items.length ≤ sizeLine
  goes : ∀ i H, i < items.length → Sub Hf H → J.go i H
  stops : ∀ H, Sub Hf H → J.stop items.length H
  yields : ∀ i H x H' d, items[i]? = some d → Sub Hf H → J.yld i H x H' → (H' = H ∧ Rp Hf x d) ∨ ∃ t vs ds, x = .ref t ∧ H t = none ∧ H' = upd H t (.tup vs) ∧ d = .tuple ds ∧ vs.length ≤ sizeLine ∧ RpL Hf vs ds
abbrev DI := Env → Sto → R (List Dat)
section
variable (K : PySem.W.Frag) (EQ : EK)
def Ti (m : DI) : TI := fun σ H Rr => ∃ ex μ env sto, StoR K ex μ H sto ∧ EnvR (hf ex μ H) μ σ env ∧
  (m env sto).wp (fun items s' => ∀ J μ' H', FwdE μ H μ' H' → StoR K ex μ' H' s' → Src J (hf ex μ' H') items → Rr J H') (ePost K EQ ex μ H)
end
theorem src_list {K : PySem.W.Frag} {Hf : Hp} {a : Addr} {vs : List V} {ds : List Dat} (h : Hf a = some (.lst vs)) (l : vs.length ≤ sizeLine) (r : RpL Hf vs ds) : Src (Itl K a) Hf ds := by
  refine ⟨by rw [← r.length]; exact l, fun i H hi s => ?_, fun H s => ⟨vs, SqL.of (s _ _ h), by rw [r.length]; exact Nat.le_refl _⟩, fun i H x H' d hd s y => ?_⟩
  · have hi' : i < vs.length := by rw [r.length]; exact hi
    exact ⟨vs, vs[i], SqL.of (s _ _ h), List.getElem?_eq_getElem hi'⟩
  · obtain ⟨e, q⟩ := y
    obtain ⟨v, hv, rv⟩ := r.get hd
    have := q vs (SqL.of (s _ _ h))
    rw [hv] at this
    cases this
    exact .inl ⟨e, rv⟩
theorem src_tup {K : PySem.W.Frag} {Hf : Hp} {a : Addr} {vs : List V} {ds : List Dat} (h : Hf a = some (.tup vs)) (l : vs.length ≤ sizeLine) (r : RpL Hf vs ds) : Src (Itt K a) Hf ds := by
  refine ⟨by rw [← r.length]; exact l, fun i H hi s => ?_, fun H s => ⟨vs, SqT.of (s _ _ h), by rw [r.length]; exact Nat.le_refl _⟩, fun i H x H' d hd s y => ?_⟩
  · have hi' : i < vs.length := by rw [r.length]; exact hi
    exact ⟨vs, vs[i], SqT.of (s _ _ h), List.getElem?_eq_getElem hi'⟩
  · obtain ⟨e, q⟩ := y
    obtain ⟨v, hv, rv⟩ := r.get hd
    have := q vs (SqT.of (s _ _ h))
    rw [hv] at this
    cases this
    exact .inl ⟨e, rv⟩
theorem rgD_get {a b : Int} {i : Nat} {d : Dat} (h : (rgD a b)[i]? = some d) : d = .int (a + (i : Nat)) := by
  unfold rgD at h
  rw [List.getElem?_map] at h
  cases e : (List.range (b - a).toNat)[i]? with
  | none => rw [e] at h; cases h
  | some j =>
    rw [e] at h
    have := (List.getElem?_eq_some_iff.mp e).2
    rw [List.getElem_range] at this
    subst this
    cases h
    rfl
theorem rgD_length (a b : Int) : (rgD a b).length = (b - a).toNat := by
  unfold rgD
  rw [List.length_map, List.length_range]
theorem src_range {Hf : Hp} {a b : Int} (h : rgOk a b = true) : Src (Itr a (b - a).toNat) Hf (rgD a b) := by
  refine ⟨by rw [rgD_length]; exact (rgOk_ok h).2.2.2.2, fun i H hi s => ?_, fun H s => ?_, fun i H x H' d hd s y => ?_⟩
  · rw [rgD_length] at hi
    exact hi
  · rw [rgD_length]
    exact Nat.le_refl _
  · obtain ⟨e, q⟩ := y
    rw [rgD_get hd, q]
    exact .inl ⟨e, .int _⟩
def enumD : Nat → List Dat → List Dat
  | _, [] => []
  | i, d :: r => .tuple [.int (i : Nat), d] :: enumD (i + 1) r
theorem enumD_length : ∀ (l : List Dat) (i : Nat), (enumD i l).length = l.length
  | [], _ => rfl
  | _ :: r, i => by simp [enumD, enumD_length r]
theorem enumD_get : ∀ (l : List Dat) (j i : Nat) (d : Dat), (enumD j l)[i]? = some d → ∃ e, l[i]? = some e ∧ d = .tuple [.int ((j + i : Nat) : Int), e]
  | [], _, _, _, h => by simp [enumD] at h
  | x :: r, j, 0, d, h => by
    simp [enumD] at h
    exact ⟨x, rfl, h.symm⟩
  | x :: r, j, i + 1, d, h => by
    simp [enumD] at h
    obtain ⟨e, h1, h2⟩ := enumD_get r (j + 1) i d h
    refine ⟨e, by simpa using h1, ?_⟩
    rw [h2]
    have : j + 1 + i = j + (i + 1) := by omega
    rw [this]
def zipD : List Dat → List Dat → List Dat
  | a :: r, b :: s => .tuple [a, b] :: zipD r s
  | _, _ => []
theorem zipD_length : ∀ (l m : List Dat), (zipD l m).length = min l.length m.length
  | [], _ => by simp [zipD]
  | _ :: _, [] => by simp [zipD]
  | _ :: r, _ :: s => by simp [zipD, zipD_length r s]
theorem zipD_get : ∀ (l m : List Dat) (i : Nat) (d : Dat), (zipD l m)[i]? = some d → ∃ a b, l[i]? = some a ∧ m[i]? = some b ∧ d = .tuple [a, b]
  | [], _, _, _, h => by simp [zipD] at h
  | _ :: _, [], _, _, h => by simp [zipD] at h
  | a :: r, b :: s, 0, d, h => by
    simp [zipD] at h
    exact ⟨a, b, rfl, rfl, h.symm⟩
  | a :: r, b :: s, i + 1, d, h => by
    simp [zipD] at h
    obtain ⟨x, y, h1, h2, h3⟩ := zipD_get r s i d h
    exact ⟨x, y, by simpa using h1, by simpa using h2, h3⟩
theorem two_line : 2 ≤ sizeLine := by decide
theorem src_enum {K : PySem.W.Frag} {Hf : Hp} {a : Addr} {vs : List V} {ds : List Dat} (h : Hf a = some (.lst vs)) (l : vs.length ≤ sizeLine) (r : RpL Hf vs ds) : Src (Ite K a) Hf (enumD 0 ds) := by
  refine ⟨by rw [enumD_length, ← r.length]; exact l, fun i H hi s => ?_, fun H s => ⟨vs, SqL.of (s _ _ h), by rw [r.length, enumD_length]; exact Nat.le_refl _⟩, fun i H x H' d hd s y => ?_⟩
  · have hi' : i < vs.length := by rw [r.length]; rw [enumD_length] at hi; exact hi
    exact ⟨vs, vs[i], SqL.of (s _ _ h), List.getElem?_eq_getElem hi'⟩
  · obtain ⟨t, u, e1, e2, e3, q⟩ := y
    obtain ⟨e, he, rfl⟩ := enumD_get ds 0 i d hd
    obtain ⟨v, hv, rv⟩ := r.get he
    have := q vs (SqL.of (s _ _ h))
    rw [hv] at this
    cases this
    refine .inr ⟨t, _, _, e1, e2, e3, rfl, two_line, .cons ?_ (.cons rv .nil)⟩
    rw [Nat.zero_add]
    exact .int _
theorem src_enumT {K : PySem.W.Frag} {Hf : Hp} {a : Addr} {vs : List V} {ds : List Dat} (h : Hf a = some (.tup vs)) (l : vs.length ≤ sizeLine) (r : RpL Hf vs ds) : Src (IteT K a) Hf (enumD 0 ds) := by
  refine ⟨by rw [enumD_length, ← r.length]; exact l, fun i H hi s => ?_, fun H s => ⟨vs, SqT.of (s _ _ h), by rw [r.length, enumD_length]; exact Nat.le_refl _⟩, fun i H x H' d hd s y => ?_⟩
  · have hi' : i < vs.length := by rw [r.length]; rw [enumD_length] at hi; exact hi
    exact ⟨vs, vs[i], SqT.of (s _ _ h), List.getElem?_eq_getElem hi'⟩
  · obtain ⟨t, u, e1, e2, e3, q⟩ := y
    obtain ⟨e, he, rfl⟩ := enumD_get ds 0 i d hd
    obtain ⟨v, hv, rv⟩ := r.get he
    have := q vs (SqT.of (s _ _ h))
    rw [hv] at this
    cases this
    refine .inr ⟨t, _, _, e1, e2, e3, rfl, two_line, .cons ?_ (.cons rv .nil)⟩
    rw [Nat.zero_add]
    exact .int _

/-- enumerate of a tuple, walked -/
theorem turn_enumT {P : Program} {w : World} {K : PySem.W.Frag} {elts : List Expr} {kk : Nat} {tpos : Pos} (a e it : Addr) :
    Turn P w K (.Tuple elts kk tpos) (IteT K a) [e, it] e (fun i h => (∃ old, IsEnum h e it ((i : Nat) : Int) old) ∧ h.IsTupleIter it a i ∧ e ≠ it) where
  mem := by simp
  obj := fun i h st b hb => by
    obtain ⟨⟨old, he⟩, ⟨o, ho, hc, hd⟩, _⟩ := st
    have e' : b = e ∨ b = it := by simpa using hb
    rcases e' with z | z
    · rw [z]; exact ⟨_, he, fun v q => nomatch q⟩
    · rw [z]; exact ⟨o, ho, fun v q => by rw [hd] at q; cases q⟩
  keep := fun i h h' st k => let ⟨⟨old, he⟩, hi, hne⟩ := st; ⟨⟨old, k e (by simp) _ he⟩, hi.at fun o q => k it (by simp) o q, hne⟩
  item := by
    intro X hP hw hK hc i pins s σ H E I hf st hg
    subst hP hw hK
    obtain ⟨⟨old, he⟩, hit, hne⟩ := st
    obtain ⟨xs, x, hq, hx⟩ := hg
    obtain ⟨its, rv, p, hz⟩ := I.tuple hq
    obtain ⟨u, hu, ru⟩ := rv.get hx
    have hel : e < s.heap.objs.size := Heap.lt_size he
    have hil : it < s.heap.objs.size := by obtain ⟨_, q, _⟩ := hit; exact Heap.lt_size q
    have hai : a ≠ it := fun z => by
      obtain ⟨o, ho, hcl, _⟩ := hit
      obtain ⟨o', ho', hcl', _⟩ := p
      rw [z] at ho'
      rw [ho] at ho'
      cases ho'
      rw [hcl] at hcl'
      exact absurd (Value.type.inj hcl') (by decide)
    have hae : e ≠ a := fun z => by
      obtain ⟨o', ho', hcl', _⟩ := p
      rw [← z] at ho'
      have he' := he
      unfold IsEnum at he'
      rw [ho'] at he'
      cases he'
      exact absurd (Value.type.inj (show Value.type "enumerate" = Value.type "tuple" from hcl')) (by decide)
    have hi : i < its.toArray.size := by
      have := (List.getElem?_eq_some_iff.mp hu).1
      simpa using this
    have D := Draws.tuple (prog := X.prog) (w := X.w) (A := X.A.in1) (show X.A.in1.handled = none from I.ok.hd hc) it a hai its.toArray
    refine wpAny_pyNext_enum_itemC D he ⟨hit, show s.heap.IsTuple a its.toArray from p⟩ hi hne (by simp [hne, hae]) fun v h' tk hv ho st' hT hsz hk => ?_
    have ev : v = u := by
      have hv' : its.toArray[i]? = some v := hv
      rw [show its.toArray[i]? = its[i]? from by simp, hu] at hv'
      exact (Option.some.inj hv').symm
    subst ev
    have hit' := st'.1
    refine ⟨_, rfl, wpAny_letOwnedTupleGo_enum (s := { s with heap := h', toks := tk + 1 }) ho fun h'' he' sb => ?_⟩
    have hT2 : h''.get? s.heap.objs.size = some { cls := .type "tuple", data := .seq #[.int i tk, v] } := (sb.2 _ (Nat.ne_of_gt hel)).trans hT
    have new : ObjOk X.prog X.w (upd H s.heap.objs.size (.tup [.int (i : Nat), x])) h'' s.heap.objs.size (.tup [.int (i : Nat), x]) :=
      ⟨by show 2 ≤ sizeLine; decide, [.int i tk, v], .cons ⟨_, rfl⟩ (.cons ru .nil), ⟨_, hT2, rfl, _, rfl⟩⟩
    have I1 : Inv X pins σ (upd H s.heap.objs.size (.tup [.int (i : Nat), x])) { s with heap := h'', toks := tk + 1 } :=
      I.turnedNew (ch := [e, it]) (fun b ob hb q => (sb.2 b (fun z => hb (by simp [z]))).trans (hk b ob (fun z => hb (by simp [z])) (fun z => hb (by simp [z])) q)) hf (Nat.le_refl _) new
    refine ⟨.ref s.heap.objs.size, _, I1, rfl, ⟨_, x, rfl, I.hok.fresh (Nat.le_refl _), rfl, fun ys hy => by rw [I.tuple_inj hy hq]; exact hx⟩, ⟨⟨v, ?_⟩, hit'.at fun o q => (sb.2 it (Ne.symm hne)).trans q, hne⟩, fun b hb => ?_⟩
    · have e1 : ((i + 1 : Nat) : Int) = (i : Int) + 1 := by omega
      rw [e1]; exact he'
    · have hb' : b < s.heap.objs.size := by
        have e' : b = e ∨ b = it := by simpa using hb
        rcases e' with z | z
        · rw [z]; exact hel
        · rw [z]; exact hil
      rw [upd_ne (Nat.ne_of_lt hb')]
      exact (hf b hb).1
  done := by
    intro X hP hw hK hc i pins s σ H E I hf st hg
    subst hP hw hK
    obtain ⟨⟨old, he⟩, hit, hne⟩ := st
    obtain ⟨xs, hq, hx⟩ := hg
    obtain ⟨its, rv, p, hz⟩ := I.tuple hq
    obtain ⟨f0, f1, f2, f3, f4, f5⟩ := hf it (by simp)
    have hl := rv.length
    have hai : a ≠ it := fun z => by
      obtain ⟨o, ho, hcl, _⟩ := hit
      obtain ⟨o', ho', hcl', _⟩ := p
      rw [z] at ho'
      rw [ho] at ho'
      cases ho'
      rw [hcl] at hcl'
      exact absurd (Value.type.inj hcl') (by decide)
    have hh : X.A.handled = none := I.ok.hd hc
    have hT : s.TypeIs (.ref e) "enumerate" := ⟨_, he, rfl⟩
    have hn : its.toArray[i]? = none := by
      simp
      omega
    unfold pyNext
    refine wpAny_bind (wpAny_attempt (wpAny_callSpecial?_slot (name := Str.ofString "__next__") hT F.slot_enumerate_next
      (wpAny_call_entry F.slot_enumerate_next hT F.entry_enumerate_next ?_ (F.args_enumerate_next_1 _))))
    show wpAny _ _ (field (.ref e) 2 >>= _) _ _ _
    refine wpAny_bind (wpAny_field he rfl (x := .ref it) rfl ?_)
    refine wpAny_bind (wpAny_nextOf_tuple_end hh hit (show s.heap.IsTuple a its.toArray from p) hn fun h' x he' hx' => ?_)
    obtain ⟨o, ho, hc⟩ := hx'
    refine wpAny_bind (wpAny_isInstance (T := "StopIteration") (b := true) ⟨o, ho, hc⟩ isSubtype_stop ?_)
    exact wpAny_pure ⟨rfl, I.turned (t' := s.toks) (fun b o hb q => he' b o hb q) f0 f1 f3 f4 f5⟩
  self := fun A i s Q E st h => let ⟨⟨_, he⟩, _⟩ := st; wpAny_pyIter_enum he h
theorem meets_enumerate_newB1 {v : Value} {o : Obj} {H : Heap → Prop} (B : Begins v o H) :
    Meets (Builtin.«enumerate.__new__» ⟨[.type "enumerate", v], []⟩) (fun _ R s => H s.heap ∧
      R (.ok (.ret (.ref (s.heap.push o).objs.size))) { s with heap := (s.heap.push o).push { cls := .type "enumerate", data := .fields #[.none, .bool false, .ref s.heap.objs.size, rawInt 0, .none, .none] } }) :=
  .of_wp fun prog w A R s h => by
    obtain ⟨hp, g, d, tk, os⟩ := s; obtain ⟨h1, h⟩ := h
    have hsub := sub_enumerate
    have q1 : ∀ {A' : Around} {E : Value → Shared → Prop} {Q : Value → Shared → Prop}, Q (.ref hp.objs.size) ⟨hp.push o, g, d, tk, os⟩ → wpAny (model prog w) A' (pyIter v) Q E ⟨hp, g, d, tk, os⟩ :=
      fun q => B.iter prog w _ _ ⟨hp, g, d, tk, os⟩ _ h1 q
    wp_walk using q1
    refine wpAny_stack_any fun st => wpAny_pure ?_
    split
    · rename_i c _ _ _ _ _
      cases (c == Value.type "enumerate")
      · wp_walk using q1
        exact ⟨_, rfl, h⟩
      · wp_walk using q1
        exact ⟨_, rfl, h⟩
    · wp_walk using q1
      exact ⟨_, rfl, h⟩
theorem call_enumerate_tup {prog : Program} {w : World} {A : Around} {E : Value → Shared → Prop} {s : Shared} {l : Addr} {items : Array Value} {Q : Value → Shared → Prop} (hL : s.heap.IsTuple l items)
    (h : ∀ h', IsEnum h' (s.heap.objs.size + 1) s.heap.objs.size 0 .none → h'.IsTupleIter s.heap.objs.size l 0 → h'.objs.size = s.heap.objs.size + 2 →
      (∀ b o, s.heap.get? b = some o → h'.get? b = some o) → Q (.ref (s.heap.objs.size + 1)) { s with heap := h' }) :
    wpAny (model prog w) A (call (.type "enumerate") [.ref l]) Q E s := by
  refine callType_new F.called_enumerate (by decide) (F.typeCall_enumerate_1 _) (F.newCall_enumerate_1 _) (fun obj => F.args_object_init_2 obj _) F.entry_enumerate_new
    (meets_enumerate_newB1 (begins_tuple l items)) ⟨hL, ?_⟩
  have hz : (s.heap.push { cls := .type "tuple_iterator", data := .fields #[.ref l, .int 0 0] }).objs.size = s.heap.objs.size + 1 := Heap.size_push ..
  show _ ∧ _
  rw [hz]
  have he : IsEnum ((s.heap.push { cls := .type "tuple_iterator", data := .fields #[.ref l, .int 0 0] }).push
      { cls := .type "enumerate", data := .fields #[.none, .bool false, .ref s.heap.objs.size, rawInt 0, .none, .none] }) (s.heap.objs.size + 1) s.heap.objs.size 0 .none := by
    have := Heap.get?_push_size (s.heap.push { cls := .type "tuple_iterator", data := .fields #[.ref l, .int 0 0] })
      (o := { cls := .type "enumerate", data := .fields #[.none, .bool false, .ref s.heap.objs.size, rawInt 0, .none, .none] }) rfl
    rw [hz] at this; exact this
  refine ⟨⟨_, he, rfl⟩, h _ he ⟨_, Heap.get?_push_of_some _ (Heap.get?_push_size _ rfl), rfl, rfl⟩ (by rw [Heap.size_push, hz]) fun b o x => Heap.get?_push_of_some _ (Heap.get?_push_of_some _ x)⟩
def iEnumA (K : PySem.W.Frag) (ta : TA) : TI := fun σ H R => ta σ H fun vs H1 => ∃ a xs, vs = [.ref a] ∧ ((SqL K H1 a xs ∧ R (Ite K a) H1) ∨ (SqT K H1 a xs ∧ R (IteT K a) H1))
theorem pi_enumA {X : Cx} {e : Expr} {ta : TA} {p pos tpos : Pos} {elts : List Expr} {kk : Nat} (hg : Gl X "enumerate") (hm : X.mg "enumerate" = none) (ha : PA X [e] ta) (hs : starEach [e] X.env = [(false, eval e X.env)] := by rfl) :
    PI X (.Tuple elts kk tpos) (.Call (.Name "enumerate" p) [e] [] pos) (iEnumA X.K ta) := by
  refine ⟨fun pins s σ H R I h => ?_⟩
  refine Call_ (ld_blt I hg hm boot_enumerate (PyProof.Rows.callWith_type1 (thn (ha.run pos pins s σ H _ I h) fun us s1 ⟨vs, H1, I1, r1, q1⟩ => ?_) hs rfl))
  obtain ⟨a, xs, ex, hq⟩ := q1
  subst ex
  cases r1 with
  | cons r rr =>
    cases rr
    cases r
    have lo : ∀ b ∈ [s1.heap.objs.size + 1, s1.heap.objs.size], FpOk X pins H1 b := fun b hb => by
      have e' : b = s1.heap.objs.size + 1 ∨ b = s1.heap.objs.size := by simpa using hb
      have hle : s1.heap.objs.size ≤ b := by
        rcases e' with z | z
        · rw [z]; exact Nat.le_add_right _ _
        · rw [z]; exact Nat.le_refl _
      exact I1.fpOk hle (I1.hok.fresh hle)
    rcases hq with ⟨hq, q⟩ | ⟨hq, q⟩
    · obtain ⟨its, rv, p', hz⟩ := I1.list hq
      refine call_enumerate_list p'.isList fun h' he hit hsz hk => wpAny_pyIter_enum he ?_
      have I2 : Inv X pins σ H1 { s1 with heap := h' } := I1.kept (t' := s1.toks) hk
      exact ⟨s1.heap.objs.size + 1, [s1.heap.objs.size + 1, s1.heap.objs.size], _, _, H1, rfl, I2, turn_enum a (s1.heap.objs.size + 1) s1.heap.objs.size, ⟨⟨.none, he⟩, hit, Nat.succ_ne_self _⟩, lo, q⟩
    · obtain ⟨its, rv, p', hz⟩ := I1.tuple hq
      refine call_enumerate_tup (show s1.heap.IsTuple a its.toArray from p') fun h' he hit hsz hk => wpAny_pyIter_enum he ?_
      have I2 : Inv X pins σ H1 { s1 with heap := h' } := I1.kept (t' := s1.toks) hk
      exact ⟨s1.heap.objs.size + 1, [s1.heap.objs.size + 1, s1.heap.objs.size], _, _, H1, rfl, I2, turn_enumT a (s1.heap.objs.size + 1) s1.heap.objs.size, ⟨⟨.none, he⟩, hit, Nat.succ_ne_self _⟩, lo, q⟩
end Mx

set_option maxHeartbeats 4000000
namespace Mx
open PySem PySem.Spec PyProof.Rows L2

/-! ### what is walked, by denotations -/
def iSeq (K : PySem.W.Frag) (te : TE) : TI := fun σ H Rr => te σ H fun x H1 => ∃ a, x = .ref a ∧ ((∃ xs, SqL K H1 a xs ∧ Rr (Itl K a) H1) ∨ (∃ xs, SqT K H1 a xs ∧ Rr (Itt K a) H1))
theorem pi_seq {X : Cx} {tg l : Expr} {tl : TE} (hl : PE X l tl) : PI X tg l (iSeq X.K tl) := by
  refine ⟨fun pins s σ H R I h => ?_⟩
  refine thn (hl.run pins s σ H _ I h) fun v s1 ⟨x, H1, I1, r1, q1⟩ => ?_
  obtain ⟨a, e, q⟩ := q1
  subst e
  cases r1
  rcases q with ⟨xs, hq, q⟩ | ⟨xs, hq, q⟩
  · obtain ⟨its, rv, p, hz⟩ := I1.list hq
    refine wpAny_pyIter_list p.isList ?_
    refine ⟨s1.heap.objs.size, [s1.heap.objs.size], _, _, H1, rfl, I1.kept (t' := s1.toks) fun b o e => Heap.get?_push_of_some _ e, turn_list a _, ⟨_, Heap.get?_push_size _ rfl, rfl, rfl⟩, fun b hb => ?_, q⟩
    have e : b = s1.heap.objs.size := by simpa using hb
    subst e
    exact I1.fpOk (Nat.le_refl _) (I1.hok.fresh (Nat.le_refl _))
  · obtain ⟨its, rv, p, hz⟩ := I1.tuple hq
    refine wpAny_pyIter_tuple (show s1.heap.IsTuple a its.toArray from p) ?_
    refine ⟨s1.heap.objs.size, [s1.heap.objs.size], _, _, H1, rfl, I1.kept (t' := s1.toks) fun b o e => Heap.get?_push_of_some _ e, turn_tuple a _, ⟨_, Heap.get?_push_size _ rfl, rfl, rfl⟩, fun b hb => ?_, q⟩
    have e : b = s1.heap.objs.size := by simpa using hb
    subst e
    exact I1.fpOk (Nat.le_refl _) (I1.hok.fresh (Nat.le_refl _))
theorem PI.weak {X : Cx} {tg e : Expr} {t t' : TI} (h : PI X tg e t) (w : ∀ σ H Q, t' σ H Q → t σ H Q) : PI X tg e t' := ⟨fun pins s σ H Q I q => h.run pins s σ H Q I (w σ H Q q)⟩
def dI (m : DE) : DI := fun env s => (m env s).bind fun x s1 => match x with
  | .dat (.list ds) => .ok ds s1
  | .dat (.tuple ds) => .ok ds s1
  | _ => .fail
def dRg (m : Env → Sto → R (Int × Int)) : DI := fun env s => (m env s).bind fun p s1 => if rgOk p.1 p.2 = true then .ok (rgD p.1 p.2) s1 else .fail
def dEnum (m : DE) : DI := fun env s => (m env s).bind fun x s1 => match x with
  | .dat (.list ds) => .ok (enumD 0 ds) s1
  | .dat (.tuple ds) => .ok (enumD 0 ds) s1
  | _ => .fail
def dZip (m n : DE) : DI := fun env s => (m env s).bind fun x s1 => (n env s1).bind fun y s2 => match x, y with
  | .dat (.list a), .dat (.list b) => .ok (zipD a b) s2
  | .dat (.tuple a), .dat (.tuple b) => .ok (zipD a b) s2
  | _, _ => .fail
section
variable {X : Cx} {EQ : EK} {σ : L2.St} {H : Hp} {e a b tg : Expr} {pos p : Pos} {m n : DE}
theorem pi_d (h : PE X e (T X.K EQ m)) : PI X tg e (Ti X.K EQ (dI m)) := PI.weak (pi_seq h) fun σ H Rr => by
  rintro ⟨ex, μ, env, sto, S, V, h⟩
  refine T.then S V h fun x s1 v μ1 H1 F1 S1 V1 r h1 => ?_
  split at h1
  · obtain ⟨a, vs, rfl, ha, l, rr⟩ := Rp.list_inv r
    exact ⟨a, rfl, .inl ⟨vs, SqL.of (off_some ha).2, h1 _ μ1 H1 F1 S1 (src_list ha l rr)⟩⟩
  · obtain ⟨a, vs, rfl, ha, l, rr⟩ := Rp.tup_inv r
    exact ⟨a, rfl, .inr ⟨vs, SqT.of (off_some ha).2, h1 _ μ1 H1 F1 S1 (src_tup ha l rr)⟩⟩
  · exact h1.elim
theorem rgOk_w {a b : Int} (h : rgOk a b = true) : -(2 ^ 62) ≤ a ∧ a < 2 ^ 62 ∧ -(2 ^ 62) ≤ b ∧ b < 2 ^ 62 := ⟨(rgOk_ok h).1, (rgOk_ok h).2.1, (rgOk_ok h).2.2.1, (rgOk_ok h).2.2.2.1⟩
theorem pi_r1 (hg : Gl X "range") (hm : X.mg "range" = none) (ha : PE X a (T X.K EQ m)) (h0 : starEach [a] X.env = (false, eval a X.env) :: starEach [] X.env := by rfl) (hs : starEach [a] X.env = [(false, eval a X.env)] := by rfl) : PI X tg (.Call (.Name "range" p) [a] [] pos) (Ti X.K EQ (dRg (g1 m))) :=
  PI.weak (pi_range1 hg hm (pa_cons ha pa_nil h0) hs) fun σ H Rr => by
    rintro ⟨ex, μ, env, sto, S, V, h⟩
    have h' := (R.wp_bind _).mp h
    unfold g1 at h'
    refine T.then S V h' fun x s1 v μ1 H1 F1 S1 V1 r h1 => ?_
    split at h1
    · rename_i k
      cases r
      change (if rgOk 0 k = true then R.ok (rgD 0 k) s1 else R.fail).wp _ _ at h1
      split at h1
      · rename_i hr
        have w := rgOk_w hr
        refine ⟨k, rfl, w.2.2.1, w.2.2.2, ?_⟩
        have sr := src_range (Hf := hf ex μ1 H1) hr
        rw [Int.sub_zero] at sr
        exact h1 _ μ1 H1 F1 S1 sr
      · exact h1.elim
    · exact h1.elim
theorem pi_r2 (hg : Gl X "range") (hm : X.mg "range" = none) (ha : PE X a (T X.K EQ m)) (hb : PE X b (T X.K EQ n)) (h0 : starEach [a, b] X.env = (false, eval a X.env) :: starEach [b] X.env := by rfl) (h00 : starEach [b] X.env = (false, eval b X.env) :: starEach [] X.env := by rfl)
    (hs : starEach [a, b] X.env = [(false, eval a X.env), (false, eval b X.env)] := by rfl) (hs2 : starEach [b] X.env = [(false, eval b X.env)] := by rfl) : PI X tg (.Call (.Name "range" p) [a, b] [] pos) (Ti X.K EQ (dRg (g2 m n))) :=
  PI.weak (pi_range2 hg hm (pa_cons ha (pa_cons hb pa_nil h00) h0) hs hs2) fun σ H Rr => by
    rintro ⟨ex, μ, env, sto, S, V, h⟩
    have h' := (R.wp_bind _).mp h
    unfold g2 at h'
    refine T.then S V h' fun x s1 v μ1 H1 F1 S1 V1 r h1 => ?_
    refine T.then S1 V1 h1 fun y s2 w μ2 H2 F2 S2 V2 r2 h2 => ?_
    split at h2
    · rename_i i j
      cases r
      cases r2
      change (if rgOk i j = true then R.ok (rgD i j) s2 else R.fail).wp _ _ at h2
      split at h2
      · rename_i hr
        have w := rgOk_w hr
        exact ⟨i, j, rfl, w, h2 _ μ2 H2 (F1.trans F2) S2 (src_range hr)⟩
      · exact h2.elim
    · exact h2.elim
theorem pi_en {tpos : Pos} {elts : List Expr} {kk : Nat} (hg : Gl X "enumerate") (hm : X.mg "enumerate" = none) (ha : PE X e (T X.K EQ m)) (h0 : starEach [e] X.env = (false, eval e X.env) :: starEach [] X.env := by rfl) (hs : starEach [e] X.env = [(false, eval e X.env)] := by rfl) : PI X (.Tuple elts kk tpos) (.Call (.Name "enumerate" p) [e] [] pos) (Ti X.K EQ (dEnum m)) :=
  PI.weak (pi_enumA hg hm (pa_cons ha pa_nil h0) hs) fun σ H Rr => by
    rintro ⟨ex, μ, env, sto, S, V, h⟩
    refine T.then S V h fun x s1 v μ1 H1 F1 S1 V1 r h1 => ?_
    split at h1
    · obtain ⟨a, vs, rfl, ha, l, rr⟩ := Rp.list_inv r
      exact ⟨a, vs, rfl, .inl ⟨SqL.of (off_some ha).2, h1 _ μ1 H1 F1 S1 (src_enum ha l rr)⟩⟩
    · obtain ⟨a, vs, rfl, ha, l, rr⟩ := Rp.tup_inv r
      exact ⟨a, vs, rfl, .inr ⟨SqT.of (off_some ha).2, h1 _ μ1 H1 F1 S1 (src_enumT ha l rr)⟩⟩
    · exact h1.elim
theorem src_zip {K : PySem.W.Frag} {Hf : Hp} {a b : Addr} {vs ws : List V} {ds es : List Dat} (h : Hf a = some (.lst vs)) (l : vs.length ≤ sizeLine) (r : RpL Hf vs ds) (h' : Hf b = some (.lst ws)) (r' : RpL Hf ws es) : Src (Itz K a b) Hf (zipD ds es) := by
  refine ⟨?_, fun i H hi s => ?_, fun H s => ⟨vs, ws, SqL.of (s _ _ h), SqL.of (s _ _ h'), ?_⟩, fun i H x H' d hd s y => ?_⟩
  · rw [zipD_length, ← r.length]
    omega
  · rw [zipD_length] at hi
    have h1 : i < vs.length := by rw [r.length]; omega
    have h2 : i < ws.length := by rw [r'.length]; omega
    exact ⟨vs, ws, vs[i], ws[i], SqL.of (s _ _ h), SqL.of (s _ _ h'), List.getElem?_eq_getElem h1, List.getElem?_eq_getElem h2⟩
  · rw [zipD_length, r.length, r'.length]
    omega
  · obtain ⟨t, u, v, e1, e2, e3, q1, q2⟩ := y
    obtain ⟨x1, x2, hx1, hx2, rfl⟩ := zipD_get ds es i d hd
    obtain ⟨v1, hv1, rv1⟩ := r.get hx1
    obtain ⟨v2, hv2, rv2⟩ := r'.get hx2
    have w1 := q1 vs (SqL.of (s _ _ h))
    have w2 := q2 ws (SqL.of (s _ _ h'))
    rw [hv1] at w1
    rw [hv2] at w2
    cases w1
    cases w2
    exact .inr ⟨t, _, _, e1, e2, e3, rfl, two_line, .cons rv1 (.cons rv2 .nil)⟩
theorem src_zipT {K : PySem.W.Frag} {Hf : Hp} {a b : Addr} {vs ws : List V} {ds es : List Dat} (h : Hf a = some (.tup vs)) (l : vs.length ≤ sizeLine) (r : RpL Hf vs ds) (h' : Hf b = some (.tup ws)) (r' : RpL Hf ws es) : Src (RZ.ItzT K a b) Hf (zipD ds es) := by
  refine ⟨?_, fun i H hi s => ?_, fun H s => ⟨vs, ws, SqT.of (s _ _ h), SqT.of (s _ _ h'), ?_⟩, fun i H x H' d hd s y => ?_⟩
  · rw [zipD_length, ← r.length]
    omega
  · rw [zipD_length] at hi
    have h1 : i < vs.length := by rw [r.length]; omega
    have h2 : i < ws.length := by rw [r'.length]; omega
    exact ⟨vs, ws, vs[i], ws[i], SqT.of (s _ _ h), SqT.of (s _ _ h'), List.getElem?_eq_getElem h1, List.getElem?_eq_getElem h2⟩
  · rw [zipD_length, r.length, r'.length]
    omega
  · obtain ⟨t, u, v, e1, e2, e3, q1, q2⟩ := y
    obtain ⟨x1, x2, hx1, hx2, rfl⟩ := zipD_get ds es i d hd
    obtain ⟨v1, hv1, rv1⟩ := r.get hx1
    obtain ⟨v2, hv2, rv2⟩ := r'.get hx2
    have w1 := q1 vs (SqT.of (s _ _ h))
    have w2 := q2 ws (SqT.of (s _ _ h'))
    rw [hv1] at w1
    rw [hv2] at w2
    cases w1
    cases w2
    exact .inr ⟨t, _, _, e1, e2, e3, rfl, two_line, .cons rv1 (.cons rv2 .nil)⟩
theorem pi_z {tpos : Pos} {elts : List Expr} {kk : Nat} (hg : Gl X "zip") (hm : X.mg "zip" = none) (ha : PE X a (T X.K EQ m)) (hb : PE X b (T X.K EQ n)) (h0 : starEach [a, b] X.env = (false, eval a X.env) :: starEach [b] X.env := by rfl) (h00 : starEach [b] X.env = (false, eval b X.env) :: starEach [] X.env := by rfl) (hpl : (backTo pos (starEach [b] X.env)).any (·.1) = false := by rfl) : PI X (.Tuple elts kk tpos) (.Call (.Name "zip" p) [a, b] [] pos) (Ti X.K EQ (dZip m n)) :=
  PI.weak (RZ.pi_zipA hg hm (pa_cons ha (pa_cons hb pa_nil h00) h0) h0 hpl) fun σ H Rr => by
    rintro ⟨ex, μ, env, sto, S, V, h⟩
    refine T.then S V h fun x s1 v μ1 H1 F1 S1 V1 r h1 => ?_
    refine T.then S1 V1 h1 fun y s2 w μ2 H2 F2 S2 V2 r2 h2 => ?_
    have r' := r.fwd F2
    split at h2
    · obtain ⟨a, vs, rfl, ha, l, rr⟩ := Rp.list_inv r'
      obtain ⟨b, ws, rfl, hb, l2, rr2⟩ := Rp.list_inv r2
      exact ⟨a, b, vs, ws, rfl, .inl ⟨SqL.of (off_some ha).2, SqL.of (off_some hb).2, h2 _ μ2 H2 (F1.trans F2) S2 (src_zip ha l rr hb rr2)⟩⟩
    · obtain ⟨a, vs, rfl, ha, l, rr⟩ := Rp.tup_inv r'
      obtain ⟨b, ws, rfl, hb, l2, rr2⟩ := Rp.tup_inv r2
      exact ⟨a, b, vs, ws, rfl, .inr ⟨SqT.of (off_some ha).2, SqT.of (off_some hb).2, h2 _ μ2 H2 (F1.trans F2) S2 (src_zipT ha l rr hb rr2)⟩⟩
    · exact h2.elim
end

/-! ### targets -/
abbrev DG := Env → Dat → Option Env
abbrev DGs := Env → List Dat → Option Env
def gN (i : Nat) : DG := fun env d => some (env.set i (some (.dat d)))
def gT (g : DGs) : DG := fun env d => match d with
  | .tuple ds => g env ds
  | _ => none
def gs0 : DGs := fun env ds => match ds with
  | [] => some env
  | _ :: _ => none
def gsC (g : DG) (r : DGs) : DGs := fun env ds => match ds with
  | [] => none
  | d :: t => match g env d with
    | some env' => r env' t
    | none => none
def Tg (g : DG) (vs : List Nat) : TG := fun v σ H Q => ∃ ex μ env d, EnvR (hf ex μ H) μ σ env ∧ Rp (hf ex μ H) v d ∧ ∃ env', g env d = some env' ∧ ∀ σ', EnvR (hf ex μ H) μ σ' env' → wipe σ' vs = wipe σ vs → Q σ' H
def Tgs (g : DGs) (vs : List Nat) : TGs := fun ws σ H Q => ∃ ex μ env ds, EnvR (hf ex μ H) μ σ env ∧ RpL (hf ex μ H) ws ds ∧ ∃ env', g env ds = some env' ∧ ∀ σ', EnvR (hf ex μ H) μ σ' env' → wipe σ' vs = wipe σ vs → Q σ' H
theorem EnvR.set {Hf : Hp} {μ : Mu} {σ : L2.St} {env : Env} (V : EnvR Hf μ σ env) (i : Nat) {v : L2.V} {e : EV} (r : EvR Hf μ v e) : EnvR Hf μ (σ.set i (some v)) (env.set i (some e)) := by
  refine ⟨by rw [List.length_set, List.length_set]; exact V.1, fun j x h => ?_⟩
  by_cases hj : i = j
  · subst hj
    have hl : i < env.length := by
      have := (List.getElem?_eq_some_iff.mp h).1
      simpa using this
    rw [List.getElem?_set_self hl] at h
    cases h
    exact ⟨v, by rw [List.getElem?_set_self (by rw [V.1]; exact hl)], r⟩
  · rw [List.getElem?_set_ne hj] at h
    obtain ⟨w, a, b⟩ := V.2 j x h
    exact ⟨w, by rw [List.getElem?_set_ne hj]; exact a, b⟩
theorem wipe_get {τ : L2.St} {j : Nat} : ∀ {vs : List Nat}, j ∈ vs → (wipe τ vs)[j]? = if j < τ.length then some none else none
  | [], h => nomatch h
  | k :: r, h => by
    unfold wipe
    by_cases e : k = j
    · subst e
      by_cases hb : k < τ.length
      · rw [List.getElem?_set_self (by rw [wipe_length]; exact hb), if_pos hb]
      · rw [if_neg hb]
        exact List.getElem?_eq_none (by rw [List.length_set, wipe_length]; omega)
    · rw [List.getElem?_set_ne e]
      rcases List.mem_cons.mp h with z | z
      · exact absurd z.symm e
      · exact wipe_get z
theorem wipe_ext {σ τ : L2.St} {vs : List Nat} (hl : τ.length = σ.length) (h : ∀ j, j ∉ vs → τ[j]? = σ[j]?) : wipe τ vs = wipe σ vs := by
  refine List.ext_getElem? fun j => ?_
  by_cases hj : j ∈ vs
  · rw [wipe_get hj, wipe_get hj, hl]
  · rw [wipe_out hj, wipe_out hj, h j hj]
theorem wipe_set {σ : L2.St} {v : Option L2.V} {vs : List Nat} {i : Nat} (hi : i ∈ vs) : wipe (σ.set i v) vs = wipe σ vs :=
  wipe_ext (by simp) fun j hj => List.getElem?_set_ne (show i ≠ j from fun z => hj (by rw [← z]; exact hi))
theorem wipe_wipe (σ : L2.St) (vs : List Nat) : wipe (wipe σ vs) vs = wipe σ vs := wipe_ext (wipe_length _ _) fun _ hj => wipe_out hj
section
variable {X : Cx} {pos : Pos}
theorem PG.weak {tg : Expr} {t t' : TG} (h : PG X tg t) (w : ∀ v σ H Q, t' v σ H Q → t v σ H Q) : PG X tg t' := ⟨fun pins s σ H v u Q I r q => h.run pins s σ H v u Q I r (w v σ H Q q)⟩
theorem PGs.weak {tg : List Expr} {t t' : TGs} (h : PGs X tg t) (w : ∀ v σ H Q, t' v σ H Q → t v σ H Q) : PGs X tg t' := ⟨fun pins s σ H v u Q I r q => h.run pins s σ H v u Q I r (w v σ H Q q)⟩
theorem pg_n (i : Nat) {vs : List Nat} {x : Str} (hN : X.N.Nodup) (hi : X.N[i]? = some x := by rfl) (hx : Loc X.env.scope x := by first | exact Or.inl rfl | exact Or.inr rfl) (hv : i ∈ vs := by decide) (hf' : X.fn x = true ∨ X.env.scope.names.lookup x = some .local := by first | exact .inl rfl | exact .inr rfl | assumption) : PG X (.Name x pos) (Tg (gN i) vs) :=
  PG.weak (pg_name hN hi hx hf') fun v σ H Q => by
    rintro ⟨ex, μ, env, d, V, r, env', he, q⟩
    cases he
    exact q _ (V.set i (show EvR _ _ _ (.dat d) from r)) (wipe_set hv)
theorem pgs_0 {vs : List Nat} : PGs X [] (Tgs gs0 vs) := PGs.weak pgs_nil fun ws σ H Q => by
  rintro ⟨ex, μ, env, ds, V, r, env', he, q⟩
  cases ds with
  | nil =>
    cases he
    cases r
    exact ⟨rfl, q σ V rfl⟩
  | cons d t => cases he
theorem pgs_1 {vs : List Nat} {e : Expr} {es : List Expr} {g : DG} {gs : DGs} (h1 : PG X e (Tg g vs)) (h2 : PGs X es (Tgs gs vs)) (hs : (assignEach (e :: es) X.env).map (·.2) = assign e X.env :: (assignEach es X.env).map (·.2) := by rfl) : PGs X (e :: es) (Tgs (gsC g gs) vs) :=
  PGs.weak (pgs_cons h1 h2 hs) fun ws σ H Q => by
    rintro ⟨ex, μ, env, ds, V, r, env', he, q⟩
    cases ds with
    | nil => cases he
    | cons d t =>
      unfold gsC at he
      simp only at he
      split at he
      · rename_i env1 e1
        cases r with
        | cons ra rb => exact ⟨_, _, rfl, ex, μ, env, d, V, ra, env1, e1, fun σ' V' w => ⟨ex, μ, env1, t, V', rb, env', he, fun σ2 V2 w2 => q σ2 V2 (w2.trans w)⟩⟩
      · cases he
theorem pg_t {vs : List Nat} {es : List Expr} {k : Nat} {g : DGs} (hc : X.calm = true) (h : PGs X es (Tgs g vs)) {n : Nat} (hn : (assignEach es X.env).length = n := by rfl) (hst : (assignEach es X.env).findIdx? (·.1) = none := by rfl)
    (hlen : ∀ env ds env', g env ds = some env' → ds.length = n) : PG X (.Tuple es k pos) (Tg (gT g) vs) :=
  PG.weak (pg_tup hc h hn hst) fun v σ H Q => by
    rintro ⟨ex, μ, env, d, V, r, env', he, q⟩
    unfold gT at he
    split at he
    · rename_i ds
      obtain ⟨a, ws, rfl, ha, l, rr⟩ := Rp.tup_inv r
      exact ⟨a, ws, rfl, SqT.of (off_some ha).2, by rw [rr.length]; exact hlen _ _ _ he, ex, μ, env, ds, V, rr, env', he, q⟩
    · cases he
end
theorem gs_len0 : ∀ env ds env', gs0 env ds = some env' → ds.length = 0 := fun env ds env' h => by
  cases ds with
  | nil => rfl
  | cons d t => cases h
theorem gs_lenC {g : DG} {gs : DGs} {n : Nat} (h : ∀ env ds env', gs env ds = some env' → ds.length = n) : ∀ env ds env', gsC g gs env ds = some env' → ds.length = n + 1 := fun env ds env' e => by
  cases ds with
  | nil => cases e
  | cons d t =>
    unfold gsC at e
    simp only at e
    split at e
    · rw [List.length_cons, h _ _ _ e]
    · cases e

/-! ### comprehensions -/
def wipeE (env : Env) : List Nat → Env
  | [] => env
  | v :: vs => (wipeE env vs).set v none
theorem EnvR.unset {Hf : Hp} {μ : Mu} {σ : L2.St} {env : Env} (V : EnvR Hf μ σ env) (i : Nat) : EnvR Hf μ (σ.set i none) (env.set i none) := by
  refine ⟨by rw [List.length_set, List.length_set]; exact V.1, fun j x h => ?_⟩
  by_cases hj : i = j
  · subst hj
    have hl : i < env.length := by
      have := (List.getElem?_eq_some_iff.mp h).1
      simpa using this
    rw [List.getElem?_set_self hl] at h
    cases h
  · rw [List.getElem?_set_ne hj] at h
    obtain ⟨w, a, b⟩ := V.2 j x h
    exact ⟨w, by rw [List.getElem?_set_ne hj]; exact a, b⟩
theorem EnvR.wipe {Hf : Hp} {μ : Mu} {σ : L2.St} {env : Env} (V : EnvR Hf μ σ env) : ∀ vs : List Nat, EnvR Hf μ (L2.wipe σ vs) (wipeE env vs)
  | [] => V
  | v :: vs => (EnvR.wipe V vs).unset v
def tYesD : DT := fun _ s => .ok true s
def lcGo (g : DG) (ifs : DT) (elt : DE) (env : Env) : List Dat → Sto → R (List Dat)
  | [], s => .ok [] s
  | x :: xs, s => match g env x with
    | some env1 => (ifs env1 s).bind fun b s1 => if b = true then (elt env1 s1).bind fun y s2 => match y with
        | .dat d => (lcGo g ifs elt env xs s2).bind fun r s3 => .ok (d :: r) s3
        | .ref _ => .fail
      else lcGo g ifs elt env xs s1
    | none => .fail
def fLc (src : DI) (own : List Nat) (g : DG) (ifs : DT) (elt : DE) : DF := fun env s => (src env s).bind fun items s1 => lcGo g ifs elt (wipeE env own) items s1
/-- a list that others own is written: the cells stand -/
theorem StoR.over {K : PySem.W.Frag} {ex : List Addr} {μ : Mu} {H : Hp} {sto : Sto} (S : StoR K ex μ H sto) {D : Addr} {o : HO} (h : D ∈ ex) : StoR K ex μ (upd H D o) sto ∧ hf ex μ (upd H D o) = hf ex μ H := by
  have e : hf ex μ (upd H D o) = hf ex μ H := by
    funext a
    unfold hf off
    by_cases q : a ∈ ex ++ μ.flatten
    · rw [if_pos q, if_pos q]
    · rw [if_neg q, if_neg q]
      exact upd_ne fun z => q (by rw [z]; exact List.mem_append_left _ h)
  refine ⟨⟨S.nd, S.len, fun i as c h1 h2 => ?_, S.dis, fun a m => ?_⟩, e⟩
  · rw [e]
    refine (S.cells i as c h1 h2).mono (fun a m => ?_) (Sub.refl _)
    exact upd_ne fun z => S.dis D h (by rw [← z]; exact mem_flat h1 m)
  · by_cases z : a = D
    · rw [z, upd_same]
      exact fun q => nomatch q
    · rw [upd_ne z]
      exact S.alive a m
section
variable {X : Cx} {EQ : EK} {σ : L2.St} {H : Hp}
theorem T.seq {m : DE} {σ : L2.St} {H : Hp} {ex : List Addr} {μ : Mu} {env : Env} {sto : Sto} {Q : VK} (S : StoR X.K ex μ H sto) (V : EnvR (hf ex μ H) μ σ env)
    (h : (m env sto).wp (fun d s' => ∀ v μ' H', FwdE μ H μ' H' → StoR X.K ex μ' H' s' → EvR (hf ex μ' H') μ' v d → Q v H') (ePost X.K EQ ex μ H)) : T X.K EQ m σ H Q := ⟨ex, μ, env, sto, S, V, h⟩
theorem pts_0 : PTs X [] (Tt X.K EQ tYesD) := ⟨fun pins s σ H Q I h => pts_nil.run pins s σ H Q I (by
  obtain ⟨ex, μ, env, sto, S, V, h⟩ := h
  exact h μ H (.refl _ _) S)⟩
theorem pts_1 {c : Expr} {t : DT} (h : PT X c (Tt X.K EQ t)) : PTs X [c] (Tt X.K EQ t) := L2.pts_one h
/-- the loop of a comprehension: from the list that has come so far -/
theorem t_lc {src : DI} {own : List Nat} {g : DG} {ifs : DT} {elt : DE} {Q : VK} : Tf X.K EQ (fLc src own g ifs elt) σ H Q → tLc (Ti X.K EQ src) (Tg g own) (Tt X.K EQ ifs) (T X.K EQ elt) own σ H Q := by
  rintro ⟨ex, μ, env, sto, S, V, h⟩
  refine ⟨ex, μ, env, sto, S, V, R.wp_mono (fun items s0 h0 J μ1 H1 F1 S1 sr => ?_) (fun _ _ z => z) _ ((R.wp_bind _).mp h)⟩
  intro D hD
  have hD0 : H D = none := F1.back S1 hD
  have nDex : D ∉ ex := out_ex S hD0
  let post : List Dat → Sto → Prop := fun ds s' => ∀ p vs μ' H', FwdE μ H μ' H' → StoR X.K (p :: ex) μ' H' s' → H p = none → H' p = some (.lst vs) → vs.length ≤ sizeLine → RpL (hf (p :: ex) μ' H') vs ds → Q (.ref p) H'
  let W : Nat → Nat → Hp → Prop := fun i k H' => ∃ μ' s' acc vs, i + k = items.length ∧ FwdE μ H μ' H' ∧ Sub (hf ex μ1 H1) (hf (D :: ex) μ' H') ∧ StoR X.K (D :: ex) μ' H' s' ∧ EnvR (hf (D :: ex) μ' H') μ' (wipe σ own) (wipeE env own) ∧ H' D = some (.lst vs) ∧ RpL (hf (D :: ex) μ' H') vs acc ∧ vs.length ≤ i ∧
    (lcGo g ifs elt (wipeE env own) (items.drop i) s').wp (fun r s => post (acc ++ r) s) (ePost X.K EQ ex μ H)
  refine ⟨W, ⟨items.length, μ1, s0, [], [], by omega, F1.trans (S1.laid hD).2, ?_, S1.laidX hD, (V.fwdX (F1.trans (S1.laid hD).2) hD0).wipe own, upd_same, .nil, Nat.le_refl _, ?_⟩, fun i k H' hW => ?_⟩
  · exact (S1.laid (o := .lst []) hD).2.fwd.subX hD
  · rw [List.drop_zero]
    exact R.wp_mono (fun r s q => by rw [List.nil_append]; exact q) (fun _ _ z => z) _ h0
  · obtain ⟨μ', s', acc, vs, hk, F, sub, S', V', hl, rr, hvl, hw⟩ := hW
    have subH : Sub (hf ex μ1 H1) H' := sub.trans (off_sub _ _)
    by_cases hi : i < items.length
    · refine .inr ⟨sr.goes i H' hi subH, fun H2 => W (i + 1) (k - 1) H2, fun H2 q => ⟨k - 1, by omega, q⟩, fun x H2 hy => ?_⟩
      rw [List.drop_eq_getElem_cons hi] at hw
      unfold lcGo at hw
      split at hw
      · rename_i env1 he1
        -- the item, and the heap behind it
        have item : ∃ (μ2 : Mu), FwdE μ' H' μ2 H2 ∧ StoR X.K (D :: ex) μ2 H2 s' ∧ Rp (hf (D :: ex) μ2 H2) x items[i] ∧ H2 D = some (.lst vs) := by
          rcases sr.yields i H' x H2 _ (List.getElem?_eq_getElem hi) subH hy with ⟨rfl, rx⟩ | ⟨t, ws, ds, rfl, ht, rfl, hd, lw, rw'⟩
          · exact ⟨μ', .refl _ _, S', rx.mono sub, hl⟩
          · have L := S'.laid (o := .tup ws) ht
            refine ⟨μ', L.2, L.1, ?_, by rw [upd_ne (ne_of_none hl ht)]; exact hl⟩
            rw [hd]
            exact .tup (S'.at_new ht) lw ((rw'.mono sub).mono L.2.fwd.sub)
        obtain ⟨μ2, F2, S2, rx, hl2⟩ := item
        have V2 := V'.fwd F2
        refine ⟨D :: ex, μ2, wipeE env own, items[i], V2, rx, env1, he1, fun σ2 V3 hwp => ⟨hwp.trans (wipe_wipe _ _), ?_⟩⟩
        refine ⟨D :: ex, μ2, env1, s', S2, V3, R.wp_mono (fun b s3 q μ3 H3 F3 S3 => ?_) (fun e s q μ3 H3 F3 S3 => q μ3 H3 ((F.trans F2).fwd.trans F3) S3.less) _ ((R.wp_bind _).mp hw)⟩
        have hl3 : H3 D = some (.lst vs) := F3.keep D _ (S2.dis D List.mem_cons_self) hl2
        have rr3 := (rr.mono F2.fwd.sub).mono F3.fwd.sub
        have F03 : FwdE μ H μ3 H3 := (F.trans F2).trans F3
        have sub3 : Sub (hf ex μ1 H1) (hf (D :: ex) μ3 H3) := (sub.trans F2.fwd.sub).trans F3.fwd.sub
        cases b with
        | false => exact iteF ⟨μ3, s3, acc, vs, by omega, F03, sub3, S3, V2.fwd F3, hl3, rr3, by omega, q⟩
        | true =>
          rw [if_pos rfl] at q
          refine iteT ⟨D :: ex, μ3, env1, s3, S3, V3.fwd F3, R.wp_mono (fun y s4 q v μ4 H4 F4 S4 r4 => ?_) (fun e s q μ4 H4 F4 S4 => q μ4 H4 (F03.fwd.trans F4) S4.less) _ ((R.wp_bind _).mp q)⟩
          have hl4 : H4 D = some (.lst vs) := F4.keep D _ (S3.dis D List.mem_cons_self) hl3
          cases y with
          | ref j => exact q.elim
          | dat d =>
            have O := S4.over (o := .lst (vs ++ [v])) (D := D) List.mem_cons_self
            have F04 : FwdE μ H μ4 H4 := F03.trans F4
            refine ⟨vs, hl4, ?_, μ4, s4, acc ++ [d], vs ++ [v], by omega, ?_, ?_, O.1, ?_, upd_same, ?_, by simp; omega, ?_⟩
            · have := sr.len
              omega
            · refine ⟨fun a o n e => ?_, F04.fresh, F04.ext⟩
              rw [upd_ne (ne_of_none e hD0)]
              exact F04.keep a o n e
            · rw [O.2]
              exact sub3.trans F4.fwd.sub
            · rw [O.2]
              exact (V2.fwd F3).fwd F4
            · rw [O.2]
              exact (rr3.mono F4.fwd.sub).snoc r4
            · refine R.wp_mono (fun r s z => ?_) (fun _ _ z => z) _ ((R.wp_bind _).mp q)
              rw [List.append_assoc]
              exact z
      · exact hw.elim
    · have hi' : i = items.length := by omega
      subst hi'
      refine .inl ⟨sr.stops H' subH, ?_⟩
      rw [List.drop_length] at hw
      have hp : post (acc ++ []) s' := hw
      rw [List.append_nil] at hp
      exact hp D vs μ' H' F S' hD0 hl (Nat.le_trans hvl sr.len) rr
end
end Mx

set_option maxHeartbeats 4000000
namespace Mx
open PySem PySem.Spec PyProof.Rows L2

section
variable {X : Cx} {EQ : EK} {σ : L2.St} {H : Hp} {Q : VK}
theorem t_frz {m : DF} : T X.K EQ (eFrz m) σ H Q → Tf X.K EQ m σ H Q := by
  rintro ⟨ex, μ, env, sto, S, V, h⟩
  refine Tf.then S V h fun ds s1 p vs μ1 H1 F1 S1 V1 hp hp1 l r h1 => ?_
  refine h1 _ μ1 H1 F1 S1.less (Rp.lst (off_of hp1 ?_) l (r.mono fun a o q => ?_))
  · rw [List.mem_append, not_or]
    exact ⟨out_ex S hp, S1.dis p List.mem_cons_self⟩
  · obtain ⟨n, q'⟩ := off_some q
    rw [List.cons_append, List.mem_cons, not_or] at n
    exact off_of q' n.2
theorem t_new {m : DF} : T X.K EQ (eNew m) σ H Q → Tf X.K EQ m σ H Q := by
  rintro ⟨ex, μ, env, sto, S, V, h⟩
  refine Tf.then S V h fun ds s1 p vs μ1 H1 F1 S1 V1 hp hp1 l r h1 => ?_
  refine h1 _ (μ1 ++ [[p]]) H1 (F1.add hp) (S1.add (out_ex S hp) ⟨p, vs, rfl, hp1, l, r⟩) ⟨p, [], ?_, rfl⟩
  rw [← S1.len, List.getElem?_append_right (Nat.le_refl _)]
  simp
theorem pf_lc {elt tg iter : Expr} {ifs : List Expr} {scope : Scope} {own : List (Str × Nat)} {pos : Pos} {src : DI} {g : DG} {tt : DT} {m : DE} (hc : X.calm = true) (hN : X.N.Nodup) (hi : PI X tg iter (Ti X.K EQ src)) (ok : BlkOk X.N X.env.scope scope own)
    (hg : ∀ (s : Shared) (H : Hp) (C : Addr) (cl : List (Str × Addr)) (fp : List Addr), PG (X.blk s H scope (compEnvC scope cl C X.env) fp) tg (Tg g (own.map (·.2)))) (ht : ∀ (s : Shared) (H : Hp) (C : Addr) (cl : List (Str × Addr)) (fp : List Addr), PTs (X.blk s H scope (compEnvC scope cl C X.env) fp) ifs (Tt X.K EQ tt))
    (he : ∀ (s : Shared) (H : Hp) (C : Addr) (cl : List (Str × Addr)) (fp : List Addr), PE (X.blk s H scope (compEnvC scope cl C X.env) fp) elt (T X.K EQ m)) (hs : ∀ x, foldedSetIterable iter X.env x = pure x := by intro _; rfl) :
    PE X (.ListComp elt [⟨tg, iter, ifs, 0⟩] scope pos) (Tf X.K EQ (fLc src (own.map (·.2)) g tt m)) := (pe_lc hc hN hi ok hg ht he hs).weak fun _ _ _ => t_lc
end

/-! ### statements -/
inductive Out
  | nx (env : Env)
  | brk (env : Env)
  | cnt (env : Env)
  | ret (v : EV)
abbrev DS := Env → Sto → R Out
def SPost (K : PySem.W.Frag) (ex : List Addr) (μ : Mu) (H : Hp) (D : Ends) (o : Out) (s' : Sto) : Prop := match o with
  | .nx env' => ∀ μ' σ' H', Fwd μ H μ' H' → StoR K ex μ' H' s' → EnvR (hf ex μ' H') μ' σ' env' → D.nx σ' H'
  | .brk env' => ∀ μ' σ' H', Fwd μ H μ' H' → StoR K ex μ' H' s' → EnvR (hf ex μ' H') μ' σ' env' → D.bk σ' H'
  | .cnt env' => ∀ μ' σ' H', Fwd μ H μ' H' → StoR K ex μ' H' s' → EnvR (hf ex μ' H') μ' σ' env' → D.ct σ' H'
  | .ret v => ∀ μ' w H', Fwd μ H μ' H' → StoR K ex μ' H' s' → EvR (hf ex μ' H') μ' w v → D.rt w H'
theorem SPost.fwd {K : PySem.W.Frag} {ex : List Addr} {μ μ1 : Mu} {H H1 : Hp} {D : Ends} {o : Out} {s : Sto} (f : Fwd μ H μ1 H1) (h : SPost K ex μ H D o s) : SPost K ex μ1 H1 D o s := by
  cases o with
  | nx env' => exact fun μ' σ' H' g => h μ' σ' H' (f.trans g)
  | brk env' => exact fun μ' σ' H' g => h μ' σ' H' (f.trans g)
  | cnt env' => exact fun μ' σ' H' g => h μ' σ' H' (f.trans g)
  | ret v => exact fun μ' σ' H' g => h μ' σ' H' (f.trans g)
def Ts (K : PySem.W.Frag) (EQ : EK) (m : DS) : TS := fun D σ H => ∃ ex μ env sto, StoR K ex μ H sto ∧ EnvR (hf ex μ H) μ σ env ∧ (m env sto).wp (SPost K ex μ H D) (ePost K EQ ex μ H)

def sNil : DS := fun env s => .ok (.nx env) s
def sSeq (a b : DS) : DS := fun env s => (a env s).bind fun o s1 => match o with
  | .nx env1 => b env1 s1
  | o => .ok o s1
def sSet (i : Nat) (m : DE) : DS := fun env s => (m env s).bind fun v s1 => .ok (.nx (env.set i (some v))) s1
def sPar (i j : Nat) (m : DA) : DS := fun env s => (m env s).bind fun vs s1 => match vs with
  | [v, w] => .ok (.nx ((env.set i (some v)).set j (some w))) s1
  | _ => .fail
def sTg (g : DG) (m : DE) : DS := fun env s => (m env s).bind fun v s1 => match v with
  | .dat d => match g env d with
    | some env' => .ok (.nx env') s1
    | none => .fail
  | .ref _ => .fail
def sEx (m : DE) : DS := fun env s => (m env s).bind fun _ s1 => .ok (.nx env) s1
def sAug (i : Nat) (f : Sto → EV → EV → Option Dat) (m : DE) : DS := fun env s => match env[i]? with
  | some (some x) => (m env s).bind fun y s1 => match f s1 x y with
    | some d => .ok (.nx (env.set i (some (.dat d)))) s1
    | none => .fail
  | _ => .fail
def sIf (c : DT) (a b : DS) : DS := fun env s => (c env s).bind fun k s1 => if k = true then a env s1 else b env s1
def sRet (m : DE) : DS := fun env s => (m env s).bind fun v s1 => .ok (.ret v) s1
def sRetN : DS := fun _ s => .ok (.ret (.dat .none)) s
def sPass : DS := fun env s => .ok (.nx env) s
def sBrk : DS := fun env s => .ok (.brk env) s
def sCnt : DS := fun env s => .ok (.cnt env) s
def sNever : DS := fun _ _ => .fail
def sWhile : Nat → DT → DS → DS
  | 0, _, _ => fun _ _ => .fail
  | n + 1, c, b => fun env s => (c env s).bind fun k s1 => if k = true then (b env s1).bind fun o s2 => match o with
      | .nx env' => sWhile n c b env' s2
      | .cnt env' => sWhile n c b env' s2
      | .brk env' => .ok (.nx env') s2
      | .ret v => .ok (.ret v) s2
    else .ok (.nx env) s1
def forGo (g : DG) (b : DS) : List Dat → DS
  | [], env, s => .ok (.nx env) s
  | x :: xs, env, s => match g env x with
    | some env1 => (b env1 s).bind fun o s2 => match o with
      | .nx env' => forGo g b xs env' s2
      | .cnt env' => forGo g b xs env' s2
      | .brk env' => .ok (.nx env') s2
      | .ret v => .ok (.ret v) s2
    | none => .fail
def sFor (src : DI) (g : DG) (b : DS) : DS := fun env s => (src env s).bind fun items s1 => forGo g b items env s1

section
variable {X : Cx} {EQ : EK} {st : Stmt} {rest : List Stmt} {pos : Pos} {e : Expr} {m : DE} {a b : DS}
theorem st_nil : PSs X [] (Ts X.K EQ sNil) := pss_nil.weak fun D σ H => by
  rintro ⟨ex, μ, env, sto, S, V, h⟩
  exact h μ σ H (.refl _ _) S V
theorem ts_seq {D : Ends} {σ : L2.St} {H : Hp} : Ts X.K EQ (sSeq a b) D σ H → tSeq (Ts X.K EQ a) (Ts X.K EQ b) D σ H := by
  rintro ⟨ex, μ, env, sto, S, V, h⟩
  refine ⟨ex, μ, env, sto, S, V, R.wp_mono (fun o s1 q => ?_) (fun _ _ z => z) _ ((R.wp_bind _).mp h)⟩
  cases o with
  | nx env1 => exact fun μ1 σ1 H1 F1 S1 V1 => ⟨ex, μ1, env1, s1, S1, V1, R.wp_mono (fun _ _ z => z.fwd F1) (fun _ _ z => z.fwd F1) _ q⟩
  | brk env1 => exact q
  | cnt env1 => exact q
  | ret v => exact q
theorem st_cons (h1 : PS X st (Ts X.K EQ a)) (h2 : PSs X rest (Ts X.K EQ b)) : PSs X (st :: rest) (Ts X.K EQ (sSeq a b)) := (pss_cons h1 h2).weak fun _ _ _ => ts_seq
theorem st_one (h1 : PS X st (Ts X.K EQ a)) : PSs X [st] (Ts X.K EQ a) := pss_one h1
theorem ts_set {i : Nat} {D : Ends} {σ : L2.St} {H : Hp} : Ts X.K EQ (sSet i m) D σ H → tAsg (T X.K EQ m) (gName i) D σ H := by
  rintro ⟨ex, μ, env, sto, S, V, h⟩
  refine T.then S V h fun x s1 v μ1 H1 F1 S1 V1 r h1 => ?_
  exact h1 μ1 _ H1 F1.fwd S1 (V1.set i r)
theorem st_set (i : Nat) {x : Str} {pos' : Pos} (hN : X.N.Nodup) (he : PE X e (T X.K EQ m)) (hi : X.N[i]? = some x := by rfl) (hx : Loc X.env.scope x := by first | exact Or.inl rfl | exact Or.inr rfl) (hs : swapsWith e (some (.Name x pos')) pos.line X.env = pure false := by rfl) (hf' : X.fn x = true ∨ X.env.scope.names.lookup x = some .local := by first | exact .inl rfl | exact .inr rfl | assumption) :
    PS X (.Assign [.Name x pos'] e pos) (Ts X.K EQ (sSet i m)) := (ps_set hN hi hx he hs hf').weak fun _ _ _ => ts_set
/-- name = [..], by the comprehension's own store -/
theorem st_setLc (i : Nat) {y : Str} {py : Pos} {elt tg iter : Expr} {ifs : List Expr} {scope : Scope} {own : List (Str × Nat)} {pos spos : Pos} {src : DI} {g : DG} {tt : DT} {m : DE} (hc : X.calm = true) (hN : X.N.Nodup) (hi : PI X tg iter (Ti X.K EQ src)) (ok : BlkOk X.N X.env.scope scope own)
    (hg : ∀ (s : Shared) (H : Hp) (C : Addr) (cl : List (Str × Addr)) (fp : List Addr), PG (X.blk s H scope (compEnvC scope cl C X.env) fp) tg (Tg g (own.map (·.2)))) (ht : ∀ (s : Shared) (H : Hp) (C : Addr) (cl : List (Str × Addr)) (fp : List Addr), PTs (X.blk s H scope (compEnvC scope cl C X.env) fp) ifs (Tt X.K EQ tt))
    (he : ∀ (s : Shared) (H : Hp) (C : Addr) (cl : List (Str × Addr)) (fp : List Addr), PE (X.blk s H scope (compEnvC scope cl C X.env) fp) elt (T X.K EQ m))
    (hy : X.N[i]? = some y := by rfl) (hyl : X.env.scope.names.lookup y = some .local := by rfl) (hsw : swapsWith (.ListComp elt [⟨tg, iter, ifs, 0⟩] scope pos) (some (.Name y py)) spos.line X.env = pure true := by exact sw_true rfl rfl rfl (by decide +kernel)) (hs : ∀ x, foldedSetIterable iter X.env x = pure x := by intro _; rfl) :
    PS X (.Assign [.Name y py] (.ListComp elt [⟨tg, iter, ifs, 0⟩] scope pos) spos) (Ts X.K EQ (sSet i (eFrz (fLc src (own.map (·.2)) g tt m)))) :=
  (ps_setLc hc hN hy hyl hsw hi ok hg ht he hs).weak fun D σ H h => t_lc (t_frz (ts_set h))
theorem st_setLcN (i : Nat) {y : Str} {py : Pos} {elt tg iter : Expr} {ifs : List Expr} {scope : Scope} {own : List (Str × Nat)} {pos spos : Pos} {src : DI} {g : DG} {tt : DT} {m : DE} (hc : X.calm = true) (hN : X.N.Nodup) (hi : PI X tg iter (Ti X.K EQ src)) (ok : BlkOk X.N X.env.scope scope own)
    (hg : ∀ (s : Shared) (H : Hp) (C : Addr) (cl : List (Str × Addr)) (fp : List Addr), PG (X.blk s H scope (compEnvC scope cl C X.env) fp) tg (Tg g (own.map (·.2)))) (ht : ∀ (s : Shared) (H : Hp) (C : Addr) (cl : List (Str × Addr)) (fp : List Addr), PTs (X.blk s H scope (compEnvC scope cl C X.env) fp) ifs (Tt X.K EQ tt))
    (he : ∀ (s : Shared) (H : Hp) (C : Addr) (cl : List (Str × Addr)) (fp : List Addr), PE (X.blk s H scope (compEnvC scope cl C X.env) fp) elt (T X.K EQ m))
    (hy : X.N[i]? = some y := by rfl) (hyl : X.env.scope.names.lookup y = some .local := by rfl) (hsw : swapsWith (.ListComp elt [⟨tg, iter, ifs, 0⟩] scope pos) (some (.Name y py)) spos.line X.env = pure true := by exact sw_true rfl rfl rfl (by decide +kernel)) (hs : ∀ x, foldedSetIterable iter X.env x = pure x := by intro _; rfl) :
    PS X (.Assign [.Name y py] (.ListComp elt [⟨tg, iter, ifs, 0⟩] scope pos) spos) (Ts X.K EQ (sSet i (eNew (fLc src (own.map (·.2)) g tt m)))) :=
  (ps_setLc hc hN hy hyl hsw hi ok hg ht he hs).weak fun D σ H h => t_lc (t_new (ts_set h))
theorem st_par (i j : Nat) {x y : Str} {e1 e2 : Expr} {m : DA} {px py pt : Pos} {kt k2 pt2} (hc : X.calm = true) (hN : X.N.Nodup) (ha : PA X [e1, e2] (Ta X.K EQ m)) (hi : X.N[i]? = some x := by rfl) (hj : X.N[j]? = some y := by rfl) (hij : i ≠ j := by decide)
    (hx : X.env.scope.names.lookup x = some .local := by rfl) (hy : X.env.scope.names.lookup y = some .local := by rfl) 
    (hw : swappedStores [.Tuple [.Name x px, .Name y py] kt pt] (.Tuple [e1, e2] k2 pt2) X.env = pure (some [x, y]) := by rfl)
    (hs : swapsWithSole [.Tuple [.Name x px, .Name y py] kt pt] (.Tuple [e1, e2] k2 pt2) pos.line X.env = pure false := by rfl) : PS X (.Assign [.Tuple [.Name x px, .Name y py] kt pt] (.Tuple [e1, e2] k2 pt2) pos) (Ts X.K EQ (sPar i j m)) :=
  (ps_par hc hN hi hj hij hx hy ha hw hs).weak fun D σ H => by
    rintro ⟨ex, μ, env, sto, S, V, h⟩
    refine Ta.then S V h fun xs s1 vs μ1 H1 F1 S1 V1 r h1 => ?_
    split at h1
    · obtain ⟨v, w, rfl, rv, rw'⟩ := two_of r
      exact ⟨v, w, rfl, h1 μ1 _ H1 F1.fwd S1 ((V1.set i rv).set j rw')⟩
    · exact h1.elim
theorem st_tg {tg : Expr} {g : DG} {vs : List Nat} (he : PE X e (T X.K EQ m)) (hg : PG X tg (Tg g vs)) (hs : swapsWithSole [tg] e pos.line X.env = pure false := by rfl) (hw : swappedStores [tg] e X.env = pure none := by rfl)
    (h1 : (assignEach [tg] X.env).map (·.2) = [assign tg X.env] := by rfl) : PS X (.Assign [tg] e pos) (Ts X.K EQ (sTg g m)) :=
  (ps_asg he hg hs hw h1).weak fun D σ H => by
    rintro ⟨ex, μ, env, sto, S, V, h⟩
    refine T.then S V h fun x s1 v μ1 H1 F1 S1 V1 r h1 => ?_
    split at h1
    · rename_i d
      split at h1
      · rename_i env' he
        exact ⟨ex, μ1, env, d, V1, r, env', he, fun σ' V' _ => h1 μ1 σ' H1 F1.fwd S1 V'⟩
      · exact h1.elim
    · exact h1.elim
theorem st_ex (he : PE X e (T X.K EQ m)) (hs : swapsWith e none pos.line X.env = pure false := by rfl) : PS X (.Expr e pos) (Ts X.K EQ (sEx m)) := (ps_expr he hs).weak fun D σ H => by
  rintro ⟨ex, μ, env, sto, S, V, h⟩
  refine T.then S V h fun x s1 v μ1 H1 F1 S1 V1 r h1 => ?_
  exact h1 μ1 σ H1 F1.fwd S1 V1
theorem st_doc {x j pos pos'} : PS X (.Expr (.Constant (.str x) j pos) pos') (Ts X.K EQ sPass) := ps_doc.weak fun D σ H => by
  rintro ⟨ex, μ, env, sto, S, V, h⟩
  exact h μ σ H (.refl _ _) S V
def IpD (K : PySem.W.Frag) (r : TIp) (f : Sto → EV → EV → Option Dat) : Prop := OpD K r f
theorem st_aug (i : Nat) {x : Str} {op : Operator} {ti : TIp} {f : Sto → EV → EV → Option Dat} {pos' : Pos} (hN : X.N.Nodup) (ho : PIp X op ti) (hd : OpD X.K ti f) (he : PE X e (T X.K EQ m)) (hi : X.N[i]? = some x := by rfl) (hx : Loc X.env.scope x := by first | exact Or.inl rfl | exact Or.inr rfl) (hf' : X.fn x = true ∨ X.env.scope.names.lookup x = some .local := by first | exact .inl rfl | exact .inr rfl | assumption) :
    PS X (.AugAssign (.Name x pos') op e pos) (Ts X.K EQ (sAug i f m)) := (ps_aug hN hi hx he ho hf').weak fun D σ H => by
  rintro ⟨ex, μ, env, sto, S, V, h⟩
  unfold sAug at h
  split at h
  · rename_i x hx
    obtain ⟨v, hv, rv⟩ := V.2 i x hx
    refine ⟨v, hv, ?_⟩
    refine T.then S V h fun y s1 w μ1 H1 F1 S1 V1 r h1 => ?_
    split at h1
    · rename_i d hd'
      refine hd ex μ1 H1 s1 x y v w d _ S1 (rv.fwd F1) r hd' fun v' μ' H' F' S' r' => ?_
      exact h1 μ' _ H' (F1.trans F').fwd S' ((V1.fwd F').set i r')
    · exact h1.elim
  · exact h.elim
theorem ip_addA : PIp X .Add (ipI fun i j => i + j) := ip_add
theorem od_ipadd {K : PySem.W.Frag} : OpD K (ipI fun i j => i + j) (iOp fun i j => .int (i + j)) := by
  intro ex μ H sto x y v w d Q S rx ry h q
  unfold iOp at h
  split at h
  · cases h
    cases rx
    cases ry
    exact ⟨_, _, rfl, rfl, q _ μ H (.refl _ _) S (.int _)⟩
  · cases h
theorem od_ipsub {K : PySem.W.Frag} : OpD K (ipI fun i j => i - j) (iOp fun i j => .int (i - j)) := by
  intro ex μ H sto x y v w d Q S rx ry h q
  unfold iOp at h
  split at h
  · cases h
    cases rx
    cases ry
    exact ⟨_, _, rfl, rfl, q _ μ H (.refl _ _) S (.int _)⟩
  · cases h
theorem st_if {c : Expr} {ta tb : List Stmt} {tc : DT} (hc : PT X c (Tt X.K EQ tc)) (ha : PSs X ta (Ts X.K EQ a)) (hb : PSs X tb (Ts X.K EQ b)) : PS X (.If c ta tb pos) (Ts X.K EQ (sIf tc a b)) := (ps_if hc ha hb).weak fun D σ H => by
  rintro ⟨ex, μ, env, sto, S, V, h⟩
  refine Tt.then (G := SPost X.K ex μ H D) S V h fun k s1 μ1 H1 F1 S1 V1 h1 => ?_
  cases k with
  | true => exact iteT ⟨ex, μ1, env, s1, S1, V1, R.wp_mono (fun _ _ z => z.fwd F1.fwd) (fun _ _ z => z) _ h1⟩
  | false => exact iteF ⟨ex, μ1, env, s1, S1, V1, R.wp_mono (fun _ _ z => z.fwd F1.fwd) (fun _ _ z => z) _ h1⟩
theorem st_ret (he : PE X e (T X.K EQ m)) : PS X (.Return (some e) pos) (Ts X.K EQ (sRet m)) := (ps_ret he).weak fun D σ H => by
  rintro ⟨ex, μ, env, sto, S, V, h⟩
  refine T.then S V h fun x s1 v μ1 H1 F1 S1 V1 r h1 => ?_
  exact h1 μ1 v H1 F1.fwd S1 r
theorem st_retN : PS X (.Return none pos) (Ts X.K EQ sRetN) := ps_retN.weak fun D σ H => by
  rintro ⟨ex, μ, env, sto, S, V, h⟩
  exact h μ .non H (.refl _ _) S (.non)
theorem st_pass : PS X (.Pass pos) (Ts X.K EQ sPass) := ps_pass.weak fun D σ H => by
  rintro ⟨ex, μ, env, sto, S, V, h⟩
  exact h μ σ H (.refl _ _) S V
theorem st_brk : PS X (.Break pos) (Ts X.K EQ sBrk) := ps_break.weak fun D σ H => by
  rintro ⟨ex, μ, env, sto, S, V, h⟩
  exact h μ σ H (.refl _ _) S V
theorem st_cnt : PS X (.Continue pos) (Ts X.K EQ sCnt) := ps_continue.weak fun D σ H => by
  rintro ⟨ex, μ, env, sto, S, V, h⟩
  exact h μ σ H (.refl _ _) S V
theorem st_never : PS X st (Ts X.K EQ sNever) := ps_never.weak fun D σ H => by
  rintro ⟨ex, μ, env, sto, S, V, h⟩
  exact h.elim
theorem st_while (n : Nat) {c : Expr} {body : List Stmt} {tc : DT} (hp : PassesOwn (model X.prog X.w) X.A X.env X.xe) (hc : PT X c (Tt X.K EQ tc)) (hb : PSs X body (Ts X.K EQ b)) : PS X (.While c body [] pos) (Ts X.K EQ (sWhile n tc b)) := (ps_while hp hc hb).weak fun D σ H => by
  rintro ⟨ex, μ, env, sto, S, V, h⟩
  refine ⟨fun k σ' H' => ∃ μ' env' s', StoR X.K ex μ' H' s' ∧ EnvR (hf ex μ' H') μ' σ' env' ∧ (sWhile k tc b env' s').wp (SPost X.K ex μ' H' D) (ePost X.K EQ ex μ' H'), ⟨n, μ, env, sto, S, V, h⟩, fun k σ' H' hW => ?_⟩
  obtain ⟨μ', env', s', S', V', h'⟩ := hW
  cases k with
  | zero => exact h'.elim
  | succ k =>
    unfold sWhile at h'
    refine Tt.then (G := SPost X.K ex μ' H' D) S' V' h' fun c s1 μ1 H1 F1 S1 V1 h1 => ?_
    cases c with
    | false => exact iteF (h1 μ1 σ' H1 F1.fwd S1 V1)
    | true =>
      rw [if_pos rfl] at h1
      refine iteT ⟨fun σ2 H2 => ∃ μ2 env2 s2, StoR X.K ex μ2 H2 s2 ∧ EnvR (hf ex μ2 H2) μ2 σ2 env2 ∧ (sWhile k tc b env2 s2).wp (SPost X.K ex μ2 H2 D) (ePost X.K EQ ex μ2 H2), fun σ2 H2 q => ⟨k, Nat.lt_succ_self k, q⟩, ?_⟩
      refine ⟨ex, μ1, env', s1, S1, V1, R.wp_mono (fun o s2 q => ?_) (fun _ _ z => z) _ ((R.wp_bind _).mp h1)⟩
      cases o with
      | nx env2 => exact fun μ2 σ2 H2 F2 S2 V2 => ⟨μ2, env2, s2, S2, V2, R.wp_mono (fun _ _ z => z.fwd (F1.fwd.trans F2)) (fun _ _ z => z.fwd F2) _ q⟩
      | cnt env2 => exact fun μ2 σ2 H2 F2 S2 V2 => ⟨μ2, env2, s2, S2, V2, R.wp_mono (fun _ _ z => z.fwd (F1.fwd.trans F2)) (fun _ _ z => z.fwd F2) _ q⟩
      | brk env2 => exact fun μ2 σ2 H2 F2 S2 V2 => q μ2 σ2 H2 (F1.fwd.trans F2) S2 V2
      | ret v => exact fun μ2 w H2 F2 S2 r => q μ2 w H2 (F1.fwd.trans F2) S2 r
theorem st_for {tg iter : Expr} {body : List Stmt} {src : DI} {g : DG} {vs : List Nat} (hp : PassesOwn (model X.prog X.w) X.A X.env X.xe) (hc : X.calm = true) (hi : PI X tg iter (Ti X.K EQ src)) (hg : PG X tg (Tg g vs)) (hb : PSs X body (Ts X.K EQ b)) (hs : ∀ x, foldedSetIterable iter X.env x = pure x := by intro _; rfl) :
    PS X (.For tg iter body [] pos) (Ts X.K EQ (sFor src g b)) := (ps_for hp hc hi hg hb hs).weak fun D σ H => by
  rintro ⟨ex, μ, env, sto, S, V, h⟩
  refine ⟨ex, μ, env, sto, S, V, R.wp_mono (fun items s0 h0 J μ1 H1 F1 S1 sr => ?_) (fun _ _ z => z) _ ((R.wp_bind _).mp h)⟩
  refine ⟨fun i k σ' H' => ∃ μ' env' s', i + k = items.length ∧ Sub (hf ex μ1 H1) (hf ex μ' H') ∧ StoR X.K ex μ' H' s' ∧ EnvR (hf ex μ' H') μ' σ' env' ∧ (forGo g b (items.drop i) env' s').wp (SPost X.K ex μ' H' D) (ePost X.K EQ ex μ' H'),
    ⟨items.length, μ1, env, s0, by omega, Sub.refl _, S1, V.fwd F1, ?_⟩, fun i k σ' H' hW => ?_⟩
  · rw [List.drop_zero]
    exact R.wp_mono (fun _ _ z => z.fwd F1.fwd) (fun _ _ z => z.fwd F1.fwd) _ h0
  · obtain ⟨μ', env', s', hk, sub, S', V', hw⟩ := hW
    have subH : Sub (hf ex μ1 H1) H' := sub.trans (off_sub _ _)
    by_cases hi : i < items.length
    · refine .inr ⟨sr.goes i H' hi subH, fun σ2 H2 => ∃ μ2 env2 s2, Sub (hf ex μ1 H1) (hf ex μ2 H2) ∧ StoR X.K ex μ2 H2 s2 ∧ EnvR (hf ex μ2 H2) μ2 σ2 env2 ∧ (forGo g b (items.drop (i + 1)) env2 s2).wp (SPost X.K ex μ2 H2 D) (ePost X.K EQ ex μ2 H2), fun σ2 H2 ⟨μ2, env2, s2, q1, q2, q3, q4⟩ => ⟨k - 1, by omega, μ2, env2, s2, by omega, q1, q2, q3, q4⟩, fun x H2 hy => ?_⟩
      rw [List.drop_eq_getElem_cons hi] at hw
      unfold forGo at hw
      split at hw
      · rename_i env1 he1
        have item : ∃ (μ2 : Mu), FwdE μ' H' μ2 H2 ∧ StoR X.K ex μ2 H2 s' ∧ Rp (hf ex μ2 H2) x items[i] := by
          rcases sr.yields i H' x H2 _ (List.getElem?_eq_getElem hi) subH hy with ⟨rfl, rx⟩ | ⟨t, ws, ds, rfl, ht, rfl, hd, lw, rw'⟩
          · exact ⟨μ', .refl _ _, S', rx.mono sub⟩
          · have L := S'.laid (o := .tup ws) ht
            refine ⟨μ', L.2, L.1, ?_⟩
            rw [hd]
            exact .tup (S'.at_new ht) lw ((rw'.mono sub).mono L.2.fwd.sub)
        obtain ⟨μ2, F2, S2, rx⟩ := item
        refine ⟨ex, μ2, env', items[i], V'.fwd F2, rx, env1, he1, fun σ2 V3 _ => ?_⟩
        refine ⟨ex, μ2, env1, s', S2, V3, R.wp_mono (fun o s3 q => ?_) (fun _ _ z => z.fwd F2.fwd) _ ((R.wp_bind _).mp hw)⟩
        cases o with
        | nx env3 => exact fun μ3 σ3 H3 F3 S3 V3 => ⟨μ3, env3, s3, (sub.trans F2.fwd.sub).trans F3.sub, S3, V3, R.wp_mono (fun _ _ z => z.fwd (F2.fwd.trans F3)) (fun _ _ z => z.fwd (F2.fwd.trans F3)) _ q⟩
        | cnt env3 => exact fun μ3 σ3 H3 F3 S3 V3 => ⟨μ3, env3, s3, (sub.trans F2.fwd.sub).trans F3.sub, S3, V3, R.wp_mono (fun _ _ z => z.fwd (F2.fwd.trans F3)) (fun _ _ z => z.fwd (F2.fwd.trans F3)) _ q⟩
        | brk env3 => exact fun μ3 σ3 H3 F3 S3 V3 => q μ3 σ3 H3 (F2.fwd.trans F3) S3 V3
        | ret v => exact fun μ3 w H3 F3 S3 r => q μ3 w H3 (F2.fwd.trans F3) S3 r
      · exact hw.elim
    · have hi' : i = items.length := by omega
      subst hi'
      refine .inl ⟨sr.stops H' subH, ?_⟩
      rw [List.drop_length] at hw
      exact hw μ' σ' H' (.refl _ _) S' V'
end
end Mx

set_option maxHeartbeats 4000000
namespace Mx
open PySem PySem.Spec PyProof.Rows L2

/-! ### a cell is written -/
theorem flat_apart : ∀ {μ : Mu} {i j : Nat} {as bs : List Addr} {a : Addr}, μ.flatten.Nodup → μ[i]? = some as → μ[j]? = some bs → a ∈ as → a ∈ bs → i = j := by
  intro μ i j as bs a nd hi hj ha hb
  have nd' : μ.flatten.Pairwise (· ≠ ·) := nd
  have h := (List.pairwise_flatten.mp nd').2
  rw [List.pairwise_iff_getElem] at h
  obtain ⟨li, ei⟩ := List.getElem?_eq_some_iff.mp hi
  obtain ⟨lj, ej⟩ := List.getElem?_eq_some_iff.mp hj
  rcases Nat.lt_trichotomy i j with q | q | q
  · exact absurd rfl (h i j li lj q a (by rw [ei]; exact ha) a (by rw [ej]; exact hb))
  · exact q
  · exact absurd rfl (h j i lj li q a (by rw [ej]; exact hb) a (by rw [ei]; exact ha))
theorem hf_in {ex : List Addr} {μ : Mu} {H : Hp} {a : Addr} {o : HO} (h : a ∈ μ.flatten) : hf ex μ (upd H a o) = hf ex μ H := by
  funext b
  unfold hf off
  by_cases q : b ∈ ex ++ μ.flatten
  · rw [if_pos q, if_pos q]
  · rw [if_neg q, if_neg q]
    exact upd_ne fun z => q (by rw [z]; exact List.mem_append_right _ h)
theorem StoR.put {K : PySem.W.Frag} {ex : List Addr} {μ : Mu} {H : Hp} {sto : Sto} (S : StoR K ex μ H sto) {c : Nat} {as : List Addr} {a : Addr} {o : HO} {cell : Cell} (hμ : μ[c]? = some as) (ha : a ∈ as) (new : CellR K (upd H a o) (hf ex μ H) as cell) :
    StoR K ex μ (upd H a o) (sto.set c cell) ∧ FwdE μ H μ (upd H a o) := by
  have hm : a ∈ μ.flatten := mem_flat hμ ha
  refine ⟨⟨S.nd, by rw [List.length_set]; exact S.len, fun i bs d h1 h2 => ?_, S.dis, fun b m => ?_⟩, ⟨fun b u n e => ?_, fun b m => .inl m, ⟨[], by simp⟩⟩⟩
  · rw [hf_in hm]
    by_cases q : c = i
    · subst q
      rw [hμ] at h1
      cases h1
      have hl : c < sto.length := by rw [← S.len]; exact (List.getElem?_eq_some_iff.mp hμ).1
      rw [List.getElem?_set_self hl] at h2
      cases h2
      exact new
    · rw [List.getElem?_set_ne q] at h2
      refine (S.cells i bs d h1 h2).mono (fun b hb => ?_) (Sub.refl _)
      refine upd_ne fun z => ?_
      subst z
      exact q (flat_apart S.nd hμ h1 ha hb)
  · rw [upd_ne (fun z => S.dis b m (by rw [z]; exact hm))]
    exact S.alive b m
  · rw [upd_ne (fun z => n (by rw [z]; exact hm))]
    exact e
/-! ### methods of lists -/
def isL (s : Sto) : EV → Bool
  | .ref c => match s[c]? with
    | some (.lst _) => true
    | _ => false
  | .dat (.list _) => true
  | _ => false
def MtD (K : PySem.W.Frag) (r : L2.V → List L2.V → Hp → VK → Prop) (f : Sto → EV → List EV → Option (Dat × Sto)) : Prop := ∀ ex μ H sto x v xs ws d sto' (Q : VK), StoR K ex μ H sto → EvR (hf ex μ H) μ v x → Paired (EvR (hf ex μ H) μ) ws xs → f sto x xs = some (d, sto') →
  (∀ v' μ' H', FwdE μ H μ' H' → StoR K ex μ' H' sto' → Rp (hf ex μ' H') v' d → Q v' H') → r v ws H Q
def eMt (f : Sto → EV → List EV → Option (Dat × Sto)) (o : DE) (m : DA) : DE := fun env s => (o env s).bind fun x s1 => if isL s1 x = true then (m env s1).bind fun xs s2 => match f s2 x xs with
    | some (d, s3) => .ok (.dat d) s3
    | none => .fail
  else .fail
theorem isL_ty {K : PySem.W.Frag} {ex : List Addr} {μ : Mu} {H : Hp} {sto : Sto} {x : EV} {v : L2.V} (S : StoR K ex μ H sto) (r : EvR (hf ex μ H) μ v x) (h : isL sto x = true) : tyV K "list" v H := by
  unfold isL at h
  split at h
  · split at h
    · rename_i hs
      obtain ⟨a, as, hμ, rfl⟩ := r
      obtain ⟨b, vs, e, hb, _⟩ := S.cells _ _ _ hμ hs
      cases e
      exact .inl ⟨rfl, vs, SqL.of hb⟩
    · cases h
  · obtain ⟨a, vs, rfl, ha, _⟩ := Rp.list_inv r
    exact .inl ⟨rfl, vs, SqL.of (off_some ha).2⟩
  · cases h
section
variable {X : Cx} {EQ : EK} {σ : L2.St} {H : Hp} {Q : VK} {o e : Expr} {es : List Expr} {mo : DE} {m : DA} {name : Str} {apos cpos : Pos} {id : String} {r : L2.V → List L2.V → Hp → VK → Prop} {f : Sto → EV → List EV → Option (Dat × Sto)}
theorem pe_mt (hm : MtR X id r) (hd : MtD X.K r f) (slot : Slot "list" name id) (hty : typeOf (.builtin id) = pure (.type "method_descriptor")) (ho : PE X o (T X.K EQ mo)) (ha : PA X (e :: es) (Ta X.K EQ m)) (hbase : attributeBase o name X.env (eval o X.env) = eval o X.env := by rfl)
    (hfew : ((backTo cpos (starEach (e :: es) X.env)).all (fun x => !x.1) && (backToKw cpos (keywordEach [] X.env)).all (fun x => x.1.isSome) && decide ((e :: es).length + ([] : List Keyword).length + (if ([] : List Keyword).isEmpty then 0 else 1) < 30)) = true := by rfl)
    (hline : (apos.endLine == cpos.line) = true := by rfl) (hn : starEach (e :: es) X.env = (false, eval e X.env) :: starEach es X.env := by rfl) (hpl : (backTo cpos (starEach es X.env)).any (·.1) = false := by rfl) : PE X (.Call (.Attribute o name apos) (e :: es) [] cpos) (T X.K EQ (eMt f mo m)) := by
  refine PE.weak (pe_bm PySem.F.plainAttrs_list slot hty hm ho ha hbase hfew hline hn hpl) fun σ H Q => ?_
  rintro ⟨ex, μ, env, sto, S, V, h⟩
  refine T.then S V h fun x s1 v μ1 H1 F1 S1 V1 r1 h1 => ?_
  split at h1
  · rename_i hl
    refine ⟨isL_ty S1 r1 hl, ?_⟩
    refine Ta.then S1 V1 h1 fun xs s2 vs μ2 H2 F2 S2 V2 r2 h2 => ?_
    split at h2
    · rename_i d s3 ef
      exact hd ex μ2 H2 s2 x v xs vs d s3 Q S2 (r1.fwd F2) r2 ef fun v' μ' H' F' S' r' => h2 v' μ' H' ((F1.trans F2).trans F') S' r'
    · exact h2.elim
  · exact h1.elim
theorem pe_mt0 (hm : MtR X id r) (hd : MtD X.K r f) (slot : Slot "list" name id) (hty : typeOf (.builtin id) = pure (.type "method_descriptor")) (ho : PE X o (T X.K EQ mo)) (hbase : attributeBase o name X.env (eval o X.env) = eval o X.env := by rfl) (hline : (apos.endLine == cpos.line) = true := by rfl) :
    PE X (.Call (.Attribute o name apos) [] [] cpos) (T X.K EQ (eMt f mo aNil)) := by
  refine PE.weak (pe_bm0 PySem.F.plainAttrs_list slot hty hm ho hbase hline) fun σ H Q => ?_
  rintro ⟨ex, μ, env, sto, S, V, h⟩
  refine T.then S V h fun x s1 v μ1 H1 F1 S1 V1 r1 h1 => ?_
  split at h1
  · rename_i hl
    refine ⟨isL_ty S1 r1 hl, ?_⟩
    have h2 : ((match f s1 x [] with
      | some (d, s3) => R.ok (EV.dat d) s3
      | none => R.fail) : R EV).wp (fun d s' => ∀ (v : L2.V) (μ' : Mu) (H' : Hp), FwdE μ H μ' H' → StoR X.K ex μ' H' s' → EvR (hf ex μ' H') μ' v d → Q v H') (ePost X.K EQ ex μ1 H1) := h1
    split at h2
    · rename_i d s3 ef
      exact hd ex μ1 H1 s1 x v [] [] d s3 Q S1 r1 .nil ef fun v' μ' H' F' S' r' => h2 v' μ' H' (F1.trans F') S' r'
    · exact h2.elim
  · exact h1.elim
end
def appF : Sto → EV → List EV → Option (Dat × Sto) := fun sto x xs => match x, xs with
  | .ref c, [.dat d] => match sto[c]? with
    | some (.lst ys) => if ys.length < sizeLine then some (.none, sto.set c (.lst (ys ++ [d]))) else none
    | _ => none
  | _, _ => none
def extF : Sto → EV → List EV → Option (Dat × Sto) := fun sto x xs => match x, xs with
  | .ref c, [.dat (.list zs)] => match sto[c]? with
    | some (.lst ys) => if ys.length + zs.length ≤ sizeLine then some (.none, sto.set c (.lst (ys ++ zs))) else none
    | _ => none
  | _, _ => none
def popF : Sto → EV → List EV → Option (Dat × Sto) := fun sto x xs => match x, xs with
  | .ref c, [] => match sto[c]? with
    | some (.lst ys) => match ys[ys.length - 1]? with
      | some d => some (d, sto.set c (.lst ys.dropLast))
      | none => none
    | _ => none
  | _, _ => none
def popAtF : Sto → EV → List EV → Option (Dat × Sto) := fun sto x xs => match x, xs with
  | .ref c, [.dat (.int i)] => match sto[c]? with
    | some (.lst ys) => if wIn 9223372036854775808 i = true then match seqIndex? i ys.length with
      | some k => match ys[k]? with
        | some d => some (d, sto.set c (.lst (ys.eraseIdx k)))
        | none => none
      | none => none else none
    | _ => none
  | _, _ => none
def findD (d : Dat) : Nat → List Dat → Option Nat
  | _, [] => none
  | i, z :: r => if PyData.eqv z d = true then some i else findD d (i + 1) r
def indexF : Sto → EV → List EV → Option (Dat × Sto) := fun sto x xs => match xs with
  | [.dat d] => match view sto x with
    | some (.list ds) => if shp 60 (.list ds) && shp 60 d then (findD d 0 ds).map fun j => (.int (j : Nat), sto) else none
    | _ => none
  | _ => none
section
variable {K : PySem.W.Frag}
theorem RpL.dropLast {H : Hp} : ∀ {vs : List L2.V} {ds : List Dat}, RpL H vs ds → RpL H vs.dropLast ds.dropLast := by
  intro vs ds h
  rw [List.dropLast_eq_take, List.dropLast_eq_take, h.length]
  exact h.take _
theorem md_app : MtD K rAppend appF := by
  intro ex μ H sto x v xs ws d sto' Q S rx rxs h q
  unfold appF at h
  split at h
  · split at h
    · rename_i ys hs
      split at h
      · rename_i hl
        cases h
        obtain ⟨a, as, hμ, rfl⟩ := rx
        obtain ⟨b, vs, e, hb, l, rr⟩ := S.cells _ _ _ hμ hs
        cases e
        obtain ⟨w, rfl, rw'⟩ := one_of rxs
        have P := S.put (o := .lst (vs ++ [w])) (cell := .lst (ys ++ [_])) hμ List.mem_cons_self ⟨a, vs ++ [w], rfl, upd_same, by rw [List.length_append, rr.length]; exact hl, rr.snoc rw'⟩
        exact ⟨a, vs, w, rfl, rfl, hb, by rw [rr.length]; exact hl, q _ μ _ P.2 P.1 .non⟩
      · cases h
    · cases h
  · cases h
theorem md_ext : MtD K rExtend extF := by
  intro ex μ H sto x v xs ws d sto' Q S rx rxs h q
  unfold extF at h
  split at h
  · split at h
    · rename_i ys hs
      split at h
      · rename_i hl
        cases h
        obtain ⟨a, as, hμ, rfl⟩ := rx
        obtain ⟨b, vs, e, hb, l, rr⟩ := S.cells _ _ _ hμ hs
        cases e
        obtain ⟨w, rfl, rw'⟩ := one_of rxs
        obtain ⟨p, us, rfl, hp, lu, ru⟩ := Rp.list_inv rw'
        have hl' : vs.length + us.length ≤ sizeLine := by rw [rr.length, ru.length]; exact hl
        have P := S.put (o := .lst (vs ++ us)) (cell := .lst (ys ++ _)) hμ List.mem_cons_self ⟨a, vs ++ us, rfl, upd_same, by rw [List.length_append]; exact hl', rr.append ru⟩
        exact ⟨a, p, vs, us, rfl, rfl, hb, (off_some hp).2, hl', q _ μ _ P.2 P.1 .non⟩
      · cases h
    · cases h
  · cases h
theorem md_pop : MtD K rPop popF := by
  intro ex μ H sto x v xs ws d sto' Q S rx rxs h q
  unfold popF at h
  split at h
  · split at h
    · rename_i ys hs
      split at h
      · rename_i e hd
        cases h
        obtain ⟨a, as, hμ, rfl⟩ := rx
        obtain ⟨b, vs, e, hb, l, rr⟩ := S.cells _ _ _ hμ hs
        cases e
        cases rxs
        obtain ⟨w, hw, rw'⟩ := rr.get hd
        have P := S.put (o := .lst vs.dropLast) (cell := .lst ys.dropLast) hμ List.mem_cons_self ⟨a, vs.dropLast, rfl, upd_same, by rw [List.length_dropLast]; omega, rr.dropLast⟩
        refine ⟨a, vs, w, rfl, rfl, hb, by rw [rr.length]; exact hw, q _ μ _ P.2 P.1 ?_⟩
        exact rw'.mono P.2.fwd.sub
      · cases h
    · cases h
  · cases h
theorem md_popAt : MtD K rPopAt popAtF := by
  intro ex μ H sto x v xs ws d sto' Q S rx rxs h q
  unfold popAtF at h
  split at h
  · split at h
    · rename_i ys hs
      split at h
      · rename_i hi
        have hi := wIn_iff.mp hi
        split at h
        · rename_i k hk
          split at h
          · rename_i e hd
            cases h
            obtain ⟨a, as, hμ, rfl⟩ := rx
            obtain ⟨b, vs, e, hb, l, rr⟩ := S.cells _ _ _ hμ hs
            cases e
            obtain ⟨u, rfl, ru⟩ := one_of rxs
            cases ru
            obtain ⟨w, hw, rw'⟩ := rr.get hd
            have P := S.put (o := .lst (vs.eraseIdx k)) (cell := .lst (ys.eraseIdx k)) hμ List.mem_cons_self ⟨a, vs.eraseIdx k, rfl, upd_same, by have := len_erase vs k; omega, rr.eraseIdx k⟩
            refine ⟨a, vs, _, k, w, rfl, rfl, hb, hi.1, hi.2, by rw [rr.length]; exact hk, hw, q _ μ _ P.2 P.1 ?_⟩
            exact rw'.mono P.2.fwd.sub
          · cases h
        · cases h
      · cases h
    · cases h
  · cases h
theorem findD_spec {d : Dat} : ∀ {ds : List Dat} {i j : Nat}, findD d i ds = some j → i ≤ j ∧ ∃ z, ds[j - i]? = some z ∧ PyData.eqv z d = true ∧ ∀ (m : Nat) (z' : Dat), m < j - i → ds[m]? = some z' → PyData.eqv z' d = false
  | [], _, _, h => by simp [findD] at h
  | z :: r, i, j, h => by
    unfold findD at h
    split at h
    · rename_i hz
      cases h
      exact ⟨Nat.le_refl _, z, by simp, hz, fun m z' hm => by omega⟩
    · rename_i hz
      obtain ⟨h1, y, h2, h3, h4⟩ := findD_spec h
      have e : j - i = (j - (i + 1)) + 1 := by omega
      refine ⟨by omega, y, by rw [e]; simpa using h2, h3, fun m z' hm hz' => ?_⟩
      cases m with
      | zero =>
        simp at hz'
        subst hz'
        cases q : PyData.eqv z d with
        | false => rfl
        | true => exact absurd q hz
      | succ m => exact h4 m z' (by omega) (by simpa using hz')
theorem md_index : MtD K (rIndexD K) indexF := by
  intro ex μ H sto x v xs ws d sto' Q S rx rxs h q
  unfold indexF at h
  split at h
  · rename_i d
    split at h
    · rename_i ds e
      split at h
      · rename_i hs
        rw [Bool.and_eq_true] at hs
        cases hj : findD d 0 ds with
        | none => rw [hj] at h; cases h
        | some j =>
          rw [hj] at h
          cases h
          obtain ⟨_, z, h2, h3, h4⟩ := findD_spec hj
          obtain ⟨w, rfl, rw'⟩ := one_of rxs
          have rv := view_rp S rx e
          obtain ⟨a, vs, rfl, _⟩ := Rp.list_inv rv
          exact ⟨a, w, d, ds, j, z, rfl, rfl, rv.dp (nod_of _ _ hs.1), (Rp.mono (off_sub _ _) rw').dp (nod_of _ _ hs.2), shaped_of hs.1, shaped_of hs.2, h2, h3, h4, q _ μ H (.refl _ _) S (.int _)⟩
      · cases h
    · cases h
  · cases h
end

/-! ### stores: lists, dicts -/
def setLF (sto : Sto) (o i : EV) (v : EV) : Option Sto := match o, i, v with
  | .ref c, .dat (.int k), .dat d => match sto[c]? with
    | some (.lst ys) => match ixN ys.length k with
      | some j => some (sto.set c (.lst (ys.set j d)))
      | none => none
    | _ => none
  | _, _, _ => none
def putDF (sto : Sto) (o i : EV) (v : EV) : Option Sto := match o, i, v with
  | .ref c, .dat k, .dat d => match sto[c]? with
    | some (.dK kvs) => if kvs.length < sizeLine then (keyD k).map fun k => sto.set c (.dK (putD kvs k d)) else none
    | some (.dT kvs) => if kvs.length < sizeLine then match k with
      | .tuple ks => (keysD ks).map fun k => sto.set c (.dT (putD kvs k d))
      | _ => none else none
    | some (.dD kvs) => if kvs.length < sizeLine ∧ tkD k = true then some (sto.set c (.dD (putN kvs k d))) else none
    | _ => none
  | _, _, _ => none
def sSetL (o i e : DE) : DS := fun env s => (e env s).bind fun v s1 => (o env s1).bind fun x s2 => (i env s2).bind fun y s3 => match setLF s3 x y v with
  | some s4 => .ok (.nx env) s4
  | none => .fail
def sPutD (o i e : DE) : DS := fun env s => (e env s).bind fun v s1 => (o env s1).bind fun x s2 => (i env s2).bind fun y s3 => match putDF s3 x y v with
  | some s4 => .ok (.nx env) s4
  | none => .fail
theorem pairedK_len {Hf : Hp} {κ : Type} : ∀ {vs : List (κ × L2.V)} {kvs : List (κ × Dat)}, Paired (kvR Hf) vs kvs → vs.length = kvs.length
  | _, _, .nil => rfl
  | _, _, .cons _ t => by simp [pairedK_len t]
theorem pairedK_any {Hf : Hp} {κ : Type} [DecidableEq κ] {k : κ} : ∀ {vs : List (κ × L2.V)} {kvs : List (κ × Dat)}, Paired (kvR Hf) vs kvs → (vs.any fun kv => decide (kv.1 = k)) = kvs.any fun kv => decide (kv.1 = k)
  | _, _, .nil => rfl
  | _, _, .cons r t => by rw [List.any_cons, List.any_cons, pairedK_any t, r.1]
theorem pairedK_map {Hf : Hp} {κ : Type} [DecidableEq κ] {k : κ} {v : L2.V} {d : Dat} (r : Rp Hf v d) : ∀ {vs : List (κ × L2.V)} {kvs : List (κ × Dat)}, Paired (kvR Hf) vs kvs → Paired (kvR Hf) (vs.map (fun kv => if kv.1 = k then (kv.1, v) else kv)) (kvs.map (fun kv => if kv.1 = k then (kv.1, d) else kv))
  | _, _, .nil => .nil
  | _, _, .cons (a := a) (b := b) p t => by
    refine .cons ?_ (pairedK_map r t)
    show kvR Hf (if a.1 = k then (a.1, v) else a) (if b.1 = k then (b.1, d) else b)
    by_cases e : a.1 = k
    · have e' : b.1 = k := by rw [← p.1]; exact e
      rw [if_pos e, if_pos e']
      exact ⟨p.1, r⟩
    · have e' : ¬ b.1 = k := by rw [← p.1]; exact e
      rw [if_neg e, if_neg e']
      exact p
theorem pairedK_put {Hf : Hp} {κ : Type} [DecidableEq κ] {k : κ} {v : L2.V} {d : Dat} {vs : List (κ × L2.V)} {kvs : List (κ × Dat)} (h : Paired (kvR Hf) vs kvs) (r : Rp Hf v d) : Paired (kvR Hf) (putK vs k v) (putD kvs k d) := by
  unfold putK putD
  rw [pairedK_any h]
  split
  · exact pairedK_map r h
  · exact paired_app h (.cons ⟨rfl, r⟩ .nil)
section
variable {X : Cx} {EQ : EK} {o i e : Expr} {mo mi me : DE} {pos tpos : Pos}
theorem st_setL (ho : PE X o (T X.K EQ mo)) (hi : PE X i (T X.K EQ mi)) (he : PE X e (T X.K EQ me))
    (ha : ∀ v, assign (.Subscript o i tpos) X.env v = (do
      let ov ← holding [v] (eval o X.env)
      let iv ← holding [v, ov] (eval i X.env)
      standAt tpos
      holding [v, ov, iv] (setItem ov iv v)
      release [v, ov, iv] []) := by intro _; rfl)
    (hs : swapsWithSole [.Subscript o i tpos] e pos.line X.env = pure false := by rfl) (hw : swappedStores [.Subscript o i tpos] e X.env = pure none := by rfl) (h1 : (assignEach [.Subscript o i tpos] X.env).map (·.2) = [assign (.Subscript o i tpos) X.env] := by rfl) :
    PS X (.Assign [.Subscript o i tpos] e pos) (Ts X.K EQ (sSetL mo mi me)) := (ps_asg he (pg_sub ho hi set_list ha) hs hw h1).weak fun D σ H => by
  rintro ⟨ex, μ, env, sto, S, V, h⟩
  refine T.then S V h fun v s1 w μ1 H1 F1 S1 V1 r1 h1 => ?_
  refine T.then S1 V1 h1 fun x s2 u μ2 H2 F2 S2 V2 r2 h2 => ?_
  refine T.then S2 V2 h2 fun y s3 t μ3 H3 F3 S3 V3 r3 h3 => ?_
  split at h3
  · rename_i s4 ef
    unfold setLF at ef
    split at ef
    · split at ef
      · rename_i ys hs
        split at ef
        · rename_i j hj
          cases ef
          cases r3
          obtain ⟨a, as, hμ, rfl⟩ := r2.fwd F3
          obtain ⟨b, vs, e, hb, l, rr⟩ := S3.cells _ _ _ hμ hs
          cases e
          have P := S3.put (o := .lst (vs.set j w)) (cell := .lst (ys.set j _)) hμ List.mem_cons_self ⟨a, vs.set j w, rfl, upd_same, by rw [List.length_set]; exact l, RpL.set ((r1.fwd F2).fwd F3) j rr⟩
          exact ⟨a, vs, _, j, rfl, rfl, hb, by rw [rr.length]; exact hj, h3 μ3 σ _ (((F1.trans F2).trans F3).trans P.2).fwd P.1 (V3.fwd P.2)⟩
        · cases ef
      · cases ef
    · cases ef
  · exact h3.elim
def sDPutA (td ty tv : TE) : TS := fun D σ H => tv σ H fun v H1 => td σ H1 fun x H2 => ty σ H2 fun y H3 => ∃ a, x = .ref a ∧ ((∃ H4, DPut H3 a y v H4 ∧ D.nx σ H4) ∨
  ∃ Hf es ep kvs k d, Sub Hf H3 ∧ Hf a = none ∧ H3 a = some (DO a es ep) ∧ DOk kvs ∧ es.length < sizeLine ∧ RpE Hf es kvs ∧ tkD k = true ∧ Rp Hf y k ∧ Rp Hf v d ∧ ∀ es' ep', es'.length ≤ sizeLine → RpE Hf es' (putN kvs k d) → D.nx σ (upd H3 a (DO a es' ep')))
theorem ps_dputA {value : Expr} {td ty tv : TE} {pos' : Pos} (hu : X.A.units + 9 < cLine) (ho : PE X o td) (hi : PE X i ty) (hv : PE X value tv) (hs : swapsWith value (some (.Subscript o i pos')) pos.line X.env = pure false) :
    PS X (.Assign [.Subscript o i pos'] value pos) (sDPutA td ty tv) := by
  refine ⟨fun pins s σ H D I h => ?_⟩
  refine wpAny_Assign_Subscript (thn (hv.run pins s σ H _ I h) fun r s1 ⟨v, H1, I1, rv, q1⟩ => thn (ho.run pins s1 σ H1 _ I1 q1) fun u s2 ⟨x, H2, I2, rx, q2⟩ => thn (hi.run pins s2 σ H2 _ I2 q2) fun iv s3 ⟨y, H3, I3, ry, a, ex, q⟩ => ?_) hs
  subst ex
  obtain rfl : u = Value.ref a := rx
  rcases q with ⟨H4, g, q3⟩ | ⟨Hf, es, ep, kvs, k, d, sb, hn, ha, ko, hl, r, hk, rk, rd, q3⟩
  · exact d_setItem (by omega) I3 g ry rv fun s4 I4 => ⟨σ, H4, I4, q3⟩
  · exact do_set hu I3 sb hn ha ko hl r hk rk ry rv rd fun es' ep' s4 I4 l r' => ⟨σ, _, I4, q3 es' ep' l r'⟩
theorem st_putD (hu : X.A.units + 9 < cLine) (ho : PE X o (T X.K EQ mo)) (hi : PE X i (T X.K EQ mi)) (he : PE X e (T X.K EQ me)) (hs : swapsWith e (some (.Subscript o i tpos)) pos.line X.env = pure false := by rfl) :
    PS X (.Assign [.Subscript o i tpos] e pos) (Ts X.K EQ (sPutD mo mi me)) := (ps_dputA hu ho hi he hs).weak fun D σ H => by
  rintro ⟨ex, μ, env, sto, S, V, h⟩
  refine T.then S V h fun v s1 w μ1 H1 F1 S1 V1 r1 h1 => ?_
  refine T.then S1 V1 h1 fun x s2 u μ2 H2 F2 S2 V2 r2 h2 => ?_
  refine T.then S2 V2 h2 fun y s3 t μ3 H3 F3 S3 V3 r3 h3 => ?_
  split at h3
  · rename_i s4 ef
    unfold putDF at ef
    split at ef
    · split at ef
      · rename_i kvs hs
        split at ef
        · rename_i hl
          cases hk : keyD _ with
          | none => rw [hk] at ef; cases ef
          | some k =>
            rw [hk] at ef
            cases ef
            obtain ⟨a, as, hμ, rfl⟩ := r2.fwd F3
            obtain ⟨b, vs, e, hb, p⟩ := S3.cells _ _ _ hμ hs
            cases e
            have ek := keyD_v r3 hk
            subst ek
            have P := S3.put (o := .dK (putK vs k w)) (cell := .dK (putD kvs k _)) hμ List.mem_cons_self ⟨a, putK vs k w, rfl, upd_same, pairedK_put p ((r1.fwd F2).fwd F3)⟩
            exact ⟨a, rfl, .inl ⟨_, DPut.k hb (by rw [pairedK_len p]; exact hl), h3 μ3 σ _ (((F1.trans F2).trans F3).trans P.2).fwd P.1 (V3.fwd P.2)⟩⟩
        · cases ef
      · rename_i kvs hs
        split at ef
        · rename_i hl
          split at ef
          · rename_i ks
            cases hk : keysD ks with
            | none => rw [hk] at ef; cases ef
            | some k =>
              rw [hk] at ef
              cases ef
              obtain ⟨a, as, hμ, rfl⟩ := r2.fwd F3
              obtain ⟨b, vs, e, hb, p⟩ := S3.cells _ _ _ hμ hs
              cases e
              obtain ⟨q, ws, rfl, hq, _, rq⟩ := Rp.tup_inv r3
              have ek := keysD_v rq hk
              subst ek
              have P := S3.put (o := .dT (putK vs k w)) (cell := .dT (putD kvs k _)) hμ List.mem_cons_self ⟨a, putK vs k w, rfl, upd_same, pairedK_put p ((r1.fwd F2).fwd F3)⟩
              exact ⟨a, rfl, .inl ⟨_, DPut.t hb (off_some hq).2 (by rw [pairedK_len p]; exact hl), h3 μ3 σ _ (((F1.trans F2).trans F3).trans P.2).fwd P.1 (V3.fwd P.2)⟩⟩
          · cases ef
        · cases ef
      · rename_i kvs hs
        split at ef
        · rename_i hl
          cases ef
          obtain ⟨a, as, hμ, rfl⟩ := r2.fwd F3
          obtain ⟨b, es, ep, e, hb, z, ko, p⟩ := S3.cells _ _ _ hμ hs
          cases e
          refine ⟨a, rfl, .inr ⟨hf ex μ3 H3, es, ep, kvs, _, _, off_sub _ _, ?_, hb, ko, by rw [p.length]; exact hl.1, p, hl.2, r3, (r1.fwd F2).fwd F3, fun es' ep' l r' => ?_⟩⟩
          · unfold hf off
            rw [if_pos (List.mem_append_right _ (mem_flat hμ List.mem_cons_self))]
          · have P := S3.put (o := DO a es' ep') (cell := .dD (putN kvs _ _)) hμ List.mem_cons_self ⟨a, es', ep', rfl, upd_same, l, putN_ok _ ko hl.2, r'⟩
            exact h3 μ3 σ _ (((F1.trans F2).trans F3).trans P.2).fwd P.1 (V3.fwd P.2)
        · cases ef
      · cases ef
    · cases ef
  · exact h3.elim
end

/-! ### calls of the text's own defs -/
abbrev Fn := List EV → Sto → R Dat
def noE : Exc → Sto → Prop := fun _ _ => False
/-- what a def promises by its denotation (none leaves by an exception) -/
def spF (K : PySem.W.Frag) (F : Fn) : Sp := fun vs H Q _ => ∃ ex μ evs sto, StoR K ex μ H sto ∧ Paired (EvR (hf ex μ H) μ) vs evs ∧
  (F evs sto).wp (fun d s' => ∀ v H', (∀ a o, a ∉ μ.flatten → H a = some o → H' a = some o) → StoR K ex μ H' s' → Rp (hf ex μ H') v d → Q v H') noE
def isDead : Cell → Bool
  | .dead => true
  | _ => false
/-- no cell of the caller's was given up -/
def kept : Sto → Sto → Bool
  | [], _ => true
  | c :: r, d :: t => (isDead c || !isDead d) && kept r t
  | _ :: _, [] => false
def finB (sto : Sto) (d : Dat) (s' : Sto) : R Dat := if kept sto s' = true then .ok d (s'.take sto.length) else .fail
/-- a dict of whole numbers as data -/
def dkD : List (Key × Dat) → Option (List (Dat × Dat))
  | [] => some []
  | (.inl i, d) :: r => (dkD r).map ((.int i, d) :: ·)
  | (.inr _, _) :: _ => none
theorem dk_rpk {Hf : Hp} : ∀ {vs : List (Key × L2.V)} {kvs : List (Key × Dat)} {ks : List (Dat × Dat)}, Paired (kvR Hf) vs kvs → dkD kvs = some ks → RpK Hf vs ks
  | _, _, _, .nil, h => by cases h; exact .nil
  | (k, v) :: _, (k', d) :: _, _, .cons r t, h => by
    obtain ⟨r1, r2⟩ := r
    simp only at r1 r2
    subst r1
    cases k with
    | inl i =>
      unfold dkD at h
      obtain ⟨q, e1, e2⟩ := Option.map_eq_some_iff.mp h
      subst e2
      exact .cons r2 (dk_rpk t e1)
    | inr x => cases h
def runB (n np : Nat) (body : DS) : Fn := fun evs sto => if evs.length = np then (body (evs.map some ++ List.replicate (n - np) none) sto).bind fun o s' => match o with
    | .nx _ => finB sto .none s'
    | .ret (.dat d) => finB sto d s'
    | .ret (.ref c) => if c < sto.length then .fail else match s'[c]? with
      | some (.lst xs) => finB sto (.list xs) s'
      | some (.lsl xss) => finB sto (.list (xss.map .list)) s'
      | some (.dD kvs) => finB sto (.dict kvs) s'
      | some (.dK kvs) => match dkD kvs with
        | some ks => finB sto (.dict ks) s'
        | none => .fail
      | _ => .fail
    | _ => .fail
  else .fail
/-- a denotation that a body's keeps -/
def Refn (F G : Fn) : Prop := ∀ evs sto Q, (F evs sto).wp Q noE → (G evs sto).wp Q noE
theorem Refn.refl (F : Fn) : Refn F F := fun _ _ _ h => h
theorem kept_at : ∀ {sto s' : Sto} {i : Nat} {c : Cell}, kept sto s' = true → sto[i]? = some c → ∃ d, s'[i]? = some d ∧ (isDead c = true ∨ isDead d = false)
  | [], _, _, _, _, h => by simp at h
  | c :: r, d :: t, 0, x, hk, h => by
    simp at h
    subst h
    unfold kept at hk
    rw [Bool.and_eq_true, Bool.or_eq_true, Bool.not_eq_true'] at hk
    exact ⟨d, rfl, hk.1⟩
  | c :: r, d :: t, i + 1, x, hk, h => by
    unfold kept at hk
    rw [Bool.and_eq_true] at hk
    obtain ⟨e, h1, h2⟩ := kept_at (i := i) hk.2 (by simpa using h)
    exact ⟨e, by simpa using h1, h2⟩
  | c :: r, [], _, _, hk, _ => by
    unfold kept at hk
    cases hk
theorem StoR.leave {K : PySem.W.Frag} {ex : List Addr} {μ μ' : Mu} {H H' : Hp} {sto s' : Sto} (S : StoR K ex μ H sto) (F : Fwd μ H μ' H') (S' : StoR K ex μ' H' s') (hk : kept sto s' = true) : StoR K ex μ H' (s'.take sto.length) ∧ Sub (hf ex μ' H') (hf ex μ H') ∧ ∀ (i : Nat) as, μ[i]? = some as → μ'[i]? = some as := by
  have hids : ∀ (i : Nat) as, μ[i]? = some as → μ'[i]? = some as := fun i as h => by
    rcases F.ids i as h with q | q
    · exact q
    · have hl : i < sto.length := by rw [← S.len]; exact (List.getElem?_eq_some_iff.mp h).1
      obtain ⟨d, h1, h2⟩ := kept_at hk (List.getElem?_eq_getElem hl)
      have c' := S'.cells i [] d q h1
      have hd : isDead d = true := by
        cases d with
        | dead => rfl
        | lst xs => obtain ⟨a, vs, e, _⟩ := c'; cases e
        | lsl xs => obtain ⟨a, vs, e, _⟩ := c'; cases e
        | dK xs => obtain ⟨a, vs, e, _⟩ := c'; cases e
        | dT xs => obtain ⟨a, vs, e, _⟩ := c'; cases e
        | dD xs => obtain ⟨a, vs, ep, e, _⟩ := c'; cases e
        | row => obtain ⟨a, l, ns, i, x, y, e, _⟩ := c'; cases e
      rcases h2 with z | z
      · have c := S.cells i as _ h (List.getElem?_eq_getElem hl)
        have : as = [] := by
          generalize sto[i] = k at c z
          cases k with
          | dead => exact c
          | lst xs => cases z
          | lsl xs => cases z
          | dK xs => cases z
          | dT xs => cases z
          | dD xs => cases z
          | row => cases z
        rw [this]
        exact q
      · rw [hd] at z
        cases z
  have hflat : ∀ a, a ∈ μ.flatten → a ∈ μ'.flatten := fun a m => by
    obtain ⟨as, m1, m2⟩ := List.mem_flatten.mp m
    obtain ⟨i, hi⟩ := List.mem_iff_getElem?.mp m1
    exact mem_flat (hids i as hi) m2
  have sub : Sub (hf ex μ' H') (hf ex μ H') := fun a o e => by
    obtain ⟨n, e'⟩ := off_some e
    rw [List.mem_append, not_or] at n
    refine off_of e' ?_
    rw [List.mem_append, not_or]
    exact ⟨n.1, fun z => n.2 (hflat a z)⟩
  have hlen : sto.length ≤ s'.length := by
    rcases Nat.lt_or_ge s'.length sto.length with q | q
    · obtain ⟨d, h1, _⟩ := kept_at hk (List.getElem?_eq_getElem q)
      rw [List.getElem?_eq_none (Nat.le_refl _)] at h1
      cases h1
    · exact q
  refine ⟨⟨S.nd, by rw [List.length_take, S.len]; omega, fun i as c h1 h2 => ?_, S.dis, S'.alive⟩, sub, hids⟩
  have hc : s'[i]? = some c := by
    rw [List.getElem?_take] at h2
    split at h2
    · exact h2
    · cases h2
  exact (S'.cells i as c (hids i as h1) hc).mono (fun _ _ => rfl) sub
section
variable {P : Program} {w : World} {K : PySem.W.Frag} {mg : Str → Option Value} {base : Heap}
theorem env_start {Hf : Hp} {μ : Mu} {N : List Str} {vs : List L2.V} {evs : List EV} (h : Paired (EvR Hf μ) vs evs) : EnvR Hf μ (L2.start N vs) (evs.map some ++ List.replicate (N.length - evs.length) none) := by
  have hl : vs.length = evs.length := Paired.length h
  refine ⟨by simp [L2.start, hl], fun i e q => ?_⟩
  by_cases hi : i < evs.length
  · rw [List.getElem?_append_left (by simpa using hi), List.getElem?_map, List.getElem?_eq_getElem hi] at q
    cases q
    have : ∀ {vs : List L2.V} {evs : List EV} {i : Nat} {e : EV}, Paired (EvR Hf μ) vs evs → evs[i]? = some e → ∃ v, vs[i]? = some v ∧ EvR Hf μ v e := by
      intro vs evs i e p
      induction p generalizing i with
      | nil => intro h; simp at h
      | cons r t ih =>
        intro h
        cases i with
        | zero =>
          simp at h
          subst h
          exact ⟨_, rfl, r⟩
        | succ i =>
          obtain ⟨v, a, b⟩ := ih (i := i) (by simpa using h)
          exact ⟨v, by simpa using a, b⟩
    obtain ⟨v, hv, r⟩ := this h (List.getElem?_eq_getElem hi)
    refine ⟨v, ?_, r⟩
    unfold L2.start
    rw [List.getElem?_append_left (by simp [hl]; exact hi), List.getElem?_map, hv]
    rfl
  · rw [List.getElem?_append_right (by simp; omega)] at q
    have := List.mem_of_getElem? q
    have := List.eq_of_mem_replicate this
    cases this
/-- THE RULE for a def: its body's denotation, refined by the one that is promised -/
theorem fn_ok {x qual : Str} {st : Stmt} {f : Addr} {fd : FuncData} {N ps : List Str} {k : Nat} {EQ : EK} {body : DS} {Fd : Fn} (F : Fun K x qual st f fd) (S : FnScope N ps (defScope st)) (hF : Refn Fd (runB N.length ps.length body)) 
    (hb : ∀ (cdv : Value) (A : Around) (outer : List PySem.Env) (s : Shared) (H : Hp) (E : XK), Room k (A.deeper (envOfC qual (defScope st) s.heap.objs.size f cdv)) → PSs (cxOf CX0 P w K mg base N qual (defScope st) f cdv A outer s H E).nox (defBody st) (Ts K EQ body)) : FnOk P w K mg base CX0 (k + 1) f fd ps (spF K Fd) := by
  have len : ∀ vs H Q E, spF K Fd vs H Q E → vs.length = ps.length := fun vs H Q E h => by
    obtain ⟨ex, μ, evs, sto, Sr, p, h⟩ := h
    have h := hF _ _ _ h
    unfold runB at h
    split at h
    · rename_i hl
      rw [Paired.length p]
      exact hl
    · exact h.elim
  refine F.ok S len fun cdv A outer s H vs Q E hr h => ⟨_, hb cdv A outer s H E hr, ?_⟩
  obtain ⟨ex, μ, evs, sto, Sr, p, h⟩ := h
  have h := hF _ _ _ h
  unfold runB at h
  split at h
  · rename_i hl
    have V := env_start (N := N) p
    rw [hl] at V
    have fin : ∀ d (s' : Sto), (finB sto d s').wp (fun d s' => ∀ v H', (∀ a o, a ∉ μ.flatten → H a = some o → H' a = some o) → StoR K ex μ H' s' → Rp (hf ex μ H') v d → Q v H') noE → ∀ μ' H' v, Fwd μ H μ' H' → StoR K ex μ' H' s' → Rp (hf ex μ H') v d → Q v H' := fun d s' q μ' H' v F' S' r => by
      unfold finB at q
      split at q
      · rename_i hk
        have L := Sr.leave F' S' hk
        exact q v H' F'.keep L.1 r
      · exact q.elim
    refine ⟨ex, μ, _, sto, Sr, V, R.wp_mono (fun o s' q => ?_) (fun _ _ z => z.elim) _ ((R.wp_bind _).mp h)⟩
    have subOf : ∀ (d : Dat) {μ' : Mu} {H' : Hp}, Fwd μ H μ' H' → StoR K ex μ' H' s' → (finB sto d s').wp (fun d s' => ∀ v H', (∀ a o, a ∉ μ.flatten → H a = some o → H' a = some o) → StoR K ex μ H' s' → Rp (hf ex μ H') v d → Q v H') noE → Sub (hf ex μ' H') (hf ex μ H') := fun d μ' H' F' S' q => by
      unfold finB at q
      split at q
      · rename_i hk
        exact (Sr.leave F' S' hk).2.1
      · exact q.elim
    cases o with
    | nx env' => exact fun μ' σ' H' F' S' _ => fin _ _ q μ' H' .non F' S' .non
    | brk env' => exact q.elim
    | cnt env' => exact q.elim
    | ret v =>
      cases v with
      | dat d => exact fun μ' u H' F' S' r => fin _ _ q μ' H' u F' S' (Rp.mono (subOf _ F' S' q) r)
      | ref c =>
        intro μ' u H' F' S' r
        obtain ⟨a, as, hμ, rfl⟩ := r
        simp only at q
        split at q
        · exact q.elim
        · rename_i hc
          have key : ∀ (d : Dat), (finB sto d s').wp (fun d s' => ∀ v H', (∀ a o, a ∉ μ.flatten → H a = some o → H' a = some o) → StoR K ex μ H' s' → Rp (hf ex μ H') v d → Q v H') noE → ∀ b ∈ a :: as, b ∉ ex ++ μ.flatten := fun d q b hb z => by
            unfold finB at q
            split at q
            · rename_i hk
              have L := Sr.leave F' S' hk
              rcases List.mem_append.mp z with z | z
              · exact S'.dis b z (mem_flat hμ hb)
              · obtain ⟨bs, m1, m2⟩ := List.mem_flatten.mp z
                obtain ⟨i, hi⟩ := List.mem_iff_getElem?.mp m1
                have hil : i < μ.length := (List.getElem?_eq_some_iff.mp hi).1
                have := flat_apart S'.nd (L.2.2 i bs hi) hμ m2 hb
                have hlen := Sr.len
                omega
            · exact q.elim
          split at q
          · rename_i xs hs
            obtain ⟨b, vs, e, hb, l, rr⟩ := S'.cells _ _ _ hμ hs
            cases e
            exact fin _ _ q μ' H' _ F' S' (.lst (off_of hb (key _ q a List.mem_cons_self)) l (rr.mono (subOf _ F' S' q)))
          · rename_i xss hs
            obtain ⟨b, bs, e, hb, l, pp⟩ := S'.cells _ _ _ hμ hs
            cases e
            have inner : ∀ {l : List Addr} {yss : List (List Dat)}, Paired (fun b xs => ∃ vs, H' b = some (.lst vs) ∧ vs.length ≤ sizeLine ∧ RpL (hf ex μ' H') vs xs) l yss → (∀ b ∈ l, b ∈ a :: as) → RpL (hf ex μ H') (l.map L2.V.ref) (yss.map PyData.list) := by
              intro l yss p
              induction p with
              | nil => intro _; exact .nil
              | cons r t ih =>
                intro hm
                obtain ⟨vs, e1, e2, e3⟩ := r
                exact .cons (.lst (off_of e1 (key _ q _ (hm _ List.mem_cons_self))) e2 (e3.mono (subOf _ F' S' q))) (ih fun b hb => hm b (List.mem_cons_of_mem _ hb))
            exact fin _ _ q μ' H' _ F' S' (.lst (off_of hb (key _ q a List.mem_cons_self)) (by rw [List.length_map]; exact l) (inner pp fun b hb => List.mem_cons_of_mem _ hb))
          · rename_i kvs hs
            obtain ⟨b, es, ep, e, hb, l, ko, rr⟩ := S'.cells _ _ _ hμ hs
            cases e
            exact fin _ _ q μ' H' _ F' S' (.dct (off_of hb (key _ q a List.mem_cons_self)) l ko (rr.mono (subOf _ F' S' q)))
          · rename_i kvs hs
            split at q
            · rename_i ks hk
              obtain ⟨b, vs, e, hb, rr⟩ := S'.cells _ _ _ hμ hs
              cases e
              exact fin _ _ q μ' H' _ F' S' (.dkk (off_of hb (key _ q a List.mem_cons_self)) ((dk_rpk rr hk).mono (subOf _ F' S' q)))
            · exact q.elim
          · exact q.elim
  · exact h.elim
end
end Mx

set_option maxHeartbeats 4000000
namespace Mx
open PySem PySem.Spec PyProof.Rows L2

/-! ### calls -/
def outR (g : Sto → Option Sto) : R Dat → R EV
  | .ok d s => match g s with
    | some s' => .ok (.dat d) s'
    | none => .fail
  | .ex _ _ => .fail
  | .fail => .fail
  | .pick n f => .pick n fun i => outR g (f i)
  | .any p f => .any p fun d => outR g (f d)
theorem wp_outR {g : Sto → Option Sto} {Q : EV → Sto → Prop} {E : Exc → Sto → Prop} : ∀ r : R Dat, (outR g r).wp Q E → r.wp (fun d s => ∃ s', g s = some s' ∧ Q (.dat d) s') noE
  | .ok d s, h => by
    unfold outR at h
    split at h
    · rename_i s' e
      exact ⟨s', e, h⟩
    · exact h.elim
  | .ex _ _, h => h.elim
  | .fail, h => h.elim
  | .pick n f, h => fun i hi => wp_outR (f i) (h i hi)
  | .any p f, h => fun d hd => wp_outR (f d) (h d hd)
def eCall0 (F : Fn) (m : DA) : DE := fun env s => (m env s).bind fun xs s1 => match dats xs with
  | some ds => outR (fun _ => some s1) (F (ds.map .dat) [])
  | none => .fail
def refsOf : List EV → List Nat
  | [] => []
  | .ref c :: r => c :: refsOf r
  | .dat _ :: r => refsOf r
def toZero : EV → EV
  | .ref _ => .ref 0
  | e => e
def eCall1 (F : Fn) (m : DA) : DE := fun env s => (m env s).bind fun xs s1 => match refsOf xs with
  | [c] => match s1[c]? with
    | some cell => outR (fun s' => match s' with
        | [cell'] => some (s1.set c cell')
        | _ => none) (F (xs.map toZero) [cell])
    | none => .fail
  | _ => .fail
theorem StoR.kept {K : PySem.W.Frag} {ex : List Addr} {μ : Mu} {H H' : Hp} {sto : Sto} (S : StoR K ex μ H sto) (k : Sub H H') : StoR K ex μ H' sto ∧ FwdE μ H μ H' := by
  have F : FwdE μ H μ H' := ⟨fun a u _ e => k a u e, fun a q => .inl q, ⟨[], by simp⟩⟩
  refine ⟨⟨S.nd, S.len, fun i as c h1 h2 => (S.cells i as c h1 h2).mono (fun a m => ?_) F.fwd.sub, S.dis, fun a m => ?_⟩, F⟩
  · cases e : H a with
    | none => exact absurd e (S.live (mem_flat h1 m))
    | some u => exact k a u e
  · cases e : H a with
    | none => exact absurd e (S.alive a m)
    | some u => rw [k a u e]; exact fun q => nomatch q
theorem off_ext {l m : List Addr} {H : Hp} (h : ∀ a, a ∈ l ↔ a ∈ m) : off l H = off m H := by
  funext a
  unfold off
  by_cases q : a ∈ l
  · rw [if_pos q, if_pos ((h a).mp q)]
  · rw [if_neg q, if_neg fun z => q ((h a).mpr z)]
theorem paired_dats {Hf : Hp} {μ : Mu} (μ' : Mu) : ∀ {vs : List L2.V} {es : List EV} {ds : List Dat}, Paired (EvR Hf μ) vs es → dats es = some ds → Paired (EvR Hf μ') vs (ds.map .dat) := fun h e => rpl_paired (dats_rpl h e)
section
variable {X : Cx} {EQ : EK} {k : Nat} {f : Addr} {fd : FuncData} {ps : List Str} {F : Fn} {x : Str} {p pos : Pos} {e : Expr} {es : List Expr} {m : DA}
theorem pe_c0 (G : FnOk X.prog X.w X.K X.mg X.base CX0 k f fd ps (spF X.K F)) (hr : Room k X.A) (hg : Gl X x) (hm : X.mg x = some (.ref f)) (hk : PySem.W.keepIn X.K (.ref f) = true) (hb : Binds X.K fd ps []) (ha : PA X (e :: es) (Ta X.K EQ m)) (hdb : (x == ("__debug__" : Str)) = false := by decide)
    (he : starEach (e :: es) X.env = (false, eval e X.env) :: starEach es X.env := by rfl) (hpl : (backTo pos (starEach es X.env)).any (·.1) = false := by rfl) : PE X (.Call (.Name x p) (e :: es) [] pos) (T X.K EQ (eCall0 F m)) := by
  refine PE.weak (pe_call G hr hg hm hk hb .nil pass0 ha hdb he hpl) fun σ H Q => ?_
  rintro ⟨ex, μ, env, sto, S, V, h⟩
  refine Ta.then S V h fun xs s1 vs μ1 H1 F1 S1 V1 r h1 => ?_
  split at h1
  · rename_i ds ed
    have e0 : ∀ H', hf (ex ++ μ1.flatten) [] H' = hf ex μ1 H' := fun H' => off_ext fun a => by simp
    refine ⟨ex ++ μ1.flatten, [], ds.map .dat, [], ⟨by simp, rfl, fun i as c h1 _ => by simp at h1, fun a _ => by simp, fun a m => ?_⟩, ?_, R.wp_mono (fun d s' q v H' k' _ r' => ?_) (fun _ _ z => z) _ (wp_outR _ h1)⟩
    · rcases List.mem_append.mp m with z | z
      · exact S1.alive a z
      · exact S1.live z
    · rw [e0, List.append_nil]
      exact paired_dats _ r ed
    · obtain ⟨s2, e2, q⟩ := q
      cases e2
      have kk : Sub H1 H' := fun a o e => k' a o (by simp) e
      have L := S1.kept kk
      rw [e0] at r'
      exact q v μ1 H' (F1.trans L.2) L.1 r'
  · exact h1.elim
theorem flat_set {μ : Mu} {c : Nat} {as : List Addr} (nd : μ.flatten.Nodup) (h : μ[c]? = some as) (a : Addr) : a ∈ (μ.set c []).flatten ↔ a ∈ μ.flatten ∧ a ∉ as := by
  constructor
  · intro m
    obtain ⟨bs, m1, m2⟩ := List.mem_flatten.mp m
    obtain ⟨i, hi⟩ := List.mem_iff_getElem?.mp m1
    by_cases q : c = i
    · subst q
      have hl : c < μ.length := (List.getElem?_eq_some_iff.mp h).1
      rw [List.getElem?_set_self hl] at hi
      cases hi
      cases m2
    · rw [List.getElem?_set_ne q] at hi
      exact ⟨mem_flat hi m2, fun z => q (flat_apart nd h hi z m2)⟩
  · rintro ⟨m, n⟩
    obtain ⟨bs, m1, m2⟩ := List.mem_flatten.mp m
    obtain ⟨i, hi⟩ := List.mem_iff_getElem?.mp m1
    have q : c ≠ i := fun z => by
      subst z
      rw [h] at hi
      cases hi
      exact n m2
    exact mem_flat (i := i) (by rw [List.getElem?_set_ne q]; exact hi) m2
theorem refs_paired {Hf : Hp} {μ : Mu} {as : List Addr} {c : Nat} (h : μ[c]? = some as) : ∀ {vs : List L2.V} {es : List EV}, Paired (EvR Hf μ) vs es → (∀ i ∈ refsOf es, i = c) → Paired (EvR Hf [as]) vs (es.map toZero)
  | _, _, .nil, _ => .nil
  | _, _, .cons (b := .dat d) r t, hc => .cons r (refs_paired h t hc)
  | _, _, .cons (b := .ref i) r t, hc => by
    have hi : i = c := hc i List.mem_cons_self
    subst hi
    obtain ⟨a, r', e, z⟩ := r
    rw [h] at e
    cases e
    exact .cons ⟨a, r', rfl, z⟩ (refs_paired h t fun j m => hc j (List.mem_cons_of_mem _ m))
theorem refs_live {Hf : Hp} {μ : Mu} : ∀ {vs : List L2.V} {es : List EV} {i : Nat}, Paired (EvR Hf μ) vs es → i ∈ refsOf es → ∃ as, μ[i]? = some as
  | _, _, _, .nil, h => nomatch h
  | _, _, i, .cons (b := .dat d) r t, h => refs_live t h
  | _, _, i, .cons (b := .ref j) r t, h => by
    rcases List.mem_cons.mp h with z | z
    · subst z
      obtain ⟨a, r', e, _⟩ := r
      exact ⟨_, e⟩
    · exact refs_live t z
theorem pe_c1 (G : FnOk X.prog X.w X.K X.mg X.base CX0 k f fd ps (spF X.K F)) (hr : Room k X.A) (hg : Gl X x) (hm : X.mg x = some (.ref f)) (hk : PySem.W.keepIn X.K (.ref f) = true) (hb : Binds X.K fd ps []) (ha : PA X (e :: es) (Ta X.K EQ m)) (hdb : (x == ("__debug__" : Str)) = false := by decide)
    (he : starEach (e :: es) X.env = (false, eval e X.env) :: starEach es X.env := by rfl) (hpl : (backTo pos (starEach es X.env)).any (·.1) = false := by rfl) : PE X (.Call (.Name x p) (e :: es) [] pos) (T X.K EQ (eCall1 F m)) := by
  refine PE.weak (pe_call G hr hg hm hk hb .nil pass0 ha hdb he hpl) fun σ H Q => ?_
  rintro ⟨ex, μ, env, sto, S, V, h⟩
  refine Ta.then S V h fun xs s1 vs μ1 H1 F1 S1 V1 r h1 => ?_
  split at h1
  · rename_i c hc
    split at h1
    · rename_i cell hcell
      obtain ⟨as, hμ⟩ := refs_live (i := c) r (by rw [hc]; exact List.mem_cons_self)
      have e0 : ∀ H', hf (ex ++ (μ1.set c []).flatten) [as] H' = hf ex μ1 H' := fun H' => off_ext fun a => by
        rw [List.mem_append, List.mem_append, List.mem_append, flat_set S1.nd hμ]
        simp only [List.flatten_cons, List.flatten_nil, List.append_nil]
        constructor
        · rintro ((z | z) | z)
          · exact .inl z
          · exact .inr z.1
          · exact .inr (mem_flat hμ z)
        · rintro (z | z)
          · exact .inl (.inl z)
          · by_cases q : a ∈ as
            · exact .inr q
            · exact .inl (.inr ⟨z, q⟩)
      have nd1 : as.Nodup := by
        have nd' : μ1.flatten.Pairwise (· ≠ ·) := S1.nd
        exact (List.pairwise_flatten.mp nd').1 as (List.mem_of_getElem? hμ)
      refine ⟨ex ++ (μ1.set c []).flatten, [as], xs.map toZero, [cell], ⟨by simpa using nd1, rfl, fun i bs d h1 h2 => ?_, fun a m => ?_, fun a m => ?_⟩, ?_, R.wp_mono (fun d s' q v H' k' S' r' => ?_) (fun _ _ z => z) _ (wp_outR _ h1)⟩
      · cases i with
        | zero =>
          simp at h1 h2
          subst h1
          subst h2
          rw [e0]
          exact S1.cells c as cell hμ hcell
        | succ i => simp at h1
      · simp
        rcases List.mem_append.mp m with z | z
        · exact fun y => S1.dis a z (mem_flat hμ y)
        · exact ((flat_set S1.nd hμ a).mp z).2
      · rcases List.mem_append.mp m with z | z
        · exact S1.alive a z
        · exact S1.live ((flat_set S1.nd hμ a).mp z).1
      · rw [e0, List.append_nil]
        exact refs_paired hμ r fun i hi => by
          rw [hc] at hi
          simpa using hi
      · obtain ⟨s2, e2, q⟩ := q
        split at e2
        · rename_i cell'
          cases e2
          rw [e0] at r'
          have F2 : FwdE μ1 H1 μ1 H' := ⟨fun a o n e => k' a o (by simp; exact fun z => n (mem_flat hμ z)) e, fun a z => .inl z, ⟨[], by simp⟩⟩
          refine q v μ1 H' (F1.trans F2) ⟨S1.nd, by rw [List.length_set]; exact S1.len, fun i bs d h1 h2 => ?_, S1.dis, fun a m => ?_⟩ r'
          · by_cases z : c = i
            · subst z
              rw [hμ] at h1
              cases h1
              have hl : c < s1.length := (List.getElem?_eq_some_iff.mp hcell).1
              rw [List.getElem?_set_self hl] at h2
              cases h2
              have := S'.cells 0 as cell' rfl rfl
              rw [e0] at this
              exact this
            · rw [List.getElem?_set_ne z] at h2
              refine (S1.cells i bs d h1 h2).mono (fun b hb => ?_) F2.fwd.sub
              cases eb : H1 b with
              | none => exact absurd eb (S1.live (mem_flat h1 hb))
              | some u => exact k' b u (by simp; exact fun y => z (flat_apart S1.nd hμ h1 y hb)) eb
          · cases ea : H1 a with
            | none => exact absurd ea (S1.alive a m)
            | some u =>
              rw [F2.keep a u (S1.dis a m) ea]
              exact fun q => nomatch q
        · cases e2
    · exact h1.elim
  · exact h1.elim
end

/-! ### a cell given up -/
def dropRef (c : Nat) : Option EV → Option EV
  | some (.ref i) => if i = c then none else some (.ref i)
  | x => x
def sFrz (i : Nat) : DS := fun env s => match env[i]? with
  | some (some (.ref c)) => match s[c]? with
    | some (.lst xs) => .ok (.nx ((env.map (dropRef c)).set i (some (.dat (.list xs))))) (s.set c .dead)
    | some (.lsl xss) => .ok (.nx ((env.map (dropRef c)).set i (some (.dat (.list (xss.map .list)))))) (s.set c .dead)
    | some (.dD kvs) => .ok (.nx ((env.map (dropRef c)).set i (some (.dat (.dict kvs))))) (s.set c .dead)
    | some (.dK kvs) => match dkD kvs with
      | some ks => .ok (.nx ((env.map (dropRef c)).set i (some (.dat (.dict ks))))) (s.set c .dead)
      | none => .fail
    | _ => .fail
  | _ => .fail
theorem StoR.kill {K : PySem.W.Frag} {ex : List Addr} {μ : Mu} {H : Hp} {sto : Sto} (S : StoR K ex μ H sto) {c : Nat} {as : List Addr} (hμ : μ[c]? = some as) : StoR K ex (μ.set c []) H (sto.set c .dead) ∧ Fwd μ H (μ.set c []) H := by
  have hl : c < μ.length := (List.getElem?_eq_some_iff.mp hμ).1
  have sub : ∀ a, a ∈ (μ.set c []).flatten → a ∈ μ.flatten := fun a m => ((flat_set S.nd hμ a).mp m).1
  have F : Fwd μ H (μ.set c []) H := ⟨fun _ _ _ h => h, fun a m => .inl (sub a m), fun i bs h => by
    by_cases q : c = i
    · subst q
      exact .inr (List.getElem?_set_self hl)
    · exact .inl (by rw [List.getElem?_set_ne q]; exact h)⟩
  refine ⟨⟨?_, by rw [List.length_set, List.length_set]; exact S.len, fun i bs d h1 h2 => ?_, fun a m z => S.dis a m (sub a z), S.alive⟩, F⟩
  · have nd' : μ.flatten.Pairwise (· ≠ ·) := S.nd
    rw [List.pairwise_flatten] at nd'
    show (μ.set c []).flatten.Pairwise (· ≠ ·)
    rw [List.pairwise_flatten]
    refine ⟨fun l hl' => ?_, ?_⟩
    · obtain ⟨i, hi⟩ := List.mem_iff_getElem?.mp hl'
      by_cases q : c = i
      · subst q
        rw [List.getElem?_set_self hl] at hi
        cases hi
        exact List.Pairwise.nil
      · rw [List.getElem?_set_ne q] at hi
        exact nd'.1 l (List.mem_of_getElem? hi)
    · rw [List.pairwise_iff_getElem]
      intro i j hi hj hij x hx y hy e
      have gi : (μ.set c [])[i]? = some (μ.set c [])[i] := List.getElem?_eq_getElem hi
      have gj : (μ.set c [])[j]? = some (μ.set c [])[j] := List.getElem?_eq_getElem hj
      generalize (μ.set c [])[i] = l1 at gi hx
      generalize (μ.set c [])[j] = l2 at gj hy
      subst e
      by_cases q : c = i
      · subst q
        rw [List.getElem?_set_self hl] at gi
        cases gi
        cases hx
      · by_cases q2 : c = j
        · subst q2
          rw [List.getElem?_set_self hl] at gj
          cases gj
          cases hy
        · rw [List.getElem?_set_ne q] at gi
          rw [List.getElem?_set_ne q2] at gj
          have := flat_apart S.nd gi gj hx hy
          omega
  · by_cases q : c = i
    · subst q
      rw [List.getElem?_set_self hl] at h1
      rw [List.getElem?_set_self (by rw [← S.len]; exact hl)] at h2
      cases h1
      cases h2
      exact rfl
    · rw [List.getElem?_set_ne q] at h1 h2
      exact (S.cells i bs d h1 h2).mono (fun _ _ => rfl) F.sub
section
variable {X : Cx} {EQ : EK} {sts : List Stmt} {b : DS}
theorem st_frz (i : Nat) (h : PSs X sts (Ts X.K EQ b)) : PSs X sts (Ts X.K EQ (sSeq (sFrz i) b)) := h.weak fun D σ H => by
  rintro ⟨ex, μ, env, sto, S, V, h⟩
  unfold sSeq at h
  have h := (R.wp_bind _).mp h
  unfold sFrz at h
  have core : ∀ (c : Nat) (d : Dat) (v : L2.V) (as : List Addr), env[i]? = some (some (.ref c)) → μ[c]? = some as → σ[i]? = some (some v) → Rp (hf ex (μ.set c []) H) v d →
      (b ((env.map (dropRef c)).set i (some (.dat d))) (sto.set c .dead)).wp (SPost X.K ex μ H D) (ePost X.K EQ ex μ H) → Ts X.K EQ b D σ H := by
    intro c d v as he hμ hv r hw
    have L := S.kill hμ
    refine ⟨ex, μ.set c [], _, _, L.1, ?_, R.wp_mono (fun _ _ z => z.fwd L.2) (fun _ _ z => z.fwd L.2) _ hw⟩
    have hl : c < μ.length := (List.getElem?_eq_some_iff.mp hμ).1
    refine ⟨by simp; exact V.1, fun j x q => ?_⟩
    by_cases hj : i = j
    · subst hj
      have hil : i < env.length := (List.getElem?_eq_some_iff.mp he).1
      rw [List.getElem?_set_self (by simpa using hil)] at q
      cases q
      exact ⟨v, hv, r⟩
    · rw [List.getElem?_set_ne hj, List.getElem?_map] at q
      cases ej : env[j]? with
      | none => rw [ej] at q; cases q
      | some y =>
        rw [ej] at q
        cases y with
        | none => simp [dropRef] at q
        | some z =>
          obtain ⟨w, h1, h2⟩ := V.2 j z ej
          cases z with
          | dat dd =>
            simp [dropRef] at q
            subst q
            exact ⟨w, h1, Rp.mono L.2.sub h2⟩
          | ref k =>
            by_cases hk : k = c
            · simp [dropRef, hk] at q
            · simp [dropRef, hk] at q
              subst q
              obtain ⟨a, rr, e1, e2⟩ := h2
              exact ⟨w, h1, a, rr, by rw [List.getElem?_set_ne (Ne.symm hk)]; exact e1, e2⟩
  split at h
  · rename_i c he
    obtain ⟨v, hv, a, as, hμ, rfl⟩ := V.2 i _ he
    have L := S.kill hμ
    have hin : ∀ x ∈ a :: as, x ∉ ex ++ (μ.set c []).flatten := fun x hx z => by
      rcases List.mem_append.mp z with z | z
      · exact S.dis x z (mem_flat hμ hx)
      · exact ((flat_set S.nd hμ x).mp z).2 hx
    split at h
    · rename_i xs hs
      obtain ⟨b', vs, e, hb, l, rr⟩ := S.cells c _ _ hμ hs
      cases e
      exact core c _ _ _ he hμ hv (.lst (off_of hb (hin a List.mem_cons_self)) l (rr.mono L.2.sub)) h
    · rename_i xss hs
      obtain ⟨b', bs, e, hb, l, pp⟩ := S.cells c _ _ hμ hs
      cases e
      have inner : ∀ {l : List Addr} {yss : List (List Dat)}, Paired (fun b xs => ∃ vs, H b = some (.lst vs) ∧ vs.length ≤ sizeLine ∧ RpL (hf ex μ H) vs xs) l yss → (∀ b ∈ l, b ∈ a :: as) → RpL (hf ex (μ.set c []) H) (l.map L2.V.ref) (yss.map PyData.list) := by
        intro l yss p
        induction p with
        | nil => intro _; exact .nil
        | cons r t ih =>
          intro hm
          obtain ⟨vs, e1, e2, e3⟩ := r
          exact .cons (.lst (off_of e1 (hin _ (hm _ List.mem_cons_self))) e2 (e3.mono L.2.sub)) (ih fun b hb => hm b (List.mem_cons_of_mem _ hb))
      exact core c _ _ _ he hμ hv (.lst (off_of hb (hin a List.mem_cons_self)) (by rw [List.length_map]; exact l) (inner pp fun b hb => List.mem_cons_of_mem _ hb)) h
    · rename_i kvs hs
      obtain ⟨b', es, ep, e, hb, l, ko, rr⟩ := S.cells c _ _ hμ hs
      cases e
      exact core c _ _ _ he hμ hv (.dct (off_of hb (hin a List.mem_cons_self)) l ko (rr.mono L.2.sub)) h
    · rename_i kvs hs
      split at h
      · rename_i ks hk
        obtain ⟨b', vs, e, hb, rr⟩ := S.cells c _ _ hμ hs
        cases e
        exact core c _ _ _ he hμ hv (.dkk (off_of hb (hin a List.mem_cons_self)) ((dk_rpk rr hk).mono L.2.sub)) h
      · exact h.elim
    · exact h.elim
  · exact h.elim
end
end Mx

set_option maxHeartbeats 4000000
namespace Mx
open PySem PySem.Spec PyProof.Rows L2

/-! ### new dicts -/
def eNewK : DE := fun _ s => .ok (.ref s.length) (s ++ [.dK []])
def eNewT : DE := fun _ s => .ok (.ref s.length) (s ++ [.dT []])
section
variable {X : Cx} {EQ : EK} {pos : Pos}
theorem at_last {μ : Mu} {sto : Sto} {as : List Addr} (h : μ.length = sto.length) : (μ ++ [as])[sto.length]? = some as := by
  rw [← h, List.getElem?_append_right (Nat.le_refl _)]
  simp
theorem pe_newK : PE X (.Dict [] [] pos) (T X.K EQ eNewK) := pe_dnewK.weak fun σ H Q => by
  rintro ⟨ex, μ, env, sto, S, V, h⟩
  intro p hp
  have S1 := S.laidX (o := .dK []) hp
  exact h _ (μ ++ [[p]]) _ ((S.laid hp).2.add hp) (S1.add (out_ex S hp) ⟨p, [], rfl, upd_same, .nil⟩) ⟨p, [], at_last S.len, rfl⟩
theorem pe_newT : PE X (.Dict [] [] pos) (T X.K EQ eNewT) := pe_dnewT.weak fun σ H Q => by
  rintro ⟨ex, μ, env, sto, S, V, h⟩
  intro p hp
  have S1 := S.laidX (o := .dT []) hp
  exact h _ (μ ++ [[p]]) _ ((S.laid hp).2.add hp) (S1.add (out_ex S hp) ⟨p, [], rfl, upd_same, .nil⟩) ⟨p, [], at_last S.len, rfl⟩
end
/-! ### dict comprehensions, keys ints and texts -/
def dcGo (g : DG) (ifs : DT) (key val : DE) (env : Env) : List Dat → List (Key × Dat) → Sto → R (List (Key × Dat))
  | [], acc, s => .ok acc s
  | x :: xs, acc, s => match g env x with
    | some env1 => (ifs env1 s).bind fun b s1 => if b = true then (key env1 s1).bind fun k s2 => (val env1 s2).bind fun y s3 => match k, y with
        | .dat kd, .dat d => match keyD kd with
          | some kk => if acc.length < sizeLine then dcGo g ifs key val env xs (putD acc kk d) s3 else .fail
          | none => .fail
        | _, _ => .fail
      else dcGo g ifs key val env xs acc s1
    | none => .fail
def eDc (src : DI) (own : List Nat) (g : DG) (ifs : DT) (key val : DE) : DE := fun env s => (src env s).bind fun items s1 => (dcGo g ifs key val (wipeE env own) items [] s1).bind fun kvs s2 => .ok (.ref s2.length) (s2 ++ [.dK kvs])
section
variable {X : Cx} {EQ : EK} {σ : L2.St} {H : Hp}
theorem t_dc {src : DI} {own : List Nat} {g : DG} {ifs : DT} {key val : DE} {Q : VK} : T X.K EQ (eDc src own g ifs key val) σ H Q → tDc (Ti X.K EQ src) (Tg g own) (Tt X.K EQ ifs) (T X.K EQ key) (T X.K EQ val) own σ H Q := by
  rintro ⟨ex, μ, env, sto, S, V, h⟩
  refine ⟨ex, μ, env, sto, S, V, R.wp_mono (fun items s0 h0 J μ1 H1 F1 S1 sr => ?_) (fun _ _ z => z) _ ((R.wp_bind _).mp h)⟩
  intro D hD
  have hD0 : H D = none := F1.back S1 hD
  have nDex : D ∉ ex := out_ex S hD0
  let W : Nat → Nat → Hp → Prop := fun i k H' => ∃ μ' s' acc vs, i + k = items.length ∧ FwdE μ H μ' H' ∧ Sub (hf ex μ1 H1) (hf (D :: ex) μ' H') ∧ StoR X.K (D :: ex) μ' H' s' ∧ EnvR (hf (D :: ex) μ' H') μ' (wipe σ own) (wipeE env own) ∧ H' D = some (.dK vs) ∧ Paired (kvR (hf (D :: ex) μ' H')) vs acc ∧
    ((dcGo g ifs key val (wipeE env own) (items.drop i) acc s').bind fun kvs s2 => R.ok (EV.ref s2.length) (s2 ++ [.dK kvs])).wp (fun d s' => ∀ v μ' H', FwdE μ H μ' H' → StoR X.K ex μ' H' s' → EvR (hf ex μ' H') μ' v d → Q v H') (ePost X.K EQ ex μ H)
  refine ⟨W, ⟨items.length, μ1, s0, [], [], by omega, F1.trans (S1.laid hD).2, ?_, S1.laidX hD, (V.fwdX (F1.trans (S1.laid hD).2) hD0).wipe own, upd_same, .nil, ?_⟩, fun i k H' hW => ?_⟩
  · exact (S1.laid (o := .dK []) hD).2.fwd.subX hD
  · rw [List.drop_zero]
    exact h0
  · obtain ⟨μ', s', acc, vs, hk, F, sub, S', V', hl, rr, hw⟩ := hW
    have subH : Sub (hf ex μ1 H1) H' := sub.trans (off_sub _ _)
    by_cases hi : i < items.length
    · refine .inr ⟨sr.goes i H' hi subH, fun H2 => W (i + 1) (k - 1) H2, fun H2 q => ⟨k - 1, by omega, q⟩, fun x H2 hy => ?_⟩
      have hw := (R.wp_bind _).mp hw
      rw [List.drop_eq_getElem_cons hi] at hw
      unfold dcGo at hw
      split at hw
      · rename_i env1 he1
        have item : ∃ (μ2 : Mu), FwdE μ' H' μ2 H2 ∧ StoR X.K (D :: ex) μ2 H2 s' ∧ Rp (hf (D :: ex) μ2 H2) x items[i] ∧ H2 D = some (.dK vs) := by
          rcases sr.yields i H' x H2 _ (List.getElem?_eq_getElem hi) subH hy with ⟨rfl, rx⟩ | ⟨t, ws, ds, rfl, ht, rfl, hd, lw, rw'⟩
          · exact ⟨μ', .refl _ _, S', rx.mono sub, hl⟩
          · have L := S'.laid (o := .tup ws) ht
            refine ⟨μ', L.2, L.1, ?_, by rw [upd_ne (ne_of_none hl ht)]; exact hl⟩
            rw [hd]
            exact .tup (S'.at_new ht) lw ((rw'.mono sub).mono L.2.fwd.sub)
        obtain ⟨μ2, F2, S2, rx, hl2⟩ := item
        have V2 := V'.fwd F2
        refine ⟨D :: ex, μ2, wipeE env own, items[i], V2, rx, env1, he1, fun σ2 V3 hwp => ⟨hwp.trans (wipe_wipe _ _), ?_⟩⟩
        refine ⟨D :: ex, μ2, env1, s', S2, V3, R.wp_mono (fun b s3 q μ3 H3 F3 S3 => ?_) (fun e s q μ3 H3 F3 S3 => q μ3 H3 ((F.trans F2).fwd.trans F3) S3.less) _ ((R.wp_bind _).mp hw)⟩
        have hl3 : H3 D = some (.dK vs) := F3.keep D _ (S2.dis D List.mem_cons_self) hl2
        have rr3 := paired_mono (paired_mono rr fun _ _ z => (⟨z.1, z.2.mono F2.fwd.sub⟩ : kvR _ _ _)) fun _ _ z => (⟨z.1, z.2.mono F3.fwd.sub⟩ : kvR _ _ _)
        have F03 : FwdE μ H μ3 H3 := (F.trans F2).trans F3
        have sub3 : Sub (hf ex μ1 H1) (hf (D :: ex) μ3 H3) := (sub.trans F2.fwd.sub).trans F3.fwd.sub
        cases b with
        | false => exact iteF ⟨μ3, s3, acc, vs, by omega, F03, sub3, S3, V2.fwd F3, hl3, rr3, (R.wp_bind _).mpr q⟩
        | true =>
          rw [if_pos rfl] at q
          refine iteT ⟨D :: ex, μ3, env1, s3, S3, V3.fwd F3, R.wp_mono (fun kd s4 q kv μ4 H4 F4 S4 r4 => ?_) (fun e s q μ4 H4 F4 S4 => q μ4 H4 (F03.fwd.trans F4) S4.less) _ ((R.wp_bind _).mp q)⟩
          refine ⟨D :: ex, μ4, env1, s4, S4, (V3.fwd F3).fwd F4, R.wp_mono (fun y s5 q yv μ5 H5 F5 S5 r5 => ?_) (fun e s q μ5 H5 F5 S5 => q μ5 H5 ((F03.trans F4).fwd.trans F5) S5.less) _ ((R.wp_bind _).mp q)⟩
          have hl5 : H5 D = some (.dK vs) := F5.keep D _ (S4.dis D List.mem_cons_self) (F4.keep D _ (S3.dis D List.mem_cons_self) hl3)
          cases kd with
          | ref _ => exact q.elim
          | dat kdd =>
           cases y with
           | ref _ => exact q.elim
           | dat d =>
            simp only at q
            split at q
            · rename_i kk hkk
              split at q
              · rename_i hlen
                have rk : Rp (hf (D :: ex) μ4 H4) kv kdd := r4
                have ek := keyD_v rk hkk
                have O := S5.over (o := .dK (putK vs kk yv)) (D := D) List.mem_cons_self
                have F05 : FwdE μ H μ5 H5 := (F03.trans F4).trans F5
                have rr5 := paired_mono (paired_mono rr3 fun _ _ z => (⟨z.1, z.2.mono F4.fwd.sub⟩ : kvR _ _ _)) fun _ _ z => (⟨z.1, z.2.mono F5.fwd.sub⟩ : kvR _ _ _)
                refine ⟨vs, kk, ek, hl5, by rw [pairedK_len rr5]; exact hlen, μ5, s5, putD acc kk d, putK vs kk yv, by omega, ?_, ?_, O.1, ?_, upd_same, ?_, (R.wp_bind _).mpr q⟩
                · refine ⟨fun a o n e => ?_, F05.fresh, F05.ext⟩
                  rw [upd_ne (ne_of_none e hD0)]
                  exact F05.keep a o n e
                · rw [O.2]
                  exact (sub3.trans F4.fwd.sub).trans F5.fwd.sub
                · rw [O.2]
                  exact ((V2.fwd F3).fwd F4).fwd F5
                · rw [O.2]
                  exact pairedK_put rr5 r5
              · exact q.elim
            · exact q.elim
      · exact hw.elim
    · have hi' : i = items.length := by omega
      subst hi'
      refine .inl ⟨sr.stops H' subH, ?_⟩
      rw [List.drop_length] at hw
      exact hw _ (μ' ++ [[D]]) H' (F.add hD0) (S'.add nDex ⟨D, vs, rfl, hl, rr⟩) ⟨D, [], at_last S'.len, rfl⟩
theorem pe_dcm {kx vx tg iter : Expr} {ifs : List Expr} {scope : Scope} {own : List (Str × Nat)} {pos : Pos} {src : DI} {g : DG} {tt : DT} {mk mv : DE} (hc : X.calm = true) (hN : X.N.Nodup) (hi : PI X tg iter (Ti X.K EQ src)) (ok : BlkOk X.N X.env.scope scope own)
    (hg : ∀ (s : Shared) (H : Hp) (C : Addr) (cl : List (Str × Addr)) (fp : List Addr), PG (X.blk s H scope (compEnvC scope cl C X.env) fp) tg (Tg g (own.map (·.2)))) (ht : ∀ (s : Shared) (H : Hp) (C : Addr) (cl : List (Str × Addr)) (fp : List Addr), PTs (X.blk s H scope (compEnvC scope cl C X.env) fp) ifs (Tt X.K EQ tt))
    (hk : ∀ (s : Shared) (H : Hp) (C : Addr) (cl : List (Str × Addr)) (fp : List Addr), PE (X.blk s H scope (compEnvC scope cl C X.env) fp) kx (T X.K EQ mk))
    (he : ∀ (s : Shared) (H : Hp) (C : Addr) (cl : List (Str × Addr)) (fp : List Addr), PE (X.blk s H scope (compEnvC scope cl C X.env) fp) vx (T X.K EQ mv)) (hs : ∀ x, foldedSetIterable iter X.env x = pure x := by intro _; rfl) :
    PE X (.DictComp kx vx [⟨tg, iter, ifs, 0⟩] scope pos) (T X.K EQ (eDc src (own.map (·.2)) g tt mk mv)) := (pe_dc hc hN hi ok hg ht hk he hs).weak fun _ _ _ => t_dc
end

/-! ### a list of new empty lists -/
theorem hf_addL {ex : List Addr} {μ : Mu} {H : Hp} {as : List Addr} : hf ex (μ ++ [as]) H = hf (as ++ ex) μ H := off_ext fun a => by
  simp only [List.flatten_append, List.mem_append, List.flatten_cons, List.flatten_nil, List.append_nil]
  constructor
  · rintro (h | h | h) <;> simp [h]
  · rintro ((h | h) | h) <;> simp [h]
theorem StoR.addL {K : PySem.W.Frag} {ex : List Addr} {μ : Mu} {H : Hp} {sto : Sto} {as : List Addr} {c : Cell} (S : StoR K (as ++ ex) μ H sto) (nd : as.Nodup) (hp : ∀ a ∈ as, a ∉ ex) (hc : CellR K H (hf (as ++ ex) μ H) as c) : StoR K ex (μ ++ [as]) H (sto ++ [c]) := by
  refine ⟨?_, by simp [S.len], fun i bs d h1 h2 => ?_, fun a m => ?_, fun a m => S.alive a (List.mem_append_right _ m)⟩
  · rw [List.flatten_append, List.nodup_append]
    refine ⟨S.nd, by simpa using nd, fun a ha b hb z => ?_⟩
    simp at hb
    subst z
    exact S.dis a (List.mem_append_left _ hb) ha
  · rw [hf_addL]
    by_cases hi : i < μ.length
    · rw [List.getElem?_append_left hi] at h1
      rw [List.getElem?_append_left (by rw [← S.len]; exact hi)] at h2
      exact S.cells i bs d h1 h2
    · have hl := S.len
      have e : i = μ.length := by
        have := (List.getElem?_eq_some_iff.mp h1).1
        simp at this
        omega
      subst e
      rw [List.getElem?_append_right (Nat.le_refl _)] at h1
      rw [hl, List.getElem?_append_right (Nat.le_refl _)] at h2
      simp at h1 h2
      subst h1
      subst h2
      exact hc
  · rw [List.flatten_append, List.mem_append, not_or]
    refine ⟨S.dis a (List.mem_append_right _ m), ?_⟩
    simp
    exact fun z => hp a z m
def allG (g : DG) (env : Env) : List Dat → Bool
  | [] => true
  | x :: xs => (g env x).isSome && allG g env xs
def eLsl (src : DI) (own : List Nat) (g : DG) : DE := fun env s => (src env s).bind fun items s1 => if allG g (wipeE env own) items = true then .ok (.ref s1.length) (s1 ++ [.lsl (List.replicate items.length [])]) else .fail
theorem allG_at {g : DG} {env : Env} : ∀ {items : List Dat} {i : Nat} {d : Dat}, allG g env items = true → items[i]? = some d → ∃ env1, g env d = some env1
  | [], _, _, _, h => by simp at h
  | x :: xs, 0, d, h, e => by
    simp at e
    subst e
    unfold allG at h
    rw [Bool.and_eq_true] at h
    cases q : g env x with
    | none => rw [q] at h; cases h.1
    | some z => exact ⟨z, rfl⟩
  | x :: xs, i + 1, d, h, e => by
    unfold allG at h
    rw [Bool.and_eq_true] at h
    exact allG_at (i := i) h.2 (by simpa using e)
section
variable {X : Cx} {EQ : EK} {σ : L2.St} {H : Hp}
theorem t_lsl {src : DI} {own : List Nat} {g : DG} {Q : VK} : T X.K EQ (eLsl src own g) σ H Q → tLc (Ti X.K EQ src) (Tg g own) tYes (tLst tNil) own σ H Q := by
  rintro ⟨ex, μ, env, sto, S, V, h⟩
  refine ⟨ex, μ, env, sto, S, V, R.wp_mono (fun items s0 h0 J μ1 H1 F1 S1 sr => ?_) (fun _ _ z => z) _ ((R.wp_bind _).mp h)⟩
  split at h0
  · rename_i hall
    intro D hD
    have hD0 : H D = none := F1.back S1 hD
    have nDex : D ∉ ex := out_ex S hD0
    let W : Nat → Nat → Hp → Prop := fun i k H' => ∃ bs : List Addr, i + k = items.length ∧ bs.length = i ∧ FwdE μ H μ1 H' ∧ Sub (hf ex μ1 H1) (hf ((D :: bs) ++ ex) μ1 H') ∧ StoR X.K ((D :: bs) ++ ex) μ1 H' s0 ∧ EnvR (hf ((D :: bs) ++ ex) μ1 H') μ1 (wipe σ own) (wipeE env own) ∧ H' D = some (.lst (bs.map L2.V.ref)) ∧ (∀ b ∈ bs, H' b = some (.lst [])) ∧ (D :: bs).Nodup ∧ (∀ b ∈ D :: bs, H b = none)
    refine ⟨W, ⟨items.length, [], by omega, rfl, F1.trans (S1.laid hD).2, ?_, S1.laidX hD, (V.fwdX (F1.trans (S1.laid hD).2) hD0).wipe own, upd_same, (fun b hb => (List.not_mem_nil hb).elim), by simp, fun b hb => ?_⟩, fun i k H' hW => ?_⟩
    · exact (S1.laid (o := .lst []) hD).2.fwd.subX hD
    · simp at hb
      subst hb
      exact hD0
    · obtain ⟨bs, hk, hbl, F, sub, S', V', hl, hbs, nd, hnew⟩ := hW
      have subH : Sub (hf ex μ1 H1) H' := sub.trans (off_sub _ _)
      by_cases hi : i < items.length
      · refine .inr ⟨sr.goes i H' hi subH, fun H2 => W (i + 1) (k - 1) H2, fun H2 q => ⟨k - 1, by omega, q⟩, fun x H2 hy => ?_⟩
        have item : FwdE μ1 H' μ1 H2 ∧ StoR X.K ((D :: bs) ++ ex) μ1 H2 s0 ∧ Rp (hf ((D :: bs) ++ ex) μ1 H2) x items[i] ∧ H2 D = some (.lst (bs.map L2.V.ref)) ∧ ∀ b ∈ bs, H2 b = some (.lst []) := by
          rcases sr.yields i H' x H2 _ (List.getElem?_eq_getElem hi) subH hy with ⟨rfl, rx⟩ | ⟨t, ws, ds, rfl, ht, rfl, hd, lw, rw'⟩
          · exact ⟨.refl _ _, S', rx.mono sub, hl, hbs⟩
          · have L := S'.laid (o := .tup ws) ht
            refine ⟨L.2, L.1, ?_, by rw [upd_ne (ne_of_none hl ht)]; exact hl, fun b hb => by rw [upd_ne (ne_of_none (hbs b hb) ht)]; exact hbs b hb⟩
            rw [hd]
            exact .tup (S'.at_new ht) lw ((rw'.mono sub).mono L.2.fwd.sub)
        obtain ⟨F2, S2, rx, hl2, hbs2⟩ := item
        obtain ⟨env1, he1⟩ := allG_at hall (List.getElem?_eq_getElem hi)
        refine ⟨(D :: bs) ++ ex, μ1, wipeE env own, items[i], V'.fwd F2, rx, env1, he1, fun σ2 V3 hwp => ⟨hwp.trans (wipe_wipe _ _), ?_⟩⟩
        show (if (true : Bool) = true then tLst tNil σ2 H2 (fun y H4 => ∃ acc, H4 D = some (.lst acc) ∧ acc.length < sizeLine ∧ W (i + 1) (k - 1) (upd H4 D (.lst (acc ++ [y])))) else W (i + 1) (k - 1) H2)
        rw [if_pos rfl]
        refine ⟨Nat.zero_le _, fun p hp => ?_⟩
        have hpD : D ≠ p := ne_of_none hl2 hp
        have hlp : (upd H2 p (.lst [])) D = some (.lst (bs.map L2.V.ref)) := by rw [upd_ne hpD]; exact hl2
        have S3 := S2.laidX (o := .lst []) hp
        have O := S3.over (o := .lst (bs.map L2.V.ref ++ [.ref p])) (D := D) (by simp)
        have hp0 : H p = none := (F.trans F2).back (S2) hp
        have perm : ∀ {μ : Mu} {H : Hp}, hf ((D :: (bs ++ [p])) ++ ex) μ H = hf (p :: ((D :: bs) ++ ex)) μ H := off_ext fun a => by simp; constructor <;> (intro h; rcases h with h | h | h | h | h <;> simp [h])
        refine ⟨bs.map L2.V.ref, hlp, ?_, bs ++ [p], by omega, by simp [hbl], ?_, ?_, ?_, ?_, by rw [upd_same, List.map_append]; rfl, fun b hb => ?_, ?_, fun b hb => ?_⟩
        · rw [List.length_map]
          have := sr.len
          omega
        · have F3 := (F.trans F2).trans (S2.laid (o := .lst []) hp).2
          refine ⟨fun a o n e => ?_, F3.fresh, F3.ext⟩
          rw [upd_ne (ne_of_none e hD0)]
          exact F3.keep a o n e
        · rw [perm, O.2]
          exact (sub.trans F2.fwd.sub).trans ((S2.laid (o := .lst []) hp).2.fwd.subX hp)
        · refine ⟨O.1.nd, O.1.len, fun i as c h1 h2 => ?_, fun a m => O.1.dis a ?_, fun a m => O.1.alive a ?_⟩
          · rw [perm]
            exact O.1.cells i as c h1 h2
          · simp at m ⊢
            rcases m with m | m | m | m <;> simp [m]
          · simp at m ⊢
            rcases m with m | m | m | m <;> simp [m]
        · rw [perm, O.2]
          exact (V'.fwd F2).fwdX (S2.laid (o := .lst []) hp).2 hp
        · have hbD : b ≠ D := fun z => by
            rw [List.mem_append] at hb
            rcases hb with hb | hb
            · rw [z] at hb
              exact (List.nodup_cons.mp nd).1 hb
            · simp at hb
              exact hpD (by rw [← z, hb])
          rw [upd_ne hbD]
          rcases List.mem_append.mp hb with hb | hb
          · rw [upd_ne (ne_of_none (hbs2 b hb) hp)]
            exact hbs2 b hb
          · simp at hb
            rw [hb, upd_same]
        · have q := List.nodup_cons.mp nd
          rw [List.nodup_cons, List.mem_append, not_or]
          refine ⟨⟨q.1, by simpa using hpD⟩, ?_⟩
          rw [List.nodup_append]
          refine ⟨q.2, by simp, fun a ha b hb => ?_⟩
          simp at hb
          rw [hb]
          exact ne_of_none (hbs2 a ha) hp
        · rcases List.mem_cons.mp hb with z | z
          · rw [z]
            exact hD0
          · rcases List.mem_append.mp z with z | z
            · exact hnew b (List.mem_cons_of_mem _ z)
            · simp at z
              rw [z]
              exact hp0
      · have hi' : i = items.length := by omega
        refine .inl ⟨by rw [hi']; exact sr.stops H' subH, ?_⟩
        have pp : ∀ l : List Addr, (∀ b ∈ l, H' b = some (.lst [])) → Paired (fun b xs => ∃ vs, H' b = some (.lst vs) ∧ vs.length ≤ sizeLine ∧ RpL (hf ((D :: bs) ++ ex) μ1 H') vs xs) l (List.replicate l.length ([] : List Dat)) := by
          intro l
          induction l with
          | nil => intro _; exact .nil
          | cons a r ih => 
            intro h
            exact .cons ⟨[], h a List.mem_cons_self, Nat.zero_le _, .nil⟩ (ih fun b hb => h b (List.mem_cons_of_mem _ hb))
        have hlen : bs.length ≤ sizeLine := by
          have := sr.len
          omega
        have FF : FwdE μ H (μ1 ++ [D :: bs]) H' := by
          obtain ⟨ν, e⟩ := F.ext
          refine ⟨F.keep, fun a m => ?_, ⟨ν ++ [D :: bs], by rw [e]; simp⟩⟩
          rw [List.flatten_append, List.mem_append] at m
          rcases m with m | m
          · exact F.fresh a m
          · simp at m
            exact .inr (hnew a (by simpa using m))
        have e2 : List.replicate items.length ([] : List Dat) = List.replicate bs.length [] := by rw [hbl, hi']
        rw [e2] at h0
        exact h0 _ (μ1 ++ [D :: bs]) H' FF (S'.addL nd (fun a ha z => S.alive a z (hnew a ha)) ⟨D, bs, rfl, hl, hlen, pp bs hbs⟩) ⟨D, bs, at_last S'.len, rfl⟩
  · exact h0.elim
theorem st_setLsl (i : Nat) {y : Str} {py : Pos} {tg iter : Expr} {scope : Scope} {own : List (Str × Nat)} {pos spos lpos : Pos} {src : DI} {g : DG} (hc : X.calm = true) (hN : X.N.Nodup) (hi : PI X tg iter (Ti X.K EQ src)) (ok : BlkOk X.N X.env.scope scope own)
    (hg : ∀ (s : Shared) (H : Hp) (C : Addr) (cl : List (Str × Addr)) (fp : List Addr), PG (X.blk s H scope (compEnvC scope cl C X.env) fp) tg (Tg g (own.map (·.2))))
    (hy : X.N[i]? = some y := by rfl) (hyl : X.env.scope.names.lookup y = some .local := by rfl) (hsw : swapsWith (.ListComp (.List [] lpos) [⟨tg, iter, [], 0⟩] scope pos) (some (.Name y py)) spos.line X.env = pure true := by exact sw_true rfl rfl rfl (by decide +kernel)) (hs : ∀ x, foldedSetIterable iter X.env x = pure x := by intro _; rfl) :
    PS X (.Assign [.Name y py] (.ListComp (.List [] lpos) [⟨tg, iter, [], 0⟩] scope pos) spos) (Ts X.K EQ (sSet i (eLsl src (own.map (·.2)) g))) :=
  (ps_setLc hc hN hy hyl hsw hi ok hg (fun _ _ _ _ _ => pts_nil) (fun _ _ _ _ _ => L2.pe_lst pa_nil) hs).weak fun D σ H h => t_lsl (ts_set h)

/-! ### found[i].append(e) -/
def eAppAt (i : Nat) (idx e : DE) : DE := fun env s => match env[i]? with
  | some (some (.ref c)) => (idx env s).bind fun k s1 => match k, s1[c]? with
    | .dat (.int n), some (.lsl xss) => match ixN xss.length n with
      | some j => (e env s1).bind fun y s2 => match y, s2[c]? with
        | .dat d, some (.lsl yss) => match yss[j]? with
          | some ys => if yss.length = xss.length ∧ ys.length < sizeLine then .ok (.dat .none) (s2.set c (.lsl (yss.set j (ys ++ [d])))) else .fail
          | none => .fail
        | _, _ => .fail
      | none => .fail
    | _, _ => .fail
  | _ => .fail
theorem paired_at {α β : Type} {F : α → β → Prop} : ∀ {l : List α} {m : List β} {j : Nat} {b : β}, Paired F l m → m[j]? = some b → ∃ a, l[j]? = some a ∧ F a b
  | _, _, _, _, .nil, h => by simp at h
  | _, _, 0, b, .cons r t, h => by
    simp at h
    subst h
    exact ⟨_, rfl, r⟩
  | _, _, j + 1, b, .cons r t, h => by
    obtain ⟨a, h1, h2⟩ := paired_at (j := j) t (by simpa using h)
    exact ⟨a, by simpa using h1, h2⟩
theorem paired_setR {α β : Type} {F G : α → β → Prop} : ∀ {l : List α} {m : List β} {j : Nat} {a : α} {b : β}, Paired F l m → l[j]? = some a → l.Nodup → (∀ x y, x ≠ a → F x y → G x y) → G a b → Paired G l (m.set j b)
  | _, _, _, _, _, .nil, h, _, _, _ => by simp at h
  | x :: l, y :: m, 0, a, b, .cons r t, h, nd, hm, hb => by
    simp at h
    subst h
    have q := List.nodup_cons.mp nd
    refine .cons hb ?_
    exact paired_mem t fun u v mu fu => hm u v (fun z => q.1 (by rw [← z]; exact mu)) fu
  | x :: l, y :: m, j + 1, a, b, .cons r t, h, nd, hm, hb => by
    have q := List.nodup_cons.mp nd
    have h' : l[j]? = some a := by simpa using h
    refine .cons (hm x y (fun z => q.1 (by rw [z]; exact List.mem_of_getElem? h')) r) ?_
    exact paired_setR t h' q.2 hm hb
theorem pe_appAt (i : Nat) {x : Str} {idx e : Expr} {mi me : DE} {p1 spos apos cpos : Pos} (hi : PE X idx (T X.K EQ mi)) (he : PE X e (T X.K EQ me)) (hix : PlainIx idx := by exact fun _ _ => rfl)
    (hN : X.N[i]? = some x := by rfl) (hv : Vis X.env.scope x := by first | exact Or.inl rfl | exact Or.inr (Or.inl rfl) | exact Or.inr (Or.inr rfl)) (hd : (x == ("__debug__" : Str)) = false := by decide) (hcd : (x == ("__classdict__" : Str)) = false := by decide)
    (hs1 : starEach [e] X.env = (false, eval e X.env) :: starEach [] X.env := by rfl)
    (hbase : attributeBase (.Subscript (.Name x p1) idx spos) "append" X.env (eval (.Subscript (.Name x p1) idx spos) X.env) = eval (.Subscript (.Name x p1) idx spos) X.env := by rfl)
    (hfew : ((backTo cpos (starEach [e] X.env)).all (fun x => !x.1) && (backToKw cpos (keywordEach [] X.env)).all (fun x => x.1.isSome) && decide ([e].length + ([] : List Keyword).length + (if ([] : List Keyword).isEmpty then 0 else 1) < 30)) = true := by rfl)
    (hline : (apos.endLine == cpos.line) = true := by rfl) (hpl : (backTo cpos (starEach [] X.env)).any (·.1) = false := by rfl) :
    PE X (.Call (.Attribute (.Subscript (.Name x p1) idx spos) "append" apos) [e] [] cpos) (T X.K EQ (eAppAt i mi me)) := by
  refine PE.weak (pe_bm PySem.F.plainAttrs_list PySem.F.slot_list_append PySem.F.type_list_append mt_append (pe_ix ix_list (pe_var hN hv hd hcd) hi hix) (pa_cons he pa_nil hs1) hbase hfew hline hs1 hpl) fun σ H Q => ?_
  rintro ⟨ex, μ, env, sto, S, V, h⟩
  unfold eAppAt at h
  split at h
  · rename_i c hc
    obtain ⟨v, hv', a, as, hμ, rfl⟩ := V.2 i _ hc
    refine ⟨_, hv', ?_⟩
    refine T.then S V h fun kx s1 kv μ1 H1 F1 S1 V1 r1 h1 => ?_
    split at h1
    · rename_i n xss hxs
      split at h1
      · rename_i j hj
        obtain ⟨ν, e1⟩ := F1.ext
        have hμ1 : μ1[c]? = some (a :: as) := by
          rw [e1, List.getElem?_append_left (List.getElem?_eq_some_iff.mp hμ).1]
          exact hμ
        cases r1
        obtain ⟨b, bs, ea, hb, l, pp⟩ := S1.cells c _ _ hμ1 hxs
        cases ea
        have hlx : as.length = xss.length := Paired.length pp
        have hjl : j < xss.length := (ixN_seq hj).2.1
        obtain ⟨bj, hbj⟩ : ∃ bj, as[j]? = some bj := ⟨_, List.getElem?_eq_getElem (by omega)⟩
        refine ⟨a, as.map L2.V.ref, n, .ref bj, rfl, rfl, SqL.of hb, ?_, ?_⟩
        · unfold atI
          rw [List.length_map, hlx, hj]
          show (as.map L2.V.ref)[j]? = _
          rw [List.getElem?_map, hbj]
          rfl
        · obtain ⟨ys0, hy0⟩ : ∃ ys, xss[j]? = some ys := ⟨_, List.getElem?_eq_getElem hjl⟩
          obtain ⟨b', hb', vs0, hv0, _, _⟩ := paired_at pp hy0
          rw [hbj] at hb'
          cases hb'
          refine ⟨.inl ⟨rfl, vs0, SqL.of hv0⟩, ?_⟩
          refine T.then S1 V1 h1 fun y s2 w μ2 H2 F2 S2 V2 r2 h2 => ?_
          split at h2
          · rename_i d yss hys
            split at h2
            · rename_i ys hyj
              split at h2
              · rename_i hg
                obtain ⟨ν2, e2⟩ := F2.ext
                have hμ2 : μ2[c]? = some (a :: as) := by
                  rw [e2, List.getElem?_append_left (List.getElem?_eq_some_iff.mp hμ1).1]
                  exact hμ1
                obtain ⟨b, bs, ea, hb2, l2, pp2⟩ := S2.cells c _ _ hμ2 hys
                cases ea
                obtain ⟨b', hb', vs, hvj, lv, rv⟩ := paired_at pp2 hyj
                rw [hbj] at hb'
                cases hb'
                have nda : (a :: as).Nodup := by
                  have nd' : μ2.flatten.Pairwise (· ≠ ·) := S2.nd
                  exact (List.pairwise_flatten.mp nd').1 _ (List.mem_of_getElem? hμ2)
                have hmem : bj ∈ as := List.mem_of_getElem? hbj
                have hne : a ≠ bj := fun z => (List.nodup_cons.mp nda).1 (by rw [z]; exact hmem)
                have hlv : vs.length < sizeLine := by rw [rv.length]; exact hg.2
                have P := S2.put (o := .lst (vs ++ [w])) (cell := .lsl (yss.set j (ys ++ [d]))) (a := bj) hμ2 (List.mem_cons_of_mem _ hmem) ⟨a, as, rfl, by rw [upd_ne hne]; exact hb2, l2, paired_setR pp2 hbj (List.nodup_cons.mp nda).2 (fun x yv hx ⟨us, h1, h2, h3⟩ => ⟨us, by rw [upd_ne hx]; exact h1, h2, h3⟩) ⟨vs ++ [w], upd_same, by rw [List.length_append]; exact hlv, rv.snoc r2⟩⟩
                exact ⟨bj, vs, w, rfl, rfl, hvj, hlv, h2 .non μ2 _ ((F1.trans F2).trans P.2) P.1 .non⟩
              · exact h2.elim
            · exact h2.elim
          · exact h2.elim
      · exact h1.elim
    · exact h1.elim
  · exact h.elim
end
end Mx

set_option maxHeartbeats 4000000
namespace Mx
open PySem PySem.Spec PyProof.Rows L2

/-! ### -a -/
def negD : Sto → EV → Option Dat := fun _ x => match x with
  | .dat (.int i) => some (.int (-i))
  | _ => none
section
variable {X : Cx} {EQ : EK} {a : Expr} {m : DE} {pos : Pos}
theorem pe_neg (ha : PE X a (T X.K EQ m)) : PE X (.UnaryOp .USub a pos) (T X.K EQ (e1 negD m)) := (pe_un un_neg ha).weak fun σ H Q => by
  rintro ⟨ex, μ, env, sto, S, V, h⟩
  refine T.then S V h fun x s1 v μ1 H1 F1 S1 V1 r h1 => ?_
  obtain ⟨d, e, q⟩ := wp_liftD h1
  unfold negD at e
  split at e
  · cases e
    cases r
    exact ⟨_, rfl, q _ μ1 H1 F1 S1 (.int _)⟩
  · cases e
end

/-! ### tuples of ints in order -/
def cmpL (r : Int → Int → Bool) (z : Nat → Nat → Bool) : List Int → List Int → Bool
  | [], ms => z 0 ms.length
  | ns, [] => z ns.length 0
  | x :: xs, y :: ys => if x = y then cmpL r z xs ys else r x y
theorem lexAt_shift {e r : Nat → Bool} {z : Bool} : ∀ (k i : Nat), Ob.lexAt (fun j => e (j + 1)) (fun j => r (j + 1)) z i k = Ob.lexAt e r z (i + 1) k
  | 0, i => rfl
  | k + 1, i => by
    rw [Ob.lexAt_succ, Ob.lexAt_succ, lexAt_shift k (i + 1)]
theorem lexAt_cmp {r : Int → Int → Bool} {z : Nat → Nat → Bool} (hz : ∀ n m, z (n + 1) (m + 1) = z n m) : ∀ ns ms : List Int, Ob.lexAt (fun j => decide (ns.getD j 0 = ms.getD j 0)) (fun j => r (ns.getD j 0) (ms.getD j 0)) (z ns.length ms.length) 0 (min ns.length ms.length) = cmpL r z ns ms
  | [], ms => by
    rw [show min ([] : List Int).length ms.length = 0 by simp, Ob.lexAt_zero]
    cases ms <;> rfl
  | x :: xs, [] => by
    rw [show min (x :: xs).length ([] : List Int).length = 0 by simp, Ob.lexAt_zero]
    rfl
  | x :: xs, y :: ys => by
    rw [show min (x :: xs).length (y :: ys).length = min xs.length ys.length + 1 by simp, Ob.lexAt_succ]
    have ih := lexAt_cmp (r := r) hz xs ys
    unfold cmpL
    by_cases h : x = y
    · rw [if_pos h]
      rw [if_pos (by simp [h])]
      rw [← ih, List.length_cons, List.length_cons, hz]
      exact (lexAt_shift (e := fun j => decide ((x :: xs).getD j 0 = (y :: ys).getD j 0)) (r := fun j => r ((x :: xs).getD j 0) ((y :: ys).getD j 0)) _ 0).symm
    · rw [if_neg h]
      rw [if_neg (by simp [h])]
      rfl
def rCmpT (K : PySem.W.Frag) (r : Int → Int → Bool) (z : Nat → Nat → Bool) : R2 := fun x y H Q => ∃ (a b : Addr) (ns ms : List Int), x = .ref a ∧ y = .ref b ∧ SqT K H a (ns.map V.int) ∧ SqT K H b (ms.map V.int) ∧ Q (.bl (cmpL r z ns ms)) H
theorem op_cmpT {X : Cx} {op : CmpOp} {r : Int → Int → Bool} {z : Nat → Nat → Bool} (hz : ∀ n m, z (n + 1) (m + 1) = z n m) (hi : ∀ (A : Around) (s : Shared) (a b : Int) (t u : Tok), Ob.RcOp op A s (.int a t) (.int b u) (r a b))
    (rule : ∀ {A : Around} {s : Shared} {l b : Addr} {items items2 : Array Value} {e q : Nat → Bool}, s.heap.IsTuple l items → s.heap.IsTuple b items2 → A.units < cLine → (∀ j (h1 : j < items.size) (h2 : j < items2.size), SeqAt.EqAt A.in1 s items[j] items2[j] (e j)) →
      (∀ j (h1 : j < items.size) (h2 : j < items2.size), e j = false → Ob.RcOp op A.in1 s items[j] items2[j] (q j)) → Ob.RcOp op A s (.ref l) (.ref b) (Ob.lexAt e q (z items.size items2.size) 0 (min items.size items2.size)))
    (hrc : ∀ (u v : Value), compareOp op u v = richCompare op u v) (hu : X.A.units < cLine) : OpR X (compareOp op) (rCmpT X.K r z) := by
  intro pins s σ H x y v u Q I rx ry h
  obtain ⟨a, b, ns, ms, rfl, rfl, ha, hb, q⟩ := h
  cases rx
  cases ry
  obtain ⟨its, r1, p1, _⟩ := I.tuple ha
  obtain ⟨its2, r2, p2, _⟩ := I.tuple hb
  have i1 : IntsAre its ns := Vals.ints r1
  have i2 : IntsAre its2 ms := Vals.ints r2
  have e1 : its.toArray.size = ns.length := by rw [List.size_toArray]; exact i1.length
  have e2 : its2.toArray.size = ms.length := by rw [List.size_toArray]; exact i2.length
  have at1 : ∀ j (h1 : j < its.toArray.size), ∃ t, its.toArray[j] = .int (ns.getD j 0) t := fun j h1 => PyProof.Rows.IntsAre.int_at i1 _ _ (by simp at h1; simp [h1])
  have at2 : ∀ j (h1 : j < its2.toArray.size), ∃ t, its2.toArray[j] = .int (ms.getD j 0) t := fun j h1 => PyProof.Rows.IntsAre.int_at i2 _ _ (by simp at h1; simp [h1])
  have Rr := rule (A := X.A) (s := s) (e := fun j => decide (ns.getD j 0 = ms.getD j 0)) (q := fun j => r (ns.getD j 0) (ms.getD j 0)) p1 p2 hu (fun j h1 h2 => by
    obtain ⟨t, et⟩ := at1 j h1
    obtain ⟨t', et'⟩ := at2 j h2
    rw [et, et']
    have z : (ns.getD j 0 == ms.getD j 0) = decide (ns.getD j 0 = ms.getD j 0) := by
      by_cases q : ns.getD j 0 = ms.getD j 0
      · rw [decide_eq_true q]; exact beq_iff_eq.mpr q
      · rw [decide_eq_false q]; exact beq_eq_false_iff_ne.mpr q
    rw [← z]
    exact SeqAt.EqAt.int_int _ _ _ _) (fun j h1 h2 _ => by
    obtain ⟨t, et⟩ := at1 j h1
    obtain ⟨t', et'⟩ := at2 j h2
    rw [et, et']
    exact hi _ _ _ _ _ _)
  rw [e1, e2, lexAt_cmp hz] at Rr
  rw [hrc]
  exact Rr X.prog X.w X.xe (EP X pins σ Q) ⟨.bl _, H, I, rfl, q⟩
def zLt (n m : Nat) : Bool := decide (n < m)
def zLe (n m : Nat) : Bool := decide (n ≤ m)
def zGt (n m : Nat) : Bool := decide (m < n)
def zGe (n m : Nat) : Bool := decide (m ≤ n)
def rLt (i j : Int) : Bool := decide (i < j)
def rLe (i j : Int) : Bool := decide (i ≤ j)
def rGt (i j : Int) : Bool := decide (j < i)
def rGe (i j : Int) : Bool := decide (j ≤ i)
def ordD (r : Int → Int → Bool) (z : Nat → Nat → Bool) : Sto → EV → EV → Option Dat := fun _ x y => match x, y with
  | .dat (.int i), .dat (.int j) => some (.bool (r i j))
  | .dat (.tuple a), .dat (.tuple b) => match intsD a, intsD b with
    | some ns, some ms => some (.bool (cmpL r z ns ms))
    | _, _ => none
  | _, _ => none
def ltO := ordD rLt zLt
def leO := ordD rLe zLe
def gtO := ordD rGt zGt
def geO := ordD rGe zGe
def rOrd (K : PySem.W.Frag) (r : Int → Int → Bool) (z : Nat → Nat → Bool) : R2 := fun x y H Q => (rI0 fun i j => V.bl (r i j)) x y H Q ∨ rCmpT K r z x y H Q
theorem od_ord {K : PySem.W.Frag} {r : Int → Int → Bool} {z : Nat → Nat → Bool} : OpD K (rOrd K r z) (ordD r z) := by
  intro ex μ H sto x y v w d Q S rx ry h q
  unfold ordD at h
  split at h
  · cases h
    cases rx
    cases ry
    exact .inl ⟨_, _, rfl, rfl, q _ μ H (.refl _ _) S (.bl _)⟩
  · split at h
    · rename_i ns ms e1 e2
      cases h
      obtain ⟨pa, va, rfl, ha, la, ra⟩ := Rp.tup_inv rx
      obtain ⟨pb, vb, rfl, hb, lb, rb⟩ := Rp.tup_inv ry
      have q1 := ints_v ra e1
      have q2 := ints_v rb e2
      subst q1
      subst q2
      exact .inr ⟨pa, pb, ns, ms, rfl, rfl, SqT.of (off_some ha).2, SqT.of (off_some hb).2, q _ μ H (.refl _ _) S (.bl _)⟩
    · cases h
  · cases h
section
variable {X : Cx}
theorem op_ltO (hu : X.A.units < cLine) : OpR X (compareOp .Lt) (rOrd X.K rLt zLt) := OpR.or op_lt (op_cmpT (fun n m => by unfold zLt; simp) (fun _ _ _ _ _ _ => Ob.RcOp.lt_int _ _ _ _) (fun h1 h2 h3 h4 h5 => Ob.RcOp.tuples_lt h1 h2 h3 h4 h5) (fun _ _ => rfl) hu)
theorem op_leO (hu : X.A.units < cLine) : OpR X (compareOp .LtE) (rOrd X.K rLe zLe) := OpR.or op_le (op_cmpT (fun n m => by unfold zLe; simp) (fun _ _ _ _ _ _ => Ob.RcOp.le_int _ _ _ _) (fun h1 h2 h3 h4 h5 => Ob.RcOp.tuples_le h1 h2 h3 h4 h5) (fun _ _ => rfl) hu)
theorem op_gtO (hu : X.A.units < cLine) : OpR X (compareOp .Gt) (rOrd X.K rGt zGt) := OpR.or op_gt (op_cmpT (fun n m => by unfold zGt; simp) (fun _ _ _ _ _ _ => Ob.RcOp.gt_int _ _ _ _) (fun h1 h2 h3 h4 h5 => Ob.RcOp.tuples_gt h1 h2 h3 h4 h5) (fun _ _ => rfl) hu)
theorem op_geO (hu : X.A.units < cLine) : OpR X (compareOp .GtE) (rOrd X.K rGe zGe) := OpR.or op_ge (op_cmpT (fun n m => by unfold zGe; simp) (fun _ _ _ _ _ _ => Ob.RcOp.ge_int _ _ _ _) (fun h1 h2 h3 h4 h5 => Ob.RcOp.tuples_ge h1 h2 h3 h4 h5) (fun _ _ => rfl) hu)
end

/-! ### the draws -/
def takenF : Fn := fun evs sto => match evs, sto with
  | [.ref 0, .dat (.int n)], [.row] => if 1 ≤ n ∧ n < 1073741824 then .pick n.toNat fun i => .ok (.int (i : Nat)) [.row] else .fail
  | _, _ => .fail
/-- what a call of it stands upon -/
theorem taken_open {K : PySem.W.Frag} {vs : List L2.V} {H : Hp} {Q : VK} {E : XK} (h : spF K takenF vs H Q E) : ∃ (a l : Addr) (ns : List Int) (i x y n : Int), vs = [.ref a, .int n] ∧ H a = some (.lst [.ref l, .int i, .int x, .int y]) ∧ (∀ H' : Hp, (∀ b u, b ≠ a → H b = some u → H' b = some u) → SqL K H' l (ns.map V.int)) ∧ 0 ≤ i ∧ 0 ≤ x ∧ x < 2147483647 ∧ 1 ≤ n ∧ n < 1073741824 ∧
    ∀ (i' x' y' k : Int), 0 ≤ i' → 0 ≤ x' → x' < 2147483647 → 0 ≤ k → k < n → Q (.int k) (upd H a (.lst [.ref l, .int i', .int x', .int y'])) := by
  obtain ⟨ex, μ, evs, sto, S, p, h⟩ := h
  unfold takenF at h
  split at h
  · rename_i n
    split at h
    · rename_i hn
      obtain ⟨v, w, rfl, rv, rw'⟩ := two_of p
      obtain ⟨a, as, hμ, rfl⟩ := rv
      cases rw'
      obtain ⟨b, l, ns, i, x, y, e, hb, hl, h1, h2, h3⟩ := S.cells 0 _ _ hμ rfl
      cases e
      have hl' : ∀ H' : Hp, (∀ b u, b ≠ a → H b = some u → H' b = some u) → SqL K H' l (ns.map V.int) := fun H' k => by
        have ne : ∀ o, hf ex μ H l = some o → l ≠ a := fun o q z => (off_some q).1 (List.mem_append_right _ (by rw [z]; exact mem_flat hμ List.mem_cons_self))
        rcases hl with (q | ⟨o, q⟩) | q
        · exact .inl (.inl (k _ _ (ne _ q) (off_some q).2))
        · exact .inl (.inr ⟨o, k _ _ (ne _ q) (off_some q).2⟩)
        · exact .inr q
      refine ⟨a, l, ns, i, x, y, n, rfl, hb, hl', h1, h2, h3, hn.1, hn.2, fun i' x' y' k k1 k2 k3 k4 k5 => ?_⟩
      have P := S.put (o := .lst [.ref l, .int i', .int x', .int y']) (cell := .row) hμ List.mem_cons_self ⟨a, l, ns, i', x', y', rfl, upd_same, hl, k1, k2, k3⟩
      have q := h k.toNat (by omega) (.int k) _ P.2.keep P.1 (by
        have e : k = ((k.toNat : Nat) : Int) := by omega
        rw [← e]
        exact .int k)
      exact q
    · exact h.elim
  · exact h.elim
end Mx

set_option maxHeartbeats 4000000
namespace Mx
open PySem PySem.Spec PyProof.Rows L2

/-! ### new lists by operators -/
def OpF (K : PySem.W.Frag) (r : R2) (f : Sto → EV → EV → Option (List Dat)) : Prop := ∀ ex μ H sto x y v w ds (Q : VK), StoR K ex μ H sto → EvR (hf ex μ H) μ v x → EvR (hf ex μ H) μ w y → f sto x y = some ds →
  (∀ ws, ws.length ≤ sizeLine → RpL (hf ex μ H) ws ds → ∀ p, H p = none → Q (.ref p) (upd H p (.lst ws))) → r v w H Q
def f2 (f : Sto → EV → EV → Option (List Dat)) (a b : DE) : DF := fun env s => (a env s).bind fun x s1 => (b env s1).bind fun y s2 => R.ofOpt (f s2 x y) s2
def repF : Sto → EV → EV → Option (List Dat) := fun sto x y => match y with
  | .dat (.int k) => match view sto x with
    | some (.list a) => if wIn 9223372036854775808 k = true ∧ a.length * k.toNat ≤ sizeLine then some (List.replicate k.toNat a).flatten else none
    | _ => none
  | _ => none
def catF : Sto → EV → EV → Option (List Dat) := fun sto x y => match view sto x, view sto y with
  | some (.list a), some (.list b) => if a.length + b.length ≤ sizeLine then some (a ++ b) else none
  | _, _ => none
section
variable {K : PySem.W.Frag}
theorem of_rep : OpF K rRep repF := by
  intro ex μ H sto x y v w d Q S rx ry h q
  unfold repF at h
  split at h
  · split at h
    · rename_i e1
      split at h
      · rename_i hh
        cases h
        obtain ⟨h1, h3⟩ := hh
        obtain ⟨h1, h2⟩ := wIn_iff.mp h1
        obtain ⟨pa, va, rfl, ha, la, ra⟩ := view_items S rx e1
        cases ry
        exact ⟨pa, _, va, rfl, rfl, ha, h1, h2, by rw [ra.length]; exact h3, q _ (by rw [flat_len, ra.length]; exact h3) (ra.replicate _)⟩
      · cases h
    · cases h
  · cases h
theorem of_cat : OpF K rCat catF := by
  intro ex μ H sto x y v w d Q S rx ry h q
  unfold catF at h
  split at h
  · rename_i a b e1 e2
    split at h
    · rename_i hl
      cases h
      obtain ⟨pa, va, rfl, ha, la, ra⟩ := view_items S rx e1
      obtain ⟨pb, vb, rfl, hb, lb, rb⟩ := view_items S ry e2
      have hlen : va.length + vb.length ≤ sizeLine := by rw [ra.length, rb.length]; exact hl
      exact ⟨pa, pb, va, vb, rfl, rfl, ha, hb, hlen, q _ (by rw [List.length_append]; exact hlen) (ra.append rb)⟩
    · cases h
  · cases h
end
section
variable {X : Cx} {EQ : EK} {a b : Expr} {ma mb : DE} {pos : Pos}
theorem pf_op {op : Operator} {r : R2} {f : Sto → EV → EV → Option (List Dat)} (ho : OpR X (binaryOp op) r) (hd : OpF X.K r f) (ha : PE X a (T X.K EQ ma)) (hb : PE X b (T X.K EQ mb)) : PE X (.BinOp a op b pos) (Tf X.K EQ (f2 f ma mb)) :=
  (pe_op ho ha hb).weak fun σ H Q => by
    rintro ⟨ex, μ, env, sto, S, V, h⟩
    refine T.then S V h fun x s1 v μ1 H1 F1 S1 V1 r1 h1 => ?_
    refine T.then S1 V1 h1 fun y s2 w μ2 H2 F2 S2 V2 r2 h2 => ?_
    obtain ⟨d, e, q⟩ := R.wp_ofOpt h2
    exact hd ex μ2 H2 s2 x y v w d Q S2 (r1.fwd F2) r2 e fun ws l rr => fresh_lst (F1.trans F2) S2 rr l q
theorem pt_chn {op op' : CmpOp} {r r' : R2} {f g : Sto → EV → EV → Option Dat} {c : Expr} {mc : DE} (ho : OpR X (compareOp op) r) (ho' : OpR X (compareOp op') r') (hf : OpD X.K r f) (hg : OpD X.K r' g) (ha : PE X a (T X.K EQ ma)) (hb : PE X b (T X.K EQ mb)) (hc : PE X c (T X.K EQ mc)) (hm : lastMarks [op, op'] [b, c] = false := by rfl) : PT X (.Compare a [op, op'] [b, c] pos) (Tt X.K EQ (tru (eChain f g ma mb mc))) :=
  (pt_chain ho ho' ha hb hc hm).weak fun σ H Q q => t_chain hf hg (t_tru q)
end

/-! ### a def of the text, as others call it -/
structure DefOk (P : Program) (w : World) (K : PySem.W.Frag) (mg : Str → Option Value) (base : Heap) (x : Str) (k : Nat) (ps : List Str) (F : Fn) : Prop where
  ex : ∃ f fd, FnOk P w K mg base CX0 k f fd ps (spF K F) ∧ mg x = some (.ref f) ∧ PySem.W.keepIn K (.ref f) = true ∧ Binds K fd ps []
theorem DefOk.imp {P : Program} {w : World} {K : PySem.W.Frag} {mg : Str → Option Value} {base : Heap} {x : Str} {k : Nat} {ps : List Str} {F G : Fn} (D : DefOk P w K mg base x k ps F) (h : Refn G F) : DefOk P w K mg base x k ps G := by
  obtain ⟨f, fd, h1, h2, h3, h4⟩ := D.ex
  refine ⟨f, fd, h1.imp fun vs H Q E q => ?_, h2, h3, h4⟩
  obtain ⟨ex, μ, evs, sto, S, p, q⟩ := q
  exact ⟨ex, μ, evs, sto, S, p, h _ _ _ q⟩
theorem DefOk.mono {P : Program} {w : World} {K : PySem.W.Frag} {mg : Str → Option Value} {base : Heap} {x : Str} {j k : Nat} {ps : List Str} {F : Fn} (D : DefOk P w K mg base x j ps F) (h : j ≤ k) : DefOk P w K mg base x k ps F := by
  obtain ⟨f, fd, h1, h2, h3, h4⟩ := D.ex
  exact ⟨f, fd, h1.mono h, h2, h3, h4⟩
section
variable {X : Cx} {EQ : EK} {j k : Nat} {ps : List Str} {F : Fn} {x : Str} {p pos : Pos} {e : Expr} {es : List Expr} {m : DA}
theorem pe_k0 (D : DefOk X.prog X.w X.K X.mg X.base x k ps F) (hr : Room j X.A) (ha : PA X (e :: es) (Ta X.K EQ m)) (hj : k ≤ j := by decide) (hg : Gl X x := by rfl) (hdb : (x == ("__debug__" : Str)) = false := by decide)
    (he : starEach (e :: es) X.env = (false, eval e X.env) :: starEach es X.env := by rfl) (hpl : (backTo pos (starEach es X.env)).any (·.1) = false := by rfl) : PE X (.Call (.Name x p) (e :: es) [] pos) (T X.K EQ (eCall0 F m)) := by
  obtain ⟨f, fd, h1, h2, h3, h4⟩ := D.ex
  exact pe_c0 h1 (hr.mono hj) hg h2 h3 h4 ha hdb he hpl
theorem pe_k1 (D : DefOk X.prog X.w X.K X.mg X.base x k ps F) (hr : Room j X.A) (ha : PA X (e :: es) (Ta X.K EQ m)) (hj : k ≤ j := by decide) (hg : Gl X x := by rfl) (hdb : (x == ("__debug__" : Str)) = false := by decide)
    (he : starEach (e :: es) X.env = (false, eval e X.env) :: starEach es X.env := by rfl) (hpl : (backTo pos (starEach es X.env)).any (·.1) = false := by rfl) : PE X (.Call (.Name x p) (e :: es) [] pos) (T X.K EQ (eCall1 F m)) := by
  obtain ⟨f, fd, h1, h2, h3, h4⟩ := D.ex
  exact pe_c1 h1 (hr.mono hj) hg h2 h3 h4 ha hdb he hpl
end
/-- the built-in names that the text leaves as they are -/
structure Bt (mg : Str → Option Value) : Prop where
  isinstance : mg "isinstance" = none
  int : mg "int" = none
  bool : mg "bool" = none
  str : mg "str" = none
  tuple : mg "tuple" = none
  list : mg "list" = none
  set : mg "set" = none
  len : mg "len" = none
  range : mg "range" = none
  enumerate : mg "enumerate" = none
  zip : mg "zip" = none
  sorted : mg "sorted" = none
  all : mg "all" = none
  any : mg "any" = none
  sum : mg "sum" = none
  max : mg "max" = none
  min : mg "min" = none
  abs : mg "abs" = none
  reversed : mg "reversed" = none

/-! ### the law -/
def spLaw (K : PySem.W.Frag) : Sp := fun vs H Q _ => ∃ (a : Addr) (ns : List Int), vs = [.ref a] ∧ SqL K H a (ns.map V.int) ∧ ns.length ≤ 63 ∧ ∀ H', Q (.bl true) H'
def isTrueR : Out → Sto → Prop := fun o _ => o = .ret (.dat (.bool true))
theorem law_read {K : PySem.W.Frag} {EQ : EK} {m : DS} {σ : L2.St} {H : Hp} {D : Ends} {a : Addr} {ns : List Int} {r : Nat} {x0 : Int} (h0 : σ[0]? = some (some (.ref a))) (hs : SqL K H a (ns.map V.int)) (hx : 0 ≤ x0 ∧ x0 < 2147483647)
    (hw : (m ((List.replicate σ.length none).set r (some (.ref 0))) [.row]).wp isTrueR noE) (hD : ∀ H', D.rt (.bl true) H') :
    tSeq (tAsg (tLst (tCons (tVar 0) (tCons (tC (.int 0)) (tCons (tC (.int x0)) (tCons (tC (.int 0)) tNil))))) (gName r)) (Ts K EQ m) D σ H := by
  refine ⟨_, h0, by show 4 ≤ sizeLine; decide, fun p hp => ?_⟩
  have hap : ∀ o, H a = some o → (upd H p (.lst [.ref a, .int 0, .int x0, .int 0])) a = some o ∧ a ∉ ([] : List Addr) ++ [[p]].flatten := fun o q => ⟨by rw [upd_ne (ne_of_none q hp)]; exact q, by simp; exact ne_of_none q hp⟩
  refine ⟨[], [[p]], _, [.row], ⟨by simp, rfl, fun i as c h1 h2 => ?_, (fun b hb => (List.not_mem_nil hb).elim), (fun b hb => (List.not_mem_nil hb).elim)⟩, ⟨by simp, fun i e q => ?_⟩, R.wp_mono (fun o s q => ?_) (fun _ _ z => z.elim) _ hw⟩
  · cases i with
    | zero =>
      simp at h1 h2
      subst h1
      subst h2
      refine ⟨p, a, ns, 0, x0, 0, rfl, upd_same, ?_, by omega, hx.1, hx.2⟩
      rcases hs with (q | ⟨o, q⟩) | q
      · exact .inl (.inl (off_of (hap _ q).1 (hap _ q).2))
      · exact .inl (.inr ⟨o, off_of (hap _ q).1 (hap _ q).2⟩)
      · exact .inr q
    | succ i => simp at h1
  · by_cases hi : r = i
    · subst hi
      have hl : r < σ.length := by
        have := (List.getElem?_eq_some_iff.mp q).1
        simpa using this
      rw [List.getElem?_set_self (by simpa using hl)] at q
      cases q
      exact ⟨.ref p, by rw [List.getElem?_set_self hl], p, [], rfl, rfl⟩
    · rw [List.getElem?_set_ne hi] at q
      have := List.mem_of_getElem? q
      have := List.eq_of_mem_replicate this
      cases this
  · have e : o = .ret (.dat (.bool true)) := q
    subst e
    intro μ' v H' _ _ rv
    cases rv
    exact hD H'
end Mx
theorem Mx.u65 {A : PySem.Around} {k : Nat} (r : L2.Room k A) : A.units + 65 < PySem.cLine := by
  have := r.un
  omega
theorem Mx.u9 {A : PySem.Around} {k : Nat} (r : L2.Room k A) : A.units + 9 < PySem.cLine := by
  have := Mx.u65 r
  omega

namespace Mx
open PySem PySem.Spec PyProof.Rows L2
section
variable {X : Cx} {EQ : EK}
theorem ps_setDc {i : Nat} {y : Str} {py : Pos} {kx vx tg iter : Expr} {ifs : List Expr} {scope : Scope} {own : List (Str × Nat)} {pos spos : Pos} {wi : TI} {g : TG} {tt : TT} {tk tv : TE} (hc : X.calm = true) (hN : X.N.Nodup) (hy : X.N[i]? = some y) (hyl : X.env.scope.names.lookup y = some .local)
    (hsw : swapsWith (.DictComp kx vx [⟨tg, iter, ifs, 0⟩] scope pos) (some (.Name y py)) spos.line X.env = pure true) (hi : PI X tg iter wi) (ok : BlkOk X.N X.env.scope scope own)
    (hg : ∀ (s : Shared) (H : Hp) (C : Addr) (cl : List (Str × Addr)) (fp : List Addr), PG (X.blk s H scope (compEnvC scope cl C X.env) fp) tg g) (ht : ∀ (s : Shared) (H : Hp) (C : Addr) (cl : List (Str × Addr)) (fp : List Addr), PTs (X.blk s H scope (compEnvC scope cl C X.env) fp) ifs tt)
    (hk : ∀ (s : Shared) (H : Hp) (C : Addr) (cl : List (Str × Addr)) (fp : List Addr), PE (X.blk s H scope (compEnvC scope cl C X.env) fp) kx tk)
    (he : ∀ (s : Shared) (H : Hp) (C : Addr) (cl : List (Str × Addr)) (fp : List Addr), PE (X.blk s H scope (compEnvC scope cl C X.env) fp) vx tv) (hs : ∀ x, foldedSetIterable iter X.env x = pure x) :
    PS X (.Assign [.Name y py] (.DictComp kx vx [⟨tg, iter, ifs, 0⟩] scope pos) spos) (tAsg (tDc wi g tt tk tv (own.map (·.2))) (gName i)) := by
  refine ⟨fun pins s σ H D I h => ?_⟩
  rw [exec_Assign_Name_used _ _ _ _ hsw]
  refine wpAny_bind (wpAny_standAt (wpAny_bind ?_))
  show wpAny _ X.A (do let _ ← comprehension (.DictComp kx vx [⟨tg, iter, ifs, 0⟩] scope pos) scope X.env (firstIterPos [⟨tg, iter, ifs, 0⟩] pos) newDict false (eval iter X.env) (some (assign (.Name y py) X.env))) _ _ s
  have h : tDc wi g tt tk tv (own.map (·.2)) σ H (fun x H1 => gName i x σ H1 D.nx) := h
  refine wpAny_bind (thn (dc_core (Qf := fun _ s' => SP X pins D .next s') hc hN I hi ok hg ht hk he hs h fun L C s' m H' I' q hn f => ?_) fun _ s' hq => wpAny_pure (wpAny_pure hq))
  show wpAny _ _ (assign (.Name y py) X.env (.ref L)) _ _ _
  refine wpAny_assign_Name (store_ok2 (v := V.ref L) I' hN hy (.inl hyl) rfl (fun s2 I2 ⟨a, sb, ha⟩ => ?_) (.inr hyl))
  obtain ⟨f0, f1, f2, f3, f4, f5⟩ := f
  have haC : C ≠ a := by
    rcases ha with z | z
    · rw [z]; exact f1
    · exact fun e => f4 y a z e.symm
  refine ⟨m, hn.sameBut sb haC, fun h3 sb3 => ?_⟩
  exact ⟨_, H', I2.turned (t' := s2.toks) (fun b o hb e => (sb3.2 b hb).trans e) f0 f1 f3 f4 f5, q⟩
theorem sw_trueD {kx vx : Expr} {gs : List Comprehension} {scope : Scope} {pos py : Pos} {y : Str} {l : Nat} {env : PySem.Env} (hk : env.scope.kind = .function) (hy : env.scope.names.lookup y = some .local) (hl : (py.line == pos.line) = true)
    (ha : (scope.names.any fun (n, k) => n == y && (k == .local || k == .cell)) = false) : swapsWith (.DictComp kx vx gs scope pos) (some (.Name y py)) l env = pure true := by
  have ky : env.kindOf y = some .local := hy
  have hb : env.blockKind = .function := by unfold PySem.Env.blockKind; rw [hk]; rfl
  unfold swapsWith
  simp only [hb, ky, ha, Expr.pos, hl]
  rfl
theorem st_setDc (i : Nat) {y : Str} {py : Pos} {kx vx tg iter : Expr} {ifs : List Expr} {scope : Scope} {own : List (Str × Nat)} {pos spos : Pos} {src : DI} {g : DG} {tt : DT} {mk mv : DE} (hc : X.calm = true) (hN : X.N.Nodup) (hi : PI X tg iter (Ti X.K EQ src)) (ok : BlkOk X.N X.env.scope scope own)
    (hg : ∀ (s : Shared) (H : Hp) (C : Addr) (cl : List (Str × Addr)) (fp : List Addr), PG (X.blk s H scope (compEnvC scope cl C X.env) fp) tg (Tg g (own.map (·.2)))) (ht : ∀ (s : Shared) (H : Hp) (C : Addr) (cl : List (Str × Addr)) (fp : List Addr), PTs (X.blk s H scope (compEnvC scope cl C X.env) fp) ifs (Tt X.K EQ tt))
    (hk : ∀ (s : Shared) (H : Hp) (C : Addr) (cl : List (Str × Addr)) (fp : List Addr), PE (X.blk s H scope (compEnvC scope cl C X.env) fp) kx (T X.K EQ mk))
    (he : ∀ (s : Shared) (H : Hp) (C : Addr) (cl : List (Str × Addr)) (fp : List Addr), PE (X.blk s H scope (compEnvC scope cl C X.env) fp) vx (T X.K EQ mv))
    (hy : X.N[i]? = some y := by rfl) (hyl : X.env.scope.names.lookup y = some .local := by rfl) (hsw : swapsWith (.DictComp kx vx [⟨tg, iter, ifs, 0⟩] scope pos) (some (.Name y py)) spos.line X.env = pure true := by exact sw_trueD rfl rfl rfl (by decide +kernel)) (hs : ∀ x, foldedSetIterable iter X.env x = pure x := by intro _; rfl) :
    PS X (.Assign [.Name y py] (.DictComp kx vx [⟨tg, iter, ifs, 0⟩] scope pos) spos) (Ts X.K EQ (sSet i (eDc src (own.map (·.2)) g tt mk mv))) :=
  (ps_setDc hc hN hy hyl hsw hi ok hg ht hk he hs).weak fun D σ H h => t_dc (ts_set h)
end
def neverF : Fn := fun _ _ => .fail
theorem ok_never {P : Program} {w : World} {K : PySem.W.Frag} {mg : Str → Option Value} {base : Heap} {x qual : Str} {st : Stmt} {f : Addr} {fd : FuncData} {N ps : List Str} (F : Fun K x qual st f fd) (S : FnScope N ps (defScope st)) (hm : mg x = some (.ref f)) (hb : Binds K fd ps []) : DefOk P w K mg base x 1 ps neverF := by
  refine ⟨f, fd, ?_, hm, F.kp, hb⟩
  refine F.ok (k := 0) S (fun vs H Q E h => ?_) (fun cdv A outer s H vs Q E hr h => ?_)
  · obtain ⟨_, _, _, _, _, _, h⟩ := h
    exact h.elim
  · obtain ⟨_, _, _, _, _, _, h⟩ := h
    exact h.elim
end Mx

/-! o[i] += e, of a list of ints -/
namespace Mx
open PySem PySem.Spec PyProof.Rows L2
def rGetL (K : PySem.W.Frag) : V → V → Hp → VK → Prop := fun x y H Q => rIxL K x y H Q
theorem get_listA {X : Cx} : PGet X (rGetL X.K) := by
  intro pins s σ H x y v u Q I rx ry h
  obtain ⟨p, xs, i, z, rfl, rfl, hq, he, q⟩ := h
  cases rx
  obtain ⟨t, rfl⟩ := ry
  obtain ⟨its, r, pl, hz⟩ := I.list hq
  obtain ⟨j, h1, h2, h3, h4, h5⟩ := atI_get he
  obtain ⟨w, ew, rw'⟩ := r.get h2
  have hl := r.length
  have hn := line63
  have fin : EP X pins σ Q w s := ⟨z, H, I, rw', q⟩
  by_cases h0 : 0 ≤ i
  · have hj : i.toNat = j := by
      rw [seqIndex_of h0 h5] at h1
      exact Option.some.inj h1
    exact wpAny_getItem_list pl.isList h0 (by omega) (by rw [hj]; simpa using ew) fin
  · have hj : (i + (its.toArray.size : Int)).toNat = j := by
      rw [seqIndex_neg (by omega) h4] at h1
      rw [List.size_toArray, ← hl]
      exact Option.some.inj h1
    exact wpAny_getItem_list_neg pl.isList (by omega) (by rw [List.size_toArray] <;> omega) (by omega) (by rw [hj]; simpa using ew) fin
def sAugL (f : Int → Int → Int) (o i e : DE) : DS := fun env s => (o env s).bind fun x s1 => (i env s1).bind fun y s2 => match x, y with
  | .ref c, .dat (.int k) => match s2[c]? with
    | some (.lst ys) => match atI ys k with
      | some (.int a) => (e env s2).bind fun z s3 => match z, s3[c]? with
        | .dat (.int b), some (.lst zs) => match ixN zs.length k with
          | some j => .ok (.nx env) (s3.set c (.lst (zs.set j (.int (f a b)))))
          | none => .fail
        | _, _ => .fail
      | _ => .fail
    | _ => .fail
  | _, _ => .fail
section
variable {X : Cx} {EQ : EK} {o i e : Expr} {mo mi me : DE} {pos tpos : Pos}
theorem st_augL {op : Operator} {f : Int → Int → Int} (hp : PIp X op (ipI f)) (ho : PE X o (T X.K EQ mo)) (hi : PE X i (T X.K EQ mi)) (he : PE X e (T X.K EQ me))
    (ha : ∀ ov iv new, augStore i ov iv new = (do holding [new, ov, iv] (setItem ov iv new); release [new, ov, iv] []; pure .next) := by intros; rfl) :
    PS X (.AugAssign (.Subscript o i tpos) op e pos) (Ts X.K EQ (sAugL f mo mi me)) := (ps_augS ho hi get_listA he hp set_list ha).weak fun D σ H => by
  rintro ⟨ex, μ, env, sto, S, V, h⟩
  refine T.then S V h fun x s1 u μ1 H1 F1 S1 V1 r1 h1 => ?_
  refine T.then S1 V1 h1 fun y s2 t μ2 H2 F2 S2 V2 r2 h2 => ?_
  split at h2
  · rename_i c k
    split at h2
    · rename_i ys hs
      split at h2
      · rename_i a hat
        cases r2
        obtain ⟨p, as, hμ, rfl⟩ := r1.fwd F2
        obtain ⟨b, vs, eas, hb, l, rr⟩ := S2.cells _ _ _ hμ hs
        cases eas
        obtain ⟨w, hw, rw'⟩ := atI_rp rr hat
        cases rw'
        refine ⟨p, vs, k, _, rfl, rfl, SqL.of hb, hw, ?_⟩
        refine T.then S2 V2 h2 fun z s3 q μ3 H3 F3 S3 V3 r3 h3 => ?_
        split at h3
        · rename_i n zs hz
          split at h3
          · rename_i j hj
            cases r3
            obtain ⟨p', as', hμ', e'⟩ := (show EvR (hf ex μ2 H2) μ2 (L2.V.ref p) (.ref c) from ⟨p, _, hμ, rfl⟩).fwd F3
            cases e'
            obtain ⟨b', vs', eas', hb', l', rr'⟩ := S3.cells _ _ _ hμ' hz
            cases eas'
            refine ⟨a, n, rfl, rfl, ?_⟩
            have P := S3.put (o := .lst (vs'.set j (L2.V.int (f a n)))) (cell := .lst (zs.set j (.int (f a n)))) hμ' List.mem_cons_self ⟨p, vs'.set j (L2.V.int (f a n)), rfl, upd_same, by rw [List.length_set]; exact l', RpL.set (.int _) j rr'⟩
            exact ⟨p, vs', k, j, rfl, rfl, hb', by rw [rr'.length]; exact hj, h3 μ3 σ _ (((F1.trans F2).trans F3).trans P.2).fwd P.1 (V3.fwd P.2)⟩
          · exact h3.elim
        · exact h3.elim
      · exact h2.elim
    · exact h2.elim
  · exact h2.elim
end
end Mx

set_option maxHeartbeats 4000000
namespace Mx
open PySem PySem.Spec PyProof.Rows L2

/-! ### comprehensions with two fors -/
def lc2Go (g : DG) (ifs : DT) (src1 : DI) (own1 : List Nat) (g1 : DG) (ifs1 : DT) (elt : DE) (env : Env) : List Dat → Sto → R (List Dat)
  | [], s => .ok [] s
  | x :: xs, s => match g env x with
    | some env1 => (ifs env1 s).bind fun b s1 => if b = true then (src1 env1 s1).bind fun items s2 => if Nat.ble items.length 4096 = true then
          (lcGo g1 ifs1 elt (wipeE env1 own1) items s2).bind fun r1 s3 => (lc2Go g ifs src1 own1 g1 ifs1 elt env xs s3).bind fun r s4 => .ok (r1 ++ r) s4
        else .fail
      else lc2Go g ifs src1 own1 g1 ifs1 elt env xs s1
    | none => .fail
def fLc2 (src : DI) (own : List Nat) (g : DG) (ifs : DT) (src1 : DI) (own1 : List Nat) (g1 : DG) (ifs1 : DT) (elt : DE) : DF := fun env s => (src env s).bind fun items s1 => if Nat.ble items.length 4096 = true then lc2Go g ifs src1 own1 g1 ifs1 elt (wipeE env own) items s1 else .fail
theorem line24 : 4096 * 4096 ≤ sizeLine := by decide +kernel
section
variable {X : Cx} {EQ : EK} {σ : L2.St} {H : Hp}
theorem t_lc2 {src src1 : DI} {own own1 : List Nat} {g g1 : DG} {ifs ifs1 : DT} {elt : DE} {Q : VK} : Tf X.K EQ (fLc2 src own g ifs src1 own1 g1 ifs1 elt) σ H Q →
    tLc2 (Ti X.K EQ src) (Tg g own) (Tt X.K EQ ifs) (Ti X.K EQ src1) (Tg g1 own1) (Tt X.K EQ ifs1) (T X.K EQ elt) own own1 σ H Q := by
  rintro ⟨ex, μ, env, sto, S, V, h⟩
  refine ⟨ex, μ, env, sto, S, V, R.wp_mono (fun items s0 h0 J μ1 H1 F1 S1 sr => ?_) (fun _ _ z => z) _ ((R.wp_bind _).mp h)⟩
  intro D hD
  have hD0 : H D = none := F1.back S1 hD
  have nDex : D ∉ ex := out_ex S hD0
  by_cases hb : Nat.ble items.length 4096 = true
  case neg => rw [if_neg hb] at h0; exact h0.elim
  rw [if_pos hb] at h0
  have hlen : items.length ≤ 4096 := Nat.le_of_ble_eq_true hb
  let post : List Dat → Sto → Prop := fun ds s' => ∀ p vs μ' H', FwdE μ H μ' H' → StoR X.K (p :: ex) μ' H' s' → H p = none → H' p = some (.lst vs) → vs.length ≤ sizeLine → RpL (hf (p :: ex) μ' H') vs ds → Q (.ref p) H'
  let W : Nat → Nat → Hp → Prop := fun i k H' => ∃ μ' s' acc vs, i + k = items.length ∧ FwdE μ H μ' H' ∧ Sub (hf ex μ1 H1) (hf (D :: ex) μ' H') ∧ StoR X.K (D :: ex) μ' H' s' ∧ EnvR (hf (D :: ex) μ' H') μ' (wipe σ own) (wipeE env own) ∧ H' D = some (.lst vs) ∧ RpL (hf (D :: ex) μ' H') vs acc ∧ vs.length ≤ i * 4096 ∧
    (lc2Go g ifs src1 own1 g1 ifs1 elt (wipeE env own) (items.drop i) s').wp (fun r s => post (acc ++ r) s) (ePost X.K EQ ex μ H)
  refine ⟨W, ⟨items.length, μ1, s0, [], [], by omega, F1.trans (S1.laid hD).2, ?_, S1.laidX hD, (V.fwdX (F1.trans (S1.laid hD).2) hD0).wipe own, upd_same, .nil, by simp, ?_⟩, fun i k H' hW => ?_⟩
  · exact (S1.laid (o := .lst []) hD).2.fwd.subX hD
  · rw [List.drop_zero]
    exact R.wp_mono (fun r s q => by rw [List.nil_append]; exact q) (fun _ _ z => z) _ h0
  · obtain ⟨μ', s', acc, vs, hk, F, sub, S', V', hl, rr, hvl, hw⟩ := hW
    have subH : Sub (hf ex μ1 H1) H' := sub.trans (off_sub _ _)
    by_cases hi : i < items.length
    · refine .inr ⟨sr.goes i H' hi subH, fun H2 => W (i + 1) (k - 1) H2, fun H2 q => ⟨k - 1, by omega, q⟩, fun x H2 hy => ?_⟩
      rw [List.drop_eq_getElem_cons hi] at hw
      unfold lc2Go at hw
      split at hw
      · rename_i env1 he1
        have item : ∃ (μ2 : Mu), FwdE μ' H' μ2 H2 ∧ StoR X.K (D :: ex) μ2 H2 s' ∧ Rp (hf (D :: ex) μ2 H2) x items[i] ∧ H2 D = some (.lst vs) := by
          rcases sr.yields i H' x H2 _ (List.getElem?_eq_getElem hi) subH hy with ⟨rfl, rx⟩ | ⟨t, ws, ds, rfl, ht, rfl, hd, lw, rw'⟩
          · exact ⟨μ', .refl _ _, S', rx.mono sub, hl⟩
          · have L := S'.laid (o := .tup ws) ht
            refine ⟨μ', L.2, L.1, ?_, by rw [upd_ne (ne_of_none hl ht)]; exact hl⟩
            rw [hd]
            exact .tup (S'.at_new ht) lw ((rw'.mono sub).mono L.2.fwd.sub)
        obtain ⟨μ2, F2, S2, rx, hl2⟩ := item
        have V2 := V'.fwd F2
        refine ⟨D :: ex, μ2, wipeE env own, items[i], V2, rx, env1, he1, fun σ2 V3 hwp => ⟨hwp.trans (wipe_wipe _ _), ?_⟩⟩
        refine ⟨D :: ex, μ2, env1, s', S2, V3, R.wp_mono (fun b s3 q μ3 H3 F3 S3 => ?_) (fun e s q μ3 H3 F3 S3 => q μ3 H3 ((F.trans F2).fwd.trans F3) S3.less) _ ((R.wp_bind _).mp hw)⟩
        have hl3 : H3 D = some (.lst vs) := F3.keep D _ (S2.dis D List.mem_cons_self) hl2
        have rr3 := (rr.mono F2.fwd.sub).mono F3.fwd.sub
        have F03 : FwdE μ H μ3 H3 := (F.trans F2).trans F3
        have sub3 : Sub (hf ex μ1 H1) (hf (D :: ex) μ3 H3) := (sub.trans F2.fwd.sub).trans F3.fwd.sub
        cases b with
        | false => exact iteF ⟨μ3, s3, acc, vs, by omega, F03, sub3, S3, V2.fwd F3, hl3, rr3, by omega, q⟩
        | true =>
          rw [if_pos rfl] at q
          refine iteT ⟨D :: ex, μ3, env1, s3, S3, V3.fwd F3, R.wp_mono (fun items1 s4 q J1 μ4 H4 F4 S4 sr1 => ?_) (fun e s q μ4 H4 F4 S4 => q μ4 H4 (F03.fwd.trans F4) S4.less) _ ((R.wp_bind _).mp q)⟩
          by_cases hb1 : Nat.ble items1.length 4096 = true
          case neg => rw [if_neg hb1] at q; exact q.elim
          rw [if_pos hb1] at q
          have hlen1 : items1.length ≤ 4096 := Nat.le_of_ble_eq_true hb1
          have F04 : FwdE μ H μ4 H4 := F03.trans F4
          have hl4 : H4 D = some (.lst vs) := F4.keep D _ (S3.dis D List.mem_cons_self) hl3
          have q4 := (R.wp_bind _).mp q
          let W1 : Nat → Nat → Hp → Prop := fun j k1 H' => ∃ μ' s' acc1 vs1, j + k1 = items1.length ∧ FwdE μ H μ' H' ∧ EnvR (hf (D :: ex) μ' H') μ' (wipe σ own) (wipeE env own) ∧ Sub (hf ex μ1 H1) (hf (D :: ex) μ' H') ∧ Sub (hf (D :: ex) μ4 H4) (hf (D :: ex) μ' H') ∧ StoR X.K (D :: ex) μ' H' s' ∧ EnvR (hf (D :: ex) μ' H') μ' (wipe σ2 own1) (wipeE env1 own1) ∧ H' D = some (.lst vs1) ∧ RpL (hf (D :: ex) μ' H') vs1 acc1 ∧ vs1.length ≤ i * 4096 + j ∧
            (lcGo g1 ifs1 elt (wipeE env1 own1) (items1.drop j) s').wp (fun r1 s => ((lc2Go g ifs src1 own1 g1 ifs1 elt (wipeE env own) (items.drop (i + 1)) s).bind fun r s4 => R.ok (r1 ++ r) s4).wp (fun r s => post (acc1 ++ r) s) (ePost X.K EQ ex μ H)) (ePost X.K EQ ex μ H)
          refine ⟨W1, ⟨items1.length, μ4, s4, acc, vs, by omega, F04, (V2.fwd F3).fwd F4, sub3.trans F4.fwd.sub, Sub.refl _, S4, (V3.fwd (F3.trans F4)).wipe own1, hl4, rr3.mono F4.fwd.sub, by omega, by rw [List.drop_zero]; exact q4⟩, fun j k1 H5 hW1 => ?_⟩
          obtain ⟨μ5, s5, acc5, vs5, hk5, F5, VO5, sub5, sub45, S5, V5, hl5, rr5, hvl5, hw5⟩ := hW1
          have subH5 : Sub (hf (D :: ex) μ4 H4) H5 := sub45.trans (off_sub _ _)
          by_cases hj : j < items1.length
          · refine .inr ⟨sr1.goes j H5 hj subH5, fun H6 => W1 (j + 1) (k1 - 1) H6, fun H6 q => ⟨k1 - 1, by omega, q⟩, fun y H6 hy1 => ?_⟩
            rw [List.drop_eq_getElem_cons hj] at hw5
            unfold lcGo at hw5
            split at hw5
            · rename_i env2 he2
              have item1 : ∃ (μ6 : Mu), FwdE μ5 H5 μ6 H6 ∧ StoR X.K (D :: ex) μ6 H6 s5 ∧ Rp (hf (D :: ex) μ6 H6) y items1[j] ∧ H6 D = some (.lst vs5) := by
                rcases sr1.yields j H5 y H6 _ (List.getElem?_eq_getElem hj) subH5 hy1 with ⟨rfl, rx⟩ | ⟨t, ws, ds, rfl, ht, rfl, hd, lw, rw'⟩
                · exact ⟨μ5, .refl _ _, S5, rx.mono sub45, hl5⟩
                · have L := S5.laid (o := .tup ws) ht
                  refine ⟨μ5, L.2, L.1, ?_, by rw [upd_ne (ne_of_none hl5 ht)]; exact hl5⟩
                  rw [hd]
                  exact .tup (S5.at_new ht) lw ((rw'.mono sub45).mono L.2.fwd.sub)
              obtain ⟨μ6, F6, S6, ry, hl6⟩ := item1
              have V6 := V5.fwd F6
              refine ⟨D :: ex, μ6, wipeE env1 own1, items1[j], V6, ry, env2, he2, fun σ3 V7 hwp1 => ⟨hwp1.trans (wipe_wipe _ _), ?_⟩⟩
              refine ⟨D :: ex, μ6, env2, s5, S6, V7, R.wp_mono (fun b s7 q μ7 H7 F7 S7 => ?_) (fun e s q μ7 H7 F7 S7 => q μ7 H7 ((F5.trans F6).fwd.trans F7) S7.less) _ ((R.wp_bind _).mp hw5)⟩
              have hl7 : H7 D = some (.lst vs5) := F7.keep D _ (S6.dis D List.mem_cons_self) hl6
              have rr7 := (rr5.mono F6.fwd.sub).mono F7.fwd.sub
              have F07 : FwdE μ H μ7 H7 := (F5.trans F6).trans F7
              have VO7 := (VO5.fwd F6).fwd F7
              have sub7 := (sub5.trans F6.fwd.sub).trans F7.fwd.sub
              have sub47 := (sub45.trans F6.fwd.sub).trans F7.fwd.sub
              cases b with
              | false => exact iteF ⟨μ7, s7, acc5, vs5, by omega, F07, VO7, sub7, sub47, S7, V6.fwd F7, hl7, rr7, by omega, q⟩
              | true =>
                rw [if_pos rfl] at q
                refine iteT ⟨D :: ex, μ7, env2, s7, S7, V7.fwd F7, R.wp_mono (fun y2 s8 q v μ8 H8 F8 S8 r8 => ?_) (fun e s q μ8 H8 F8 S8 => q μ8 H8 (F07.fwd.trans F8) S8.less) _ ((R.wp_bind _).mp q)⟩
                have hl8 : H8 D = some (.lst vs5) := F8.keep D _ (S7.dis D List.mem_cons_self) hl7
                cases y2 with
                | ref j => exact q.elim
                | dat d =>
                  have O := S8.over (o := .lst (vs5 ++ [v])) (D := D) List.mem_cons_self
                  have F08 : FwdE μ H μ8 H8 := F07.trans F8
                  refine ⟨vs5, hl8, ?_, μ8, s8, acc5 ++ [d], vs5 ++ [v], by omega, ?_, ?_, ?_, ?_, O.1, ?_, upd_same, ?_, by simp; omega, ?_⟩
                  · have hm : i * 4096 + 4096 ≤ 4096 * 4096 := by
                      have : (i + 1) * 4096 ≤ 4096 * 4096 := Nat.mul_le_mul_right _ (by omega)
                      omega
                    have := line24
                    omega
                  · refine ⟨fun a o n e => ?_, F08.fresh, F08.ext⟩
                    rw [upd_ne (ne_of_none e hD0)]
                    exact F08.keep a o n e
                  · rw [O.2]
                    exact VO7.fwd F8
                  · rw [O.2]
                    exact sub7.trans F8.fwd.sub
                  · rw [O.2]
                    exact sub47.trans F8.fwd.sub
                  · rw [O.2]
                    exact (V6.fwd F7).fwd F8
                  · rw [O.2]
                    exact (rr7.mono F8.fwd.sub).snoc r8
                  · refine R.wp_mono (fun r s z => ?_) (fun _ _ z => z) _ ((R.wp_bind _).mp q)
                    have z' := (R.wp_bind _).mp z
                    refine (R.wp_bind _).mpr (R.wp_mono (fun r' s' z2 => ?_) (fun _ _ z => z) _ z')
                    have z3 : post (acc5 ++ (d :: r ++ r')) s' := z2
                    have : acc5 ++ [d] ++ (r ++ r') = acc5 ++ (d :: r ++ r') := by simp
                    show post (acc5 ++ [d] ++ (r ++ r')) s'
                    rw [this]
                    exact z3
            · exact hw5.elim
          · have hj' : j = items1.length := by omega
            subst hj'
            refine .inl ⟨sr1.stops H5 subH5, ?_⟩
            rw [List.drop_length] at hw5
            have hw6 := (R.wp_bind _).mp hw5
            refine ⟨μ5, s5, acc5, vs5, by omega, F5, sub5, S5, VO5, hl5, rr5, by omega, ?_⟩
            refine R.wp_mono (fun r s z => ?_) (fun _ _ z => z) _ hw6
            exact z
      · exact hw.elim
    · have hi' : i = items.length := by omega
      subst hi'
      refine .inl ⟨sr.stops H' subH, ?_⟩
      rw [List.drop_length] at hw
      have hp : post (acc ++ []) s' := hw
      rw [List.append_nil] at hp
      refine hp D vs μ' H' F S' hD0 hl ?_ rr
      have hm : items.length * 4096 ≤ 4096 * 4096 := Nat.mul_le_mul_right _ hlen
      have := line24
      omega
end
end Mx

set_option maxHeartbeats 4000000
namespace Mx
open PySem PySem.Spec PyProof.Rows L2

/-! ### the order of data -/
mutual
def ltD : Dat → Dat → Bool
  | .int a, .int b => decide (a < b)
  | .tuple xs, .tuple ys => ltL xs ys
  | _, _ => false
def ltL : List Dat → List Dat → Bool
  | [], [] => false
  | [], _ :: _ => true
  | _ :: _, [] => false
  | x :: xs, y :: ys => if PyData.eqv x y = true then ltL xs ys else ltD x y
end

mutual
def itD : Dat → Bool
  | .int _ => true
  | .tuple xs => itL xs
  | _ => false
def itL : List Dat → Bool
  | [] => true
  | x :: xs => itD x && itL xs
end
mutual
theorem ltD_eq : ∀ (x y : Dat), itD x = true → PySem.W.alike x y = true → PySem.W.dataLt x y = ltD x y
  | .int a, .int b, _, _ => by rw [PySem.W.dataLt_int, ltD]
  | .tuple xs, .tuple ys, h, a => by
    rw [PySem.W.dataLt_tuple, ltD]
    exact ltL_eq xs ys (by simpa [itD] using h) (by simpa [PySem.W.alike] using a)
  | .int _, .none, _, a => by simp [PySem.W.alike] at a
  | .int _, .bool _, _, a => by simp [PySem.W.alike] at a
  | .int _, .str _, _, a => by simp [PySem.W.alike] at a
  | .int _, .list _, _, a => by simp [PySem.W.alike] at a
  | .int _, .tuple _, _, a => by simp [PySem.W.alike] at a
  | .int _, .dict _, _, a => by simp [PySem.W.alike] at a
  | .tuple _, .none, _, a => by simp [PySem.W.alike] at a
  | .tuple _, .bool _, _, a => by simp [PySem.W.alike] at a
  | .tuple _, .str _, _, a => by simp [PySem.W.alike] at a
  | .tuple _, .list _, _, a => by simp [PySem.W.alike] at a
  | .tuple _, .int _, _, a => by simp [PySem.W.alike] at a
  | .tuple _, .dict _, _, a => by simp [PySem.W.alike] at a
  | .none, _, h, _ => by simp [itD] at h
  | .bool _, _, h, _ => by simp [itD] at h
  | .str _, _, h, _ => by simp [itD] at h
  | .list _, _, h, _ => by simp [itD] at h
  | .dict _, _, h, _ => by simp [itD] at h
theorem ltL_eq : ∀ (xs ys : List Dat), itL xs = true → PySem.W.alikeAll xs ys = true → PyProof.Rows.lexLt PyProof.Rows.itemOrd (PySem.W.keyToksAll xs) (PySem.W.keyToksAll ys) = ltL xs ys
  | [], [], _, _ => by rw [ltL]; rfl
  | [], y :: ys, _, _ => by rw [ltL]; rfl
  | x :: xs, [], _, _ => by rw [ltL]; rfl
  | x :: xs, y :: ys, h, a => by
    obtain ⟨a1, a2⟩ := PySem.W.alike_all_cons a
    rw [itL, Bool.and_eq_true] at h
    rw [PySem.W.dataLt_cons a1, ltL, ltL_eq xs ys h.2 a2, ltD_eq x y h.1 a1]
end
mutual
theorem eqv_same : ∀ (x y : Dat), itD x = true → PySem.W.alike x y = true → PyData.eqv x y = true → x = y
  | .int a, .int b, _, _, e => by
    have : a = b := by simpa [PyData.eqv] using e
    rw [this]
  | .tuple xs, .tuple ys, h, a, e => by
    rw [eqvL_same xs ys (by simpa [itD] using h) (by simpa [PySem.W.alike] using a) (by simpa [PyData.eqv] using e)]
  | .int _, .none, _, a, _ => by simp [PySem.W.alike] at a
  | .int _, .bool _, _, a, _ => by simp [PySem.W.alike] at a
  | .int _, .str _, _, a, _ => by simp [PySem.W.alike] at a
  | .int _, .list _, _, a, _ => by simp [PySem.W.alike] at a
  | .int _, .tuple _, _, a, _ => by simp [PySem.W.alike] at a
  | .int _, .dict _, _, a, _ => by simp [PySem.W.alike] at a
  | .tuple _, .none, _, a, _ => by simp [PySem.W.alike] at a
  | .tuple _, .bool _, _, a, _ => by simp [PySem.W.alike] at a
  | .tuple _, .str _, _, a, _ => by simp [PySem.W.alike] at a
  | .tuple _, .list _, _, a, _ => by simp [PySem.W.alike] at a
  | .tuple _, .int _, _, a, _ => by simp [PySem.W.alike] at a
  | .tuple _, .dict _, _, a, _ => by simp [PySem.W.alike] at a
  | .none, _, h, _, _ => by simp [itD] at h
  | .bool _, _, h, _, _ => by simp [itD] at h
  | .str _, _, h, _, _ => by simp [itD] at h
  | .list _, _, h, _, _ => by simp [itD] at h
  | .dict _, _, h, _, _ => by simp [itD] at h
theorem eqvL_same : ∀ (xs ys : List Dat), itL xs = true → PySem.W.alikeAll xs ys = true → PyData.eqvAll xs ys = true → xs = ys
  | [], [], _, _, _ => rfl
  | [], y :: ys, _, _, e => by simp [PyData.eqvAll] at e
  | x :: xs, [], _, _, e => by simp [PyData.eqvAll] at e
  | x :: xs, y :: ys, h, a, e => by
    obtain ⟨a1, a2⟩ := PySem.W.alike_all_cons a
    rw [itL, Bool.and_eq_true] at h
    rw [PyData.eqvAll, Bool.and_eq_true] at e
    rw [eqv_same x y h.1 a1 e.1, eqvL_same xs ys h.2 a2 e.2]
end
theorem toks_same {x y : Dat} (h : itD x = true) (a : PySem.W.alike x y = true) (e : PySem.W.keyToks x = PySem.W.keyToks y) : x = y := by
  refine eqv_same x y h a ?_
  cases q : PyData.eqv x y with
  | true => rfl
  | false =>
    have z := (PySem.W.toks_eqv x y a).2 q [.inl 0] [.inl 1]
    rw [e, PySem.W.lex_pre] at z
    have z2 : PyProof.Rows.lexLt PyProof.Rows.itemOrd (PySem.W.keyToks y) (PySem.W.keyToks y) = false := PyProof.Rows.lex_irrefl (O := PyProof.Rows.itemOrd) _
    rw [z2] at z
    cases z
def isInt : Dat → Bool
  | .int _ => true
  | _ => false
def flatT : Dat → Bool
  | .tuple (x :: r) => (x :: r).all isInt
  | _ => false
def neT : Dat → Bool
  | .tuple (_ :: _) => true
  | _ => false
/-- what can be sorted: tuples of ints, one item at least; or such tuples deeper, all alike -/
def okS (ds : List Dat) : Bool := ds.all flatT || (ds.all (fun d => neT d && itD d && shp 60 d) && ds.all fun d => ds.all fun e => PySem.W.alike d e)
def insD (a : Dat) : List Dat → List Dat
  | [] => [a]
  | b :: l => if ltD b a = true then b :: insD a l else a :: b :: l
def sortD : List Dat → List Dat
  | [] => []
  | a :: l => insD a (sortD l)
theorem insD_perm (a : Dat) : ∀ l : List Dat, (insD a l).Perm (a :: l)
  | [] => .refl _
  | b :: l => by
    unfold insD
    split
    · exact ((insD_perm a l).cons b).trans (.swap _ _ _)
    · exact .refl _
theorem sortD_perm : ∀ l : List Dat, (sortD l).Perm l
  | [] => .refl _
  | a :: l => (insD_perm a _).trans ((sortD_perm l).cons a)
theorem all_int_it : ∀ xs : List Dat, xs.all isInt = true → itL xs = true ∧ PyData.depthAll xs = 0 ∧ xs.all (shp 0) = true
  | [], _ => by simp [itL, PyData.depthAll]
  | x :: xs, h => by
    rw [List.all_cons, Bool.and_eq_true] at h
    obtain ⟨a, b, c⟩ := all_int_it xs h.2
    cases x with
    | int i =>
      refine ⟨by simp [itL, itD, a], by simp [PyData.depthAll, PyData.depth, b], ?_⟩
      rw [List.all_cons, c]
      rfl
    | _ => simp [isInt] at h
theorem all_int_alike : ∀ xs ys : List Dat, xs.all isInt = true → ys.all isInt = true → PySem.W.alikeAll xs ys = true
  | [], _, _, _ => by simp [PySem.W.alikeAll]
  | _ :: _, [], _, _ => by simp [PySem.W.alikeAll]
  | x :: xs, y :: ys, h, k => by
    rw [List.all_cons, Bool.and_eq_true] at h k
    rw [PySem.W.alikeAll, all_int_alike xs ys h.2 k.2]
    cases x with
    | int i =>
      cases y with
      | int j => simp [PySem.W.alike]
      | _ => simp [isInt] at k
    | _ => simp [isInt] at h
theorem okS_get {ds : List Dat} (h : okS ds = true) : PySem.W.AllAlike ds ∧ PySem.W.Sortable ds ∧ (∀ d ∈ ds, itD d = true) ∧ ∀ d ∈ ds, d.depth ≤ 60 := by
  unfold okS at h
  rw [Bool.or_eq_true] at h
  rcases h with h | h
  · rw [List.all_eq_true] at h
    have sh : ∀ d ∈ ds, ∃ x r, d = .tuple (x :: r) ∧ (x :: r).all isInt = true := fun d hd => by
      have := h d hd
      cases d with
      | tuple xs =>
        cases xs with
        | nil => simp [flatT] at this
        | cons x r => exact ⟨x, r, rfl, by simpa [flatT] using this⟩
      | _ => simp [flatT] at this
    refine ⟨fun d hd e he => ?_, .inl fun d hd => ?_, fun d hd => ?_, fun d hd => ?_⟩
    · obtain ⟨x, r, rfl, a⟩ := sh d hd
      obtain ⟨y, t, rfl, b⟩ := sh e he
      rw [PySem.W.alike]
      exact all_int_alike _ _ a b
    · obtain ⟨x, r, rfl, a⟩ := sh d hd
      exact ⟨x, r, rfl⟩
    · obtain ⟨x, r, rfl, a⟩ := sh d hd
      rw [itD]
      exact (all_int_it _ a).1
    · obtain ⟨x, r, rfl, a⟩ := sh d hd
      rw [PyData.depth, (all_int_it _ a).2.1]
      omega
  · rw [Bool.and_eq_true, List.all_eq_true, List.all_eq_true] at h
    refine ⟨fun d hd e he => ?_, .inl fun d hd => ?_, fun d hd => ?_, fun d hd => ?_⟩
    · have := h.2 d hd
      rw [List.all_eq_true] at this
      exact this e he
    · have := h.1 d hd
      rw [Bool.and_eq_true, Bool.and_eq_true] at this
      cases d with
      | tuple xs =>
        cases xs with
        | nil => simp [neT] at this
        | cons x r => exact ⟨x, r, rfl⟩
      | _ => simp [neT] at this
    · have := h.1 d hd
      rw [Bool.and_eq_true, Bool.and_eq_true] at this
      exact this.1.2
    · have := h.1 d hd
      rw [Bool.and_eq_true] at this
      exact (shp_ok 60 d this.2).2
/-- the order of the kit's sort -/
abbrev leK (a b : Dat) : Bool := PySem.W.dataLe false (fun d : Dat => d) a b
theorem leK_eq (a b : Dat) : leK a b = !PySem.W.dataLt b a := rfl
theorem leK_trans {a b c : Dat} (h1 : leK a b = true) (h2 : leK b c = true) : leK a c = true := (PySem.W.sortLe_total (PyProof.Rows.listOrd PyProof.Rows.itemOrd) false PySem.W.keyToks).trans a b c h1 h2
theorem leK_anti {a b : Dat} (ha : itD a = true) (al : PySem.W.alike a b = true) (h1 : leK a b = true) (h2 : leK b a = true) : a = b := by
  refine toks_same ha al ?_
  refine (PyProof.Rows.listOrd PyProof.Rows.itemOrd).total _ _ ?_ ?_
  · have := leK_eq b a
    rw [h2] at this
    have : PySem.W.dataLt a b = false := by simpa using this.symm
    exact this
  · have := leK_eq a b
    rw [h1] at this
    have : PySem.W.dataLt b a = false := by simpa using this.symm
    exact this
theorem insD_mem {a b : Dat} {l : List Dat} : b ∈ insD a l ↔ b = a ∨ b ∈ l := by
  rw [(insD_perm a l).mem_iff, List.mem_cons]
theorem sortD_mem {b : Dat} {l : List Dat} : b ∈ sortD l ↔ b ∈ l := (sortD_perm l).mem_iff
theorem insD_sorted (a : Dat) : ∀ l : List Dat, itD a = true → (∀ b ∈ l, itD b = true ∧ PySem.W.alike b a = true ∧ PySem.W.alike a b = true) → l.Pairwise (fun x y => leK x y = true) → (insD a l).Pairwise (fun x y => leK x y = true)
  | [], _, _, _ => List.pairwise_singleton _ _
  | b :: l, ha, h, p => by
    have hb := h b List.mem_cons_self
    have e : PySem.W.dataLt b a = ltD b a := ltD_eq b a hb.1 hb.2.1
    have p' := List.pairwise_cons.mp p
    unfold insD
    split
    · rename_i hl
      refine List.pairwise_cons.mpr ⟨fun c hc => ?_, insD_sorted a l ha (fun c hc => h c (List.mem_cons_of_mem _ hc)) p'.2⟩
      rcases insD_mem.mp hc with rfl | hc
      · rw [leK_eq]
        rw [← e] at hl
        have q : PySem.W.dataLt c b = false := by
          cases z : PySem.W.dataLt c b with
          | false => rfl
          | true =>
            have t := (PyProof.Rows.listOrd PyProof.Rows.itemOrd).trans _ _ _ z hl
            have i := (PyProof.Rows.listOrd PyProof.Rows.itemOrd).irrefl (PySem.W.keyToks c)
            rw [i] at t
            cases t
        rw [q]
        rfl
      · exact p'.1 c hc
    · rename_i hl
      have hab : leK a b = true := by
        rw [leK_eq, e]
        simpa using hl
      refine List.pairwise_cons.mpr ⟨fun c hc => ?_, p⟩
      rcases List.mem_cons.mp hc with rfl | hc
      · exact hab
      · exact leK_trans hab (p'.1 c hc)
theorem sortD_sorted : ∀ l : List Dat, (∀ b ∈ l, itD b = true) → PySem.W.AllAlike l → (sortD l).Pairwise (fun x y => leK x y = true)
  | [], _, _ => List.Pairwise.nil
  | a :: l, h, al => insD_sorted a (sortD l) (h a List.mem_cons_self) (fun b hb => by
      have hb' := List.mem_cons_of_mem a (sortD_mem.mp hb)
      exact ⟨h b hb', al b hb' a List.mem_cons_self, al a List.mem_cons_self b hb'⟩)
    (sortD_sorted l (fun b hb => h b (List.mem_cons_of_mem _ hb)) fun x hx y hy => al x (List.mem_cons_of_mem _ hx) y (List.mem_cons_of_mem _ hy))
theorem uniq_sorted {α : Type} {r : α → α → Prop} : ∀ {l m : List α}, l.Perm m → l.Pairwise r → m.Pairwise r → (∀ a ∈ l, ∀ b ∈ l, r a b → r b a → a = b) → l = m
  | [], m, p, _, _, _ => (List.nil_perm.mp p).symm
  | a :: l, [], p, _, _, _ => absurd p.length_eq (by simp)
  | a :: l, b :: m, p, h1, h2, an => by
    have h1' := List.pairwise_cons.mp h1
    have h2' := List.pairwise_cons.mp h2
    have e : a = b := by
      have ma : a ∈ b :: m := p.mem_iff.mp List.mem_cons_self
      have mb : b ∈ a :: l := p.mem_iff.mpr List.mem_cons_self
      rcases List.mem_cons.mp ma with z | z
      · exact z
      rcases List.mem_cons.mp mb with y | y
      · exact y.symm
      exact an a List.mem_cons_self b mb (h1'.1 b y) (h2'.1 a z)
    subst e
    rw [uniq_sorted p.cons_inv h1'.2 h2'.2 fun x hx y hy => an x (List.mem_cons_of_mem _ hx) y (List.mem_cons_of_mem _ hy)]
theorem sort_is {β : Type} {bs : List β} {enc : β → Dat} (h : okS (bs.map enc) = true) : (bs.mergeSort (PySem.W.dataLe false enc)).map enc = sortD (bs.map enc) := by
  obtain ⟨a1, a2, a3, a4⟩ := okS_get h
  have p1 : (bs.mergeSort (PySem.W.dataLe false enc)).Perm bs := List.mergeSort_perm _ _
  refine uniq_sorted (r := fun x y => leK x y = true) ((p1.map enc).trans (sortD_perm _).symm) ?_ (sortD_sorted _ a3 a1) fun x hx y hy q1 q2 => ?_
  · have tot := PySem.W.sortLe_total (PyProof.Rows.listOrd PyProof.Rows.itemOrd) false fun b => PySem.W.keyToks (enc b)
    have := List.pairwise_mergeSort (le := PySem.W.dataLe false enc) tot.trans (fun a b => by
      have := tot.total a b
      simp only [Bool.or_eq_true] at this ⊢
      exact this) bs
    rw [List.pairwise_map]
    exact this
  · have hx' := (p1.map enc).mem_iff.mp hx
    have hy' := (p1.map enc).mem_iff.mp hy
    exact leK_anti (a3 x hx') (a1 x hx' y hy') q1 q2
end Mx

set_option maxHeartbeats 4000000
namespace Mx
open PySem PySem.Spec PyProof.Rows L2

/-! ### sorted(xs), data -/
def rSortedDat (K : PySem.W.Frag) : List V → Hp → VK → Prop := fun vs H Q => ∃ (a : Addr) (xs : List V) (ds : List Dat), vs = [V.ref a] ∧ SqL K H a xs ∧ DpAll K H xs ds ∧ okS ds = true ∧
  ∀ (ps : List (V × Dat)) (p : Addr), ps.Perm (xs.zip ds) → ps.map (·.2) = sortD ds → H p = none → Q (.ref p) (upd H p (.lst (ps.map (·.1))))
theorem dpall_len {K : PySem.W.Frag} {H : Hp} : ∀ {xs : List V} {ds : List Dat}, DpAll K H xs ds → xs.length = ds.length
  | _, _, .nil => rfl
  | _, _, .cons _ t => by simp [dpall_len t]
theorem zip_reads {X : Cx} {pins : List (Addr × Obj)} {σ : L2.St} {H : Hp} {s : Shared} (I : Inv X pins σ H s) : ∀ {xs : List V} {ds : List Dat} {us : List Value}, DpAll X.K H xs ds → Vals xs us → PySem.W.EachIs (fun u (b : V × Dat) => RelV b.1 u ∧ ∃ as, Reads s.heap u b.2 as) us (xs.zip ds)
  | _, _, _, .nil, .nil => .nil
  | _, _, _, .cons h t, .cons r rt => .cons ⟨r, Dp.reads I _ _ _ h r⟩ (zip_reads I t rt)
theorem each_vals {h : Heap} : ∀ {us : List Value} {bs : List (V × Dat)}, PySem.W.EachIs (fun u (b : V × Dat) => RelV b.1 u ∧ ∃ as, Reads h u b.2 as) us bs → Vals (bs.map (·.1)) us
  | _, _, .nil => .nil
  | _, _, .cons r t => .cons r.1 (each_vals t)
theorem zip_snd : ∀ {xs : List V} {ds : List Dat}, xs.length = ds.length → (xs.zip ds).map (·.2) = ds
  | [], [], _ => rfl
  | [], _ :: _, h => by simp at h
  | _ :: _, [], h => by simp at h
  | x :: xs, d :: ds, h => by
    rw [List.zip_cons_cons, List.map_cons, zip_snd (by simpa using h)]
theorem zip_fst : ∀ {xs : List V} {ds : List Dat}, xs.length = ds.length → (xs.zip ds).map (·.1) = xs
  | [], [], _ => rfl
  | [], _ :: _, h => by simp at h
  | _ :: _, [], h => by simp at h
  | x :: xs, d :: ds, h => by
    rw [List.zip_cons_cons, List.map_cons, zip_fst (by simpa using h)]
theorem cr_sortedDat {X : Cx} (hu : X.A.units + 65 < cLine) : CallR X (.builtin "sorted") (rSortedDat X.K) := by
  intro pins s σ H vs us Q I r h
  obtain ⟨a, xs, ds, rfl, hs, hd, ok, q⟩ := h
  obtain ⟨its, rv, hl, hz⟩ := I.list hs
  rw [Vals.ref1 r]
  have hlen := dpall_len hd
  have e := zip_reads I hd rv
  obtain ⟨a1, a2, a3, a4⟩ := okS_get ok
  have hds : (xs.zip ds).map (·.2) = ds := zip_snd hlen
  refine PySem.W.sorted_data (β := V × Dat) (enc := fun b => b.2) (R := fun u (b : V × Dat) => RelV b.1 u ∧ ∃ as, Reads s.heap u b.2 as) hl.isList e (e.mono fun _ _ z => z.2) (by rw [hds]; exact a1) (by rw [hds]; exact a2) ?_ (fun b hb => ?_) fun out ol ho => ?_
  · rw [List.length_zip, ← hlen]
    omega
  · have : b.2 ∈ ds := by rw [← hds]; exact List.mem_map.mpr ⟨b, hb, rfl⟩
    have := a4 _ this
    omega
  · have hp : ((xs.zip ds).mergeSort (PySem.W.dataLe false fun b => b.2)).Perm (xs.zip ds) := List.mergeSort_perm _ _
    have hv := each_vals ho
    have hout : out.length ≤ sizeLine := by
      rw [ol, List.length_zip]
      omega
    obtain ⟨ep, he'⟩ := PyProof.Rows.sortedAll_at s.heap its out.toArray
    have hs2 : ((xs.zip ds).mergeSort (PySem.W.dataLe false fun b => b.2)).map (·.2) = sortD ds := by
      have := sort_is (bs := xs.zip ds) (enc := fun b : V × Dat => b.2) (by rw [hds]; exact ok)
      rw [hds] at this
      exact this
    refine ⟨.ref _, upd H (s.heap.objs.size + 1) (.lst (((xs.zip ds).mergeSort (PySem.W.dataLe false fun b => b.2)).map (·.1))), ?_, rfl, q _ _ hp hs2 (I.hok.fresh (Nat.le_succ _))⟩
    exact I.laid (t' := s.toks) (fun _ _ => PyProof.Rows.sortedAll_old) (Nat.le_succ _) ⟨by rw [hv.length]; exact hout, out, ep, hv, he'⟩
def rSortedA2 (K : PySem.W.Frag) : List V → Hp → VK → Prop := fun vs H Q => rSortedA K vs H Q ∨ rSortedDat K vs H Q
theorem cr_sortedA2 {X : Cx} (hu : X.A.units + 65 < cLine) : CallR X (.builtin "sorted") (rSortedA2 X.K) := by
  intro pins s σ H vs us Q I r h
  rcases h with h | h
  · exact cr_sortedA pins s σ H vs us Q I r h
  · exact cr_sortedDat hu pins s σ H vs us Q I r h
mutual
theorem nod_it : ∀ d : Dat, itD d = true → nodD d = true
  | .int _, _ => rfl
  | .tuple xs, h => nod_itL xs (by unfold itD at h; exact h)
  | .none, h => by unfold itD at h; cases h
  | .bool _, h => by unfold itD at h; cases h
  | .str _, h => by unfold itD at h; cases h
  | .list _, h => by unfold itD at h; cases h
  | .dict _, h => by unfold itD at h; cases h
theorem nod_itL : ∀ ds : List Dat, itL ds = true → nodL ds = true
  | [], _ => rfl
  | d :: ds, h => by
    rw [itL, Bool.and_eq_true] at h
    rw [nodL, nod_it d h.1, nod_itL ds h.2]
    rfl
end
theorem nod_all : ∀ {ds : List Dat}, (∀ d ∈ ds, itD d = true) → nodL ds = true
  | [], _ => rfl
  | d :: ds, h => by
    rw [nodL, nod_it d (h d List.mem_cons_self), nod_all fun e he => h e (List.mem_cons_of_mem _ he)]
    rfl
theorem nod_ok {ds : List Dat} (h : okS ds = true) : nodL ds = true := nod_all (okS_get h).2.2.1
def sortDF : Sto → List EV → Option (List Dat)
  | sto, [x] => match view sto x with
    | some (.list ds) => if okS ds = true then some (sortD ds) else none
    | _ => none
  | _, _ => none
def sortAF (sto : Sto) (xs : List EV) : Option (List Dat) := match sortIF sto xs with
  | some r => some r
  | none => sortDF sto xs
theorem rpl_perm {Hf : Hp} : ∀ {ps : List (V × Dat)}, (∀ b ∈ ps, Rp Hf b.1 b.2) → RpL Hf (ps.map (·.1)) (ps.map (·.2))
  | [], _ => .nil
  | b :: ps, h => .cons (h b List.mem_cons_self) (rpl_perm fun c hc => h c (List.mem_cons_of_mem _ hc))
theorem rpl_zip {Hf : Hp} : ∀ {xs : List V} {ds : List Dat}, RpL Hf xs ds → ∀ b ∈ xs.zip ds, Rp Hf b.1 b.2
  | _, _, .nil, b, hb => by cases hb
  | _, _, .cons h t, b, hb => by
    rw [List.zip_cons_cons] at hb
    rcases List.mem_cons.mp hb with rfl | hb
    · exact h
    · exact rpl_zip t b hb
theorem cf_sortD {K : PySem.W.Frag} : CallF K (rSortedDat K) sortDF := by
  intro ex μ H sto xs vs d Q S r h q
  unfold sortDF at h
  split at h
  · obtain ⟨v, rfl, rv⟩ := one_of r
    split at h
    · rename_i ds e
      obtain ⟨p, ws, rfl, hp, l, rr⟩ := view_items S rv e
      split at h
      · rename_i ok
        cases h
        have hlen : ws.length = ds.length := rr.length
        refine ⟨p, ws, ds, rfl, SqL.of hp, (rr.mono (off_sub _ _)).dp (nod_ok ok), ok, fun ps p' h1 h2 hp' => ?_⟩
        refine q _ ?_ ?_ p' hp'
        · rw [List.length_map, h1.length_eq, List.length_zip]
          omega
        · have := rpl_perm (ps := ps) (Hf := hf ex μ H) fun b hb => rpl_zip rr b (h1.mem_iff.mp hb)
          rw [h2] at this
          exact this
      · cases h
    · cases h
  · cases h
theorem cf_sortA {K : PySem.W.Frag} : CallF K (rSortedA2 K) sortAF := by
  intro ex μ H sto xs vs d Q S r h q
  unfold sortAF at h
  split at h
  · rename_i e
    cases h
    exact .inl (cf_sortI ex μ H sto xs vs _ Q S r e q)
  · exact .inr (cf_sortD ex μ H sto xs vs d Q S r h q)
end Mx

set_option maxHeartbeats 4000000
namespace Mx
open PySem PySem.Spec PyProof.Rows L2

/-! ### min(xs), max(xs) of data -/
def mnD : Dat → List Dat → Dat
  | x, [] => x
  | x, y :: r => mnD (if ltD y x = true then y else x) r
def mxD : Dat → List Dat → Dat
  | x, [] => x
  | x, y :: r => mxD (if ltD x y = true then y else x) r
theorem mnD_eq : ∀ (r : List Dat) (x : Dat), (∀ d ∈ x :: r, itD d = true) → PySem.W.AllAlike (x :: r) → PySem.W.minD x r = mnD x r
  | [], _, _, _ => rfl
  | y :: r, x, h, al => by
    have e : PySem.W.dataLt y x = ltD y x := ltD_eq y x (h y (by simp)) (al y (by simp) x (by simp))
    show PySem.W.minD (if PySem.W.dataLt y x = true then y else x) r = mnD (if ltD y x = true then y else x) r
    rw [e]
    have sub : ∀ d ∈ (if ltD y x = true then y else x) :: r, d ∈ x :: y :: r := by
      intro d hd
      split at hd <;> simp at hd ⊢ <;> rcases hd with z | z <;> simp [z]
    exact mnD_eq r _ (fun d hd => h d (sub d hd)) fun a ha b hb => al a (sub a ha) b (sub b hb)
theorem mxD_eq : ∀ (r : List Dat) (x : Dat), (∀ d ∈ x :: r, itD d = true) → PySem.W.AllAlike (x :: r) → PySem.W.maxD x r = mxD x r
  | [], _, _, _ => rfl
  | y :: r, x, h, al => by
    have e : PySem.W.dataLt x y = ltD x y := ltD_eq x y (h x (by simp)) (al x (by simp) y (by simp))
    show PySem.W.maxD (if PySem.W.dataLt x y = true then y else x) r = mxD (if ltD x y = true then y else x) r
    rw [e]
    have sub : ∀ d ∈ (if ltD x y = true then y else x) :: r, d ∈ x :: y :: r := by
      intro d hd
      split at hd <;> simp at hd ⊢ <;> rcases hd with z | z <;> simp [z]
    exact mxD_eq r _ (fun d hd => h d (sub d hd)) fun a ha b hb => al a (sub a ha) b (sub b hb)
def rBestDat (K : PySem.W.Frag) (best : Dat → List Dat → Dat) : List V → Hp → VK → Prop := fun vs H Q => ∃ (a : Addr) (xs : List V) (d0 : Dat) (ds : List Dat), vs = [V.ref a] ∧ SqL K H a xs ∧ DpAll K H xs (d0 :: ds) ∧ okS (d0 :: ds) = true ∧
  ∀ (i : Nat) (v : V), xs[i]? = some v → (d0 :: ds)[i]? = some (best d0 ds) → Q v H
theorem depth_all {n : Nat} : ∀ {ds : List Dat}, (∀ d ∈ ds, d.depth ≤ n) → PyData.depthAll ds ≤ n
  | [], _ => by simp [PyData.depthAll]
  | d :: ds, h => by
    rw [PyData.depthAll]
    have a := h d (by simp)
    have b := depth_all (n := n) (ds := ds) fun e he => h e (by simp [he])
    omega
theorem ok_alike {ds : List Dat} (ok : okS ds = true) : PySem.W.AlikeAll ds := by
  obtain ⟨a1, a2, a3, a4⟩ := okS_get ok
  refine ⟨fun x hx y hy => a1 x hx y hy, fun x hx e => ?_⟩
  have := a3 x hx
  rw [e] at this
  simp [itD] at this
theorem reads_nth {h : Heap} : ∀ {us : List Value} {ds : List Dat} {as : List Addr}, ReadsAll h us ds as → ∀ {i : Nat} {u : Value}, us[i]? = some u → ∃ d as, ds[i]? = some d ∧ Reads h u d as
  | _, _, _, .nil, i, u, e => by simp at e
  | _, _, _, .cons r t, 0, u, e => by
    simp at e
    subst e
    exact ⟨_, _, rfl, r⟩
  | _, _, _, .cons r t, i + 1, u, e => by
    obtain ⟨d, as, a, b⟩ := reads_nth t (i := i) (u := u) (by simpa using e)
    exact ⟨d, as, by simpa using a, b⟩
theorem mnD_mem : ∀ (r : List Dat) (x : Dat), mnD x r ∈ x :: r
  | [], x => by simp [mnD]
  | y :: r, x => by
    have := mnD_mem r (if ltD y x = true then y else x)
    unfold mnD
    rcases List.mem_cons.mp this with e | e
    · rw [e]
      split <;> simp
    · simp [e]
theorem mxD_mem : ∀ (r : List Dat) (x : Dat), mxD x r ∈ x :: r
  | [], x => by simp [mxD]
  | y :: r, x => by
    have := mxD_mem r (if ltD x y = true then y else x)
    unfold mxD
    rcases List.mem_cons.mp this with e | e
    · rw [e]
      split <;> simp
    · simp [e]
section
variable {X : Cx}
theorem vals_nth : ∀ {xs : List V} {us : List Value} {i : Nat} {u : Value}, Vals xs us → us[i]? = some u → ∃ v, xs[i]? = some v ∧ RelV v u
  | _, _, i, u, .nil, e => by simp at e
  | _, _, 0, u, .cons r t, e => by
    simp at e
    subst e
    exact ⟨_, rfl, r⟩
  | _, _, i + 1, u, .cons r t, e => by
    obtain ⟨v, a, b⟩ := vals_nth t (i := i) (u := u) (by simpa using e)
    exact ⟨v, by simpa using a, b⟩
theorem cr_minDat (hc : X.calm = true) (hu : X.A.units + 65 < cLine) : CallR X (.builtin "min") (rBestDat X.K mnD) := by
  intro pins s σ H vs us Q I r h
  obtain ⟨a, xs, d0, ds, rfl, hs, hd, ok, q⟩ := h
  obtain ⟨its, rv, hl, hz⟩ := I.list hs
  rw [Vals.ref1 r]
  obtain ⟨as, hr⟩ := Dp.readsAll I _ _ _ hd rv
  obtain ⟨a1, a2, a3, a4⟩ := okS_get ok
  refine PySem.W.min_list_data (I.ok.hd hc) hl.isList (by simpa using hr) (ok_alike ok) ?_ fun i v h' tk bs hi hb hk => ?_
  · have := depth_all a4
    omega
  · have hi' : its[i]? = some v := by simpa using hi
    obtain ⟨w, hw, rw'⟩ := vals_nth rv hi'
    obtain ⟨d, as', e1, e2⟩ := reads_nth hr hi'
    have hm : mnD d0 ds ∈ d0 :: ds := mnD_mem ds d0
    rw [mnD_eq ds d0 a3 a1] at hb
    have e3 : d = mnD d0 ds := PySem.W.alike_unique _ _ _ _ _ (a1 d (List.mem_of_getElem? e1) _ hm) (PyProof.Rows.Reads.keeps hk e2) hb
    rw [e3] at e1
    exact ⟨w, H, (I.kept (t' := tk) hk), rw', q i w hw e1⟩
theorem cr_maxDat (hc : X.calm = true) (hu : X.A.units + 65 < cLine) : CallR X (.builtin "max") (rBestDat X.K mxD) := by
  intro pins s σ H vs us Q I r h
  obtain ⟨a, xs, d0, ds, rfl, hs, hd, ok, q⟩ := h
  obtain ⟨its, rv, hl, hz⟩ := I.list hs
  rw [Vals.ref1 r]
  obtain ⟨as, hr⟩ := Dp.readsAll I _ _ _ hd rv
  obtain ⟨a1, a2, a3, a4⟩ := okS_get ok
  refine PySem.W.max_list_data (I.ok.hd hc) hl.isList (by simpa using hr) (ok_alike ok) ?_ fun i v h' tk bs hi hb hk => ?_
  · have := depth_all a4
    omega
  · have hi' : its[i]? = some v := by simpa using hi
    obtain ⟨w, hw, rw'⟩ := vals_nth rv hi'
    obtain ⟨d, as', e1, e2⟩ := reads_nth hr hi'
    have hm : mxD d0 ds ∈ d0 :: ds := mxD_mem ds d0
    rw [mxD_eq ds d0 a3 a1] at hb
    have e3 : d = mxD d0 ds := PySem.W.alike_unique _ _ _ _ _ (a1 d (List.mem_of_getElem? e1) _ hm) (PyProof.Rows.Reads.keeps hk e2) hb
    rw [e3] at e1
    exact ⟨w, H, (I.kept (t' := tk) hk), rw', q i w hw e1⟩
end
def bestF (best : Dat → List Dat → Dat) : Sto → List EV → Option Dat
  | sto, [x] => match view sto x with
    | some (.list (d :: ds)) => if okS (d :: ds) = true then some (best d ds) else none
    | _ => none
  | _, _ => none
def orD (f g : Sto → List EV → Option Dat) (sto : Sto) (xs : List EV) : Option Dat := match f sto xs with
  | some r => some r
  | none => g sto xs
def minAD := orD minD (bestF mnD)
def maxAD := orD maxD (bestF mxD)
theorem cd_best {K : PySem.W.Frag} {best : Dat → List Dat → Dat} : CallD K (rBestDat K best) (bestF best) := by
  intro ex μ H sto xs vs d Q S r h q
  unfold bestF at h
  split at h
  · obtain ⟨v, rfl, rv⟩ := one_of r
    split at h
    · rename_i d0 ds e
      obtain ⟨p, ws, rfl, hp, l, rr⟩ := view_items S rv e
      split at h
      · rename_i ok
        cases h
        refine ⟨p, ws, d0, ds, rfl, SqL.of hp, (rr.mono (off_sub _ _)).dp (nod_ok ok), ok, fun i v h1 h2 => ?_⟩
        obtain ⟨v', a, b⟩ := RpL.get rr h2
        rw [h1] at a
        cases a
        exact q v μ H (.refl _ _) S b
      · cases h
    · cases h
  · cases h
theorem CallD.or {K : PySem.W.Frag} {r r' : List V → Hp → VK → Prop} {f g : Sto → List EV → Option Dat} (hf : CallD K r f) (hg : CallD K r' g) : CallD K (fun vs H Q => r vs H Q ∨ r' vs H Q) (orD f g) := by
  intro ex μ H sto xs vs d Q S p h q
  unfold orD at h
  split at h
  · rename_i e
    cases h
    exact .inl (hf ex μ H sto xs vs _ Q S p e q)
  · exact .inr (hg ex μ H sto xs vs d Q S p h q)
theorem CallR.or' {X : Cx} {v : Value} {r r' : List V → Hp → VK → Prop} (h : CallR X v r) (h' : CallR X v r') : CallR X v (fun vs H Q => r vs H Q ∨ r' vs H Q) := by
  intro pins s σ H vs us Q I p q
  rcases q with q | q
  · exact h pins s σ H vs us Q I p q
  · exact h' pins s σ H vs us Q I p q
end Mx

set_option maxHeartbeats 4000000
namespace Mx
open PySem PySem.Spec PyProof.Rows L2
abbrev noSet (w : World) : Obj := ⟨.type "set", none, .set #[] 0 (.fresh 0 0 (!w.params.followText "set-order")), #[]⟩
section
variable {P : Program} {w : World} {A : Around} {E : Value → Shared → Prop} {s : Shared}
theorem set_of_list {l : Addr} {its : Array Value} (ns : List Int) {Q : Value → Shared → Prop} (h0 : A.handled = none) (hL : s.heap.IsList l its) (hI : IntsAre its.toList ns) (hB : ns.length + 1 < scanBound)
    (fin : ∀ (g : Heap) (u c : Nat), SetR w g s.heap.objs.size (fun j => decide (j ∈ ns)) c → c ≤ ns.length → (∀ b o, s.heap.get? b = some o → g.get? b = some o) → Q (.ref s.heap.objs.size) { s with heap := g, toks := u }) :
    wpAny (model P w) A (call (.type "set") [.ref l]) Q E s := by
  have sz : its.size = ns.length := by have q := IntsAre.length hI; rw [Array.length_toList] at q; exact q
  obtain ⟨cc, tt, m1⟩ := F.called_set.mro
  have m2 := F.called_set.made; have m3 := F.called_set.sub
  refine wpAny_call (codeAny_of_tree (show wpAny _ _ (callAny (.type "set") _) _ _ _ from ?_))
  refine wpAny_pure ⟨Code.quiet_builtin _ (by decide +kernel), codeAny_builtin F.entry_type_call (?_ : wpAny _ _ _ _ _ _)⟩
  rw [show _ = _ from Around.under_plain (weight_type_call_type "set" [.ref l] []) rfl]
  have m4 := F.called_set.notType; have m5 := F.called_set.canCreate; have m6 := F.typeCall_set_1 (.ref l)
  repeat (any_goals (first | assumption | wp_step)) <;> skip
  refine codeAny_mono (code_set_led1 (.ref l) (E := E) (Q₁ := fun ob s1 => ob = .ref s.heap.objs.size ∧ s1 = { s with heap := s.heap.push (noSet w) }) ⟨rfl, rfl⟩) fun r s1 hr => ?_
  match r, hr with
  | .error e, hr => exact hr
  | .ok .next, hr => exact hr.elim
  | .ok .brk, hr => exact hr.elim
  | .ok .cont, hr => exact hr.elim
  | .ok (.ret ob), hr =>
    obtain ⟨rfl, rfl⟩ := hr
    have g0 : (s.heap.push (noSet w)).get? s.heap.objs.size = some (noSet w) := Heap.get?_push_size _ rfl
    have t0 : Shared.TypeIs { s with heap := s.heap.push (noSet w) } (.ref s.heap.objs.size) "set" := ⟨_, g0, rfl⟩
    have i1 := F.called_set.init.lookup; have i2 := F.called_set.init.bind (.ref s.heap.objs.size)
    repeat (any_goals (first | assumption | wp_step)) <;> skip
    refine codeAny_mono (codeAny_call_builtin (R := wants (fun r s2 => r = .none ∧ ∃ g u c, s2 = { s with heap := g, toks := u } ∧ SetR w g s.heap.objs.size (fun j => decide (j ∈ ns)) c ∧ c ≤ ns.length ∧ (∀ b o, s.heap.get? b = some o → g.get? b = some o)) E)
      F.called_set.init.plain F.entry_set_init (check_set_init_1 t0 ?_)) fun r2 s2 hr2 => ?_
    · obtain ⟨⟨oc, od, oda, os⟩, lo, lc, nl, ld⟩ := hL
      simp only at lc ld
      subst lc ld
      have lo' : (s.heap.push (noSet w)).get? l = some ⟨.type "list", od, .seq its nl, os⟩ := Heap.get?_push_of_some _ lo
      have u1 := F.sub_list_set; have u2 := F.sub_list_frozenset; have u3 : (Value.type "list" == Value.type "dict") = false := by decide
      have lI : (s.heap.push (noSet w)).IsList l its := ⟨_, lo', rfl, nl, rfl⟩
      unfold Builtin.«set.__init__» noKeywords Builtin.Frozenset.updateFrom
      generalize hp : pyIter = pit
      wp_walk
      subst hp
      refine wpAny_pyIter_list lI (wpAny_bind (wpAny_runValue ?_))
      have ll : l < s.heap.objs.size := Heap.lt_size lo
      have z1 : (s.heap.push (noSet w)).objs.size = s.heap.objs.size + 1 := Heap.size_push ..
      have n1 : l ≠ (s.heap.push (noSet w)).objs.size := by rw [z1]; exact Nat.ne_of_lt (Nat.lt_succ_of_lt ll)
      have n2 : s.heap.objs.size ∉ [(s.heap.push (noSet w)).objs.size, l] := by rw [z1]; simp; exact Nat.ne_of_gt ll
      have vv : ∀ (i : Nat) (v : Value), its[i]? = some v → ∃ k t, ns[i]? = some k ∧ v = .int k t := fun i v hv => by
        have hi : i < ns.length := by rw [← sz]; exact (Array.getElem?_eq_some_iff.mp hv).1
        obtain ⟨t, e⟩ := PyProof.Rows.IntsAre.int_at hI i v (by rw [Array.getElem?_toList]; exact hv)
        exact ⟨ns[i], t, List.getElem?_eq_getElem hi, by rw [e, List.getD_eq_getElem?_getD, List.getElem?_eq_getElem hi]; rfl⟩
      refine set_update_ints ((Walks.list (by simp [h0]) _ l n1 its).toS) s.heap.objs.size n2 ns sz hB vv (its.size - 0) 0 _ (by omega) (Nat.zero_le _) ⟨⟨_, Heap.get?_push_size _ rfl, rfl, rfl⟩, (lI.push _)⟩ ?sa ?sb
      case sa => exact ⟨0, Nat.le_refl 0, setR_new_at (Heap.get?_push_of_some _ g0)⟩
      case sb =>
        rintro ⟨g, gg, dd, uu, oo⟩ c hm hc hS
        obtain rfl : gg = s.gens := hm.gens
        obtain rfl : dd = s.drawn := hm.drawn
        obtain rfl : oo = s.os := hm.os
        refine wpAny_pure (show wpAny _ _ (ret Value.none) _ _ _ from ?_)
        rw [sz] at hc
        refine wpAny_pure ⟨rfl, g, uu, c, rfl, hS, hc, fun b o e => hm.heap b o ?_ (Heap.get?_push_of_some _ (Heap.get?_push_of_some _ e))⟩
        have lb := Heap.lt_size e
        rw [z1]
        simp only [List.mem_cons, List.not_mem_nil, or_false, not_or]
        exact ⟨Nat.ne_of_lt lb, Nat.ne_of_lt (Nat.lt_succ_of_lt lb)⟩
    · match r2, hr2 with
      | .error e, hr2 => exact hr2
      | .ok .next, hr2 => exact hr2.elim
      | .ok .brk, hr2 => exact hr2.elim
      | .ok .cont, hr2 => exact hr2.elim
      | .ok (.ret r), hr2 =>
        obtain ⟨rfl, g, u, c, rfl, q1, q2, q3⟩ := hr2
        repeat (any_goals (first | assumption | wp_step)) <;> skip
        exact fin _ _ _ q1 q2 q3
end
end Mx

set_option maxHeartbeats 4000000
namespace Mx
open PySem PySem.Spec PyProof.Rows L2
/-! ### sorted(set(xs)), len(set(xs)), ints -/
def rSetI (K : PySem.W.Frag) (w : World) : List V → Hp → VK → Prop := fun xs H Q => ∃ (p : Addr) (ns : List Int), xs = [.ref p] ∧ (SqL K H p (ns.map V.int) ∨ SqT K H p (ns.map V.int)) ∧ ns.length + 1 < scanBound ∧
  ∀ a c, H a = none → c ≤ ns.length → Q (.ref a) (upd H a (SetO w a (fun j => decide (j ∈ ns)) c))
theorem cr_setI {X : Cx} (hc : X.calm = true) : CallR X (.type "set") (rSetI X.K X.w) := by
  intro pins s σ H xs us Q I r h
  obtain ⟨l, ns, rfl, hl, hB, q⟩ := h
  rw [Vals.ref1 r]
  have hn : H s.heap.objs.size = none := I.hok.fresh (Nat.le_refl _)
  rcases hl with hl | hl
  · obtain ⟨its, rv, pl, hz⟩ := I.list hl
    refine set_of_list ns (I.ok.hd hc) pl.isList (by simpa using rv.ints) hB fun g u c R hc' k => ?_
    exact ⟨.ref _, _, I.laid (t' := u) k (Nat.le_refl _) (setO_new R), rfl, q _ c hn hc'⟩
  · obtain ⟨its, rv, pl, hz⟩ := I.tuple hl
    refine call_set_tupI ns (I.ok.hd hc) pl (by simpa using rv.ints) hB fun g u c R hc' k => ?_
    exact ⟨.ref _, _, I.laid (t' := u) k (Nat.le_refl _) (setO_new R), rfl, q _ c hn hc'⟩
def insU (a : Int) : List Int → List Int
  | [] => [a]
  | b :: l => if a < b then a :: b :: l else if a = b then b :: l else b :: insU a l
def sortU : List Int → List Int
  | [] => []
  | a :: l => insU a (sortU l)
theorem insU_mem (a k : Int) : ∀ l : List Int, k ∈ insU a l ↔ k = a ∨ k ∈ l
  | [] => by simp [insU]
  | b :: l => by
    unfold insU
    split
    · simp
    · split
      · rename_i h
        subst h
        simp
      · rw [List.mem_cons, insU_mem a k l, List.mem_cons]
        constructor
        · rintro (h | h | h) <;> simp [h]
        · rintro (h | h | h) <;> simp [h]
theorem sortU_mem (k : Int) : ∀ l : List Int, k ∈ sortU l ↔ k ∈ l
  | [] => by simp [sortU]
  | a :: l => by rw [sortU, insU_mem, sortU_mem k l, List.mem_cons]
theorem insU_sorted (a : Int) : ∀ l : List Int, l.Pairwise (· < ·) → (insU a l).Pairwise (· < ·)
  | [], _ => List.pairwise_singleton _ _
  | b :: l, h => by
    have h' := List.pairwise_cons.mp h
    unfold insU
    split
    · rename_i hl
      refine List.pairwise_cons.mpr ⟨fun c hc => ?_, h⟩
      rcases List.mem_cons.mp hc with rfl | hc
      · exact hl
      · have := h'.1 c hc
        omega
    · split
      · exact h
      · refine List.pairwise_cons.mpr ⟨fun c hc => ?_, insU_sorted a l h'.2⟩
        rcases (insU_mem a c l).mp hc with rfl | hc
        · omega
        · exact h'.1 c hc
theorem sortU_sorted : ∀ l : List Int, (sortU l).Pairwise (· < ·)
  | [] => List.Pairwise.nil
  | a :: l => insU_sorted a _ (sortU_sorted l)
theorem strict_uniq : ∀ {l m : List Int}, l.Pairwise (· < ·) → m.Pairwise (· < ·) → (∀ k, k ∈ l ↔ k ∈ m) → l = m
  | [], [], _, _, _ => rfl
  | [], b :: m, _, _, h => by
    have := (h b).mpr (by simp)
    cases this
  | a :: l, [], _, _, h => by
    have := (h a).mp (by simp)
    cases this
  | a :: l, b :: m, h1, h2, h => by
    have h1' := List.pairwise_cons.mp h1
    have h2' := List.pairwise_cons.mp h2
    have e : a = b := by
      have x := (h a).mp (by simp)
      have y := (h b).mpr (by simp)
      rcases List.mem_cons.mp x with x | x
      · exact x
      rcases List.mem_cons.mp y with y | y
      · exact y.symm
      have := h1'.1 b y
      have := h2'.1 a x
      omega
    subst e
    rw [strict_uniq h1'.2 h2'.2 fun k => ?_]
    constructor
    · intro hk
      have := (h k).mp (List.mem_cons_of_mem _ hk)
      have lt := h1'.1 k hk
      rcases List.mem_cons.mp this with z | z
      · omega
      · exact z
    · intro hk
      have := (h k).mpr (List.mem_cons_of_mem _ hk)
      have lt := h2'.1 k hk
      rcases List.mem_cons.mp this with z | z
      · omega
      · exact z
/-- the ints of a list or tuple, fewer than 64 -/
def intsOf (sto : Sto) : List EV → Option (List Int)
  | [x] => match view sto x with
    | some (.list ds) => if ds.length < 64 then intsD ds else none
    | some (.tuple ds) => if ds.length < 64 then intsD ds else none
    | _ => none
  | _ => none
def fSortSet (m : DA) : DF := fB (fun sto xs => (intsOf sto xs).map fun is => (sortU is).map .int) m
def eLenSet (m : DA) : DE := eB (fun sto xs => (intsOf sto xs).map fun is => .int ((sortU is).length : Nat)) m
theorem ints_len : ∀ {ds : List Dat} {is : List Int}, intsD ds = some is → is.length = ds.length
  | [], is, h => by
    cases h
    rfl
  | .int i :: ds, is, h => by
    have h' : (intsD ds).map (fun x => i :: x) = some is := h
    cases e : intsD ds with
    | none => rw [e] at h'; cases h'
    | some r =>
      rw [e] at h'
      cases h'
      simp [ints_len e]
  | .none :: ds, is, h => by cases h
  | .bool _ :: ds, is, h => by cases h
  | .str _ :: ds, is, h => by cases h
  | .list _ :: ds, is, h => by cases h
  | .tuple _ :: ds, is, h => by cases h
  | .dict _ :: ds, is, h => by cases h
theorem intsOf_ok {K : PySem.W.Frag} {ex : List Addr} {μ : Mu} {H : Hp} {sto : Sto} {xs : List EV} {vs : List V} {is : List Int} (S : StoR K ex μ H sto) (r : Paired (EvR (hf ex μ H) μ) vs xs) (h : intsOf sto xs = some is) :
    ∃ p, vs = [.ref p] ∧ (SqL K H p (is.map V.int) ∨ SqT K H p (is.map V.int)) ∧ is.length < 64 := by
  unfold intsOf at h
  split at h
  · obtain ⟨v, rfl, rv⟩ := one_of r
    split at h
    · rename_i ds e
      split at h
      · rename_i hl
        obtain ⟨p, ws, rfl, hp, l, rr⟩ := view_items S rv e
        have := ints_v rr h
        subst this
        exact ⟨p, rfl, .inl (SqL.of hp), by rw [ints_len h]; exact hl⟩
      · cases h
    · rename_i ds e
      split at h
      · rename_i hl
        obtain ⟨p, ws, rfl, hp, l, rr⟩ := view_tup S rv e
        have := ints_v rr h
        subst this
        exact ⟨p, rfl, .inr (SqT.of hp), by rw [ints_len h]; exact hl⟩
      · cases h
    · cases h
  · cases h
section
variable {X : Cx} {EQ : EK} {σ : L2.St} {H : Hp} {a : Expr} {m : DA} {p p2 q pos : Pos}
theorem pf_sortSet (hc : X.calm = true) (hg : Gl X "sorted") (hm : X.mg "sorted" = none) (hg2 : Gl X "set") (hm2 : X.mg "set" = none) (ha : PA X [a] (Ta X.K EQ m))
    (na : starEach [a] X.env = (false, eval a X.env) :: starEach [] X.env := by rfl) (nb : starEach [.Call (.Name "set" p2) [a] [] q] X.env = (false, eval (.Call (.Name "set" p2) [a] [] q) X.env) :: starEach [] X.env := by rfl) (h1 : (backTo q (starEach [] X.env)).any (·.1) = false := by rfl) (h2 : (backTo pos (starEach [] X.env)).any (·.1) = false := by rfl) :
    PE X (.Call (.Name "sorted" p) [.Call (.Name "set" p2) [a] [] q] [] pos) (Tf X.K EQ (fSortSet m)) := by
  have i1 := pe_callTy (x := "set") (p := p2) (pos := q) (cr_setI hc) hg2 hm2 (by decide +kernel) ha (by decide) (by decide) na h1
  have i2 := pe_callB (x := "sorted") (p := p) (pos := pos) (cr_sortedSet hc) hg hm (by decide +kernel) (pa_cons i1 pa_nil nb) (by decide) (by decide) nb h2
  refine i2.weak fun σ H Q => ?_
  rintro ⟨ex, μ, env, sto, S, V, h⟩
  refine Ta.then S V h fun xs s1 vs μ1 H1 F1 S1 V1 r1 hh => ?_
  obtain ⟨ds, e, qq⟩ := R.wp_ofOpt hh
  have e' : (intsOf s1 xs).map (fun is => (sortU is).map PyData.int) = some ds := e
  cases ei : intsOf s1 xs with
  | none => rw [ei] at e'; cases e'
  | some is =>
    rw [ei] at e'
    cases e'
    obtain ⟨pp, rfl, hs, hl⟩ := intsOf_ok S1 r1 ei
    refine ⟨pp, is, rfl, hs, by unfold scanBound; omega, fun b c hb hcl => ?_⟩
    refine ⟨b, _, c, rfl, upd_same, by omega, fun ns r n1 n2 n3 hr => ?_⟩
    have e : ns = sortU is := strict_uniq n1 (sortU_sorted is) fun k => by rw [n2 k, sortU_mem]; simp
    subst e
    have L := S1.laid (o := SetO X.w b (fun j => decide (j ∈ is)) c) hb
    refine fresh_lst (F1.trans L.2) L.1 (RpL.ints _) ?_ qq r hr
    rw [List.length_map, n3, sizeLine_eq]
    omega
theorem setR_len {w : World} {h : Heap} {a : Addr} {S : Int → Bool} {n : Nat} (R : SetR w h a S n) {l : List Int} (h1 : l.Pairwise (· < ·)) (h2 : ∀ k, k ∈ l ↔ S k = true) : l.length = n := by
  obtain ⟨o, es, ep, t, ho, hex, hd, g, nd, hm, hb, hf, hn, _⟩ := R
  have p : l.Perm (es.toList.map keyOf) := by
    refine (List.perm_ext_iff_of_nodup (h1.imp fun h => by omega) nd).mpr fun k => ?_
    rw [h2 k, hm k]
  have e := p.length_eq
  rw [List.length_map] at e
  rw [e, ← hn]
  exact Array.length_toList
def rLenSet (w : World) : List V → Hp → VK → Prop := fun xs H Q => ∃ (a : Addr) (S : Int → Bool) (n : Nat) (l : List Int), xs = [.ref a] ∧ H a = some (SetO w a S n) ∧ l.Pairwise (· < ·) ∧ (∀ k, k ∈ l ↔ S k = true) ∧ Q (.int (l.length : Nat)) H
theorem cr_lenSet {X : Cx} : CallR X (.builtin "len") (rLenSet X.w) := by
  intro pins s σ H xs us Q I r h
  obtain ⟨a, S, n, l, rfl, ha, h1, h2, q⟩ := h
  rw [Vals.ref1 r]
  have R := setO_get I ha
  have hl := setR_len R h1 h2
  obtain ⟨o, es, ep, t, ho, hex, hd, g, nd, hm, hb, hf, hn, _⟩ := R
  refine call_len_set ho hex hd hf ?_ ⟨.int (l.length : Nat), H, I.tok _, ⟨s.toks + 1, by rw [hn, hl]⟩, q⟩
  have : es.size < 4096 := hb
  omega
theorem pe_lenSet (hc : X.calm = true) (hg : Gl X "len") (hm : X.mg "len" = none) (hg2 : Gl X "set") (hm2 : X.mg "set" = none) (ha : PA X [a] (Ta X.K EQ m))
    (na : starEach [a] X.env = (false, eval a X.env) :: starEach [] X.env := by rfl) (nb : starEach [.Call (.Name "set" p2) [a] [] q] X.env = (false, eval (.Call (.Name "set" p2) [a] [] q) X.env) :: starEach [] X.env := by rfl) (h1 : (backTo q (starEach [] X.env)).any (·.1) = false := by rfl) (h2 : (backTo pos (starEach [] X.env)).any (·.1) = false := by rfl) :
    PE X (.Call (.Name "len" p) [.Call (.Name "set" p2) [a] [] q] [] pos) (T X.K EQ (eLenSet m)) := by
  have i1 := pe_callTy (x := "set") (p := p2) (pos := q) (cr_setI hc) hg2 hm2 (by decide +kernel) ha (by decide) (by decide) na h1
  have i2 := pe_callB (x := "len") (p := p) (pos := pos) cr_lenSet hg hm (by decide +kernel) (pa_cons i1 pa_nil nb) (by decide) (by decide) nb h2
  refine i2.weak fun σ H Q => ?_
  rintro ⟨ex, μ, env, sto, S, V, h⟩
  refine Ta.then S V h fun xs s1 vs μ1 H1 F1 S1 V1 r1 hh => ?_
  obtain ⟨d, e, qq⟩ := wp_liftD hh
  have e' : (intsOf s1 xs).map (fun is => PyData.int ((sortU is).length : Nat)) = some d := e
  cases ei : intsOf s1 xs with
  | none => rw [ei] at e'; cases e'
  | some is =>
    rw [ei] at e'
    cases e'
    obtain ⟨pp, rfl, hs, hl⟩ := intsOf_ok S1 r1 ei
    refine ⟨pp, is, rfl, hs, by unfold scanBound; omega, fun b c hb hcl => ?_⟩
    have L := S1.laid (o := SetO X.w b (fun j => decide (j ∈ is)) c) hb
    exact ⟨b, _, c, sortU is, rfl, upd_same, sortU_sorted is, fun k => by rw [sortU_mem]; simp, qq _ _ _ (F1.trans L.2) L.1 (.int _)⟩
end
end Mx

set_option maxHeartbeats 4000000
namespace Mx
open PySem PySem.Spec PyProof.Rows L2
section
variable {X : Cx} {σ : L2.St} {H : Hp}
/-- try: .. except ..: .., where nothing is raised -/
theorem st_try {EQ : EK} {body : List Stmt} {h₀ : ExceptHandler} {hs : List ExceptHandler} {pos : Pos} {m : DS} (hb : PSs X.nox body (Ts X.K EQ m)) : PS X (.Try body (h₀ :: hs) [] [] pos) (Ts X.K EQ m) := ps_try_thru0 hb
end
section
variable {X : Cx} {EQ : EK} {elt tg iter tg1 iter1 : Expr} {ifs ifs1 : List Expr} {scope : Scope} {own : List (Str × Nat)} {pos : Pos} {src src1 : DI} {g g1 : DG} {tt tt1 : DT} {m : DE}
theorem pf_lc2 (own1 : List Nat) (hc : X.calm = true) (hN : X.N.Nodup) (hi : PI X tg iter (Ti X.K EQ src)) (ok : BlkOk X.N X.env.scope scope own)
    (hg : ∀ (s : Shared) (H : Hp) (C : Addr) (cl : List (Str × Addr)) (fp : List Addr), PG (X.blk s H scope (compEnvC scope cl C X.env) fp) tg (Tg g (own.map (·.2)))) (ht : ∀ (s : Shared) (H : Hp) (C : Addr) (cl : List (Str × Addr)) (fp : List Addr), PTs (X.blk s H scope (compEnvC scope cl C X.env) fp) ifs (Tt X.K EQ tt))
    (hi1 : ∀ (s : Shared) (H : Hp) (C : Addr) (cl : List (Str × Addr)) (fp : List Addr), PI (X.blk s H scope (compEnvC scope cl C X.env) fp) tg1 iter1 (Ti X.K EQ src1))
    (hg1 : ∀ (s : Shared) (H : Hp) (C : Addr) (cl : List (Str × Addr)) (fp : List Addr), PG (X.blk s H scope (compEnvC scope cl C X.env) fp) tg1 (Tg g1 own1)) (ht1 : ∀ (s : Shared) (H : Hp) (C : Addr) (cl : List (Str × Addr)) (fp : List Addr), PTs (X.blk s H scope (compEnvC scope cl C X.env) fp) ifs1 (Tt X.K EQ tt1))
    (he : ∀ (s : Shared) (H : Hp) (C : Addr) (cl : List (Str × Addr)) (fp : List Addr), PE (X.blk s H scope (compEnvC scope cl C X.env) fp) elt (T X.K EQ m)) (hv : ∀ i ∈ own1, i ∈ own.map (·.2) := by decide) (hs : ∀ x, foldedSetIterable iter X.env x = pure x := by intro _; rfl) (hs1 : ∀ env x, foldedSetIterable iter1 env x = pure x := by intro _ _; rfl) :
    PE X (.ListComp elt [⟨tg, iter, ifs, 0⟩, ⟨tg1, iter1, ifs1, 0⟩] scope pos) (Tf X.K EQ (fLc2 src (own.map (·.2)) g tt src1 own1 g1 tt1 m)) := (L2.pe_lc2 hc hN hi ok hv hg ht hi1 hg1 ht1 he hs hs1).weak fun _ _ _ => t_lc2
theorem st_setLc2 (own1 : List Nat) (i : Nat) {y : Str} {py : Pos} {spos : Pos} (hc : X.calm = true) (hN : X.N.Nodup) (hi : PI X tg iter (Ti X.K EQ src)) (ok : BlkOk X.N X.env.scope scope own)
    (hg : ∀ (s : Shared) (H : Hp) (C : Addr) (cl : List (Str × Addr)) (fp : List Addr), PG (X.blk s H scope (compEnvC scope cl C X.env) fp) tg (Tg g (own.map (·.2)))) (ht : ∀ (s : Shared) (H : Hp) (C : Addr) (cl : List (Str × Addr)) (fp : List Addr), PTs (X.blk s H scope (compEnvC scope cl C X.env) fp) ifs (Tt X.K EQ tt))
    (hi1 : ∀ (s : Shared) (H : Hp) (C : Addr) (cl : List (Str × Addr)) (fp : List Addr), PI (X.blk s H scope (compEnvC scope cl C X.env) fp) tg1 iter1 (Ti X.K EQ src1))
    (hg1 : ∀ (s : Shared) (H : Hp) (C : Addr) (cl : List (Str × Addr)) (fp : List Addr), PG (X.blk s H scope (compEnvC scope cl C X.env) fp) tg1 (Tg g1 own1)) (ht1 : ∀ (s : Shared) (H : Hp) (C : Addr) (cl : List (Str × Addr)) (fp : List Addr), PTs (X.blk s H scope (compEnvC scope cl C X.env) fp) ifs1 (Tt X.K EQ tt1))
    (he : ∀ (s : Shared) (H : Hp) (C : Addr) (cl : List (Str × Addr)) (fp : List Addr), PE (X.blk s H scope (compEnvC scope cl C X.env) fp) elt (T X.K EQ m))
    (hy : X.N[i]? = some y := by rfl) (hyl : X.env.scope.names.lookup y = some .local := by rfl) (hsw : swapsWith (.ListComp elt [⟨tg, iter, ifs, 0⟩, ⟨tg1, iter1, ifs1, 0⟩] scope pos) (some (.Name y py)) spos.line X.env = pure true := by exact sw_true rfl rfl rfl (by decide +kernel))
    (hv : ∀ i ∈ own1, i ∈ own.map (·.2) := by decide) (hs : ∀ x, foldedSetIterable iter X.env x = pure x := by intro _; rfl) (hs1 : ∀ env x, foldedSetIterable iter1 env x = pure x := by intro _ _; rfl) :
    PS X (.Assign [.Name y py] (.ListComp elt [⟨tg, iter, ifs, 0⟩, ⟨tg1, iter1, ifs1, 0⟩] scope pos) spos) (Ts X.K EQ (sSet i (eFrz (fLc2 src (own.map (·.2)) g tt src1 own1 g1 tt1 m)))) :=
  (L2.ps_setLc2 hc hN hy hyl hsw hi ok hv hg ht hi1 hg1 ht1 he hs hs1).weak fun D σ H h => t_lc2 (t_frz (ts_set h))
theorem st_setLc2N (own1 : List Nat) (i : Nat) {y : Str} {py : Pos} {spos : Pos} (hc : X.calm = true) (hN : X.N.Nodup) (hi : PI X tg iter (Ti X.K EQ src)) (ok : BlkOk X.N X.env.scope scope own)
    (hg : ∀ (s : Shared) (H : Hp) (C : Addr) (cl : List (Str × Addr)) (fp : List Addr), PG (X.blk s H scope (compEnvC scope cl C X.env) fp) tg (Tg g (own.map (·.2)))) (ht : ∀ (s : Shared) (H : Hp) (C : Addr) (cl : List (Str × Addr)) (fp : List Addr), PTs (X.blk s H scope (compEnvC scope cl C X.env) fp) ifs (Tt X.K EQ tt))
    (hi1 : ∀ (s : Shared) (H : Hp) (C : Addr) (cl : List (Str × Addr)) (fp : List Addr), PI (X.blk s H scope (compEnvC scope cl C X.env) fp) tg1 iter1 (Ti X.K EQ src1))
    (hg1 : ∀ (s : Shared) (H : Hp) (C : Addr) (cl : List (Str × Addr)) (fp : List Addr), PG (X.blk s H scope (compEnvC scope cl C X.env) fp) tg1 (Tg g1 own1)) (ht1 : ∀ (s : Shared) (H : Hp) (C : Addr) (cl : List (Str × Addr)) (fp : List Addr), PTs (X.blk s H scope (compEnvC scope cl C X.env) fp) ifs1 (Tt X.K EQ tt1))
    (he : ∀ (s : Shared) (H : Hp) (C : Addr) (cl : List (Str × Addr)) (fp : List Addr), PE (X.blk s H scope (compEnvC scope cl C X.env) fp) elt (T X.K EQ m))
    (hy : X.N[i]? = some y := by rfl) (hyl : X.env.scope.names.lookup y = some .local := by rfl) (hsw : swapsWith (.ListComp elt [⟨tg, iter, ifs, 0⟩, ⟨tg1, iter1, ifs1, 0⟩] scope pos) (some (.Name y py)) spos.line X.env = pure true := by exact sw_true rfl rfl rfl (by decide +kernel))
    (hv : ∀ i ∈ own1, i ∈ own.map (·.2) := by decide) (hs : ∀ x, foldedSetIterable iter X.env x = pure x := by intro _; rfl) (hs1 : ∀ env x, foldedSetIterable iter1 env x = pure x := by intro _ _; rfl) :
    PS X (.Assign [.Name y py] (.ListComp elt [⟨tg, iter, ifs, 0⟩, ⟨tg1, iter1, ifs1, 0⟩] scope pos) spos) (Ts X.K EQ (sSet i (eNew (fLc2 src (own.map (·.2)) g tt src1 own1 g1 tt1 m)))) :=
  (L2.ps_setLc2 hc hN hy hyl hsw hi ok hv hg ht hi1 hg1 ht1 he hs hs1).weak fun D σ H h => t_lc2 (t_new (ts_set h))
end
end Mx

set_option maxHeartbeats 4000000
namespace Mx
open PySem PySem.Spec PyProof.Rows L2

/-! ### what leaves the store as it stands -/
def R.inv {α : Type} : R α → (Sto → Prop) → Prop
  | .ok _ s, P => P s
  | .ex _ _, _ => True
  | .fail, _ => True
  | .pick _ f, P => ∀ i, R.inv (f i) P
  | .any _ f, P => ∀ d, R.inv (f d) P
theorem R.inv_bind {α β : Type} {f : α → Sto → R β} {P Q : Sto → Prop} : ∀ r : R α, r.inv P → (∀ a s, P s → (f a s).inv Q) → (r.bind f).inv Q
  | .ok a s, h, k => k a s h
  | .ex _ _, _, _ => trivial
  | .fail, _, _ => trivial
  | .pick n g, h, k => fun i => R.inv_bind (g i) (h i) k
  | .any p g, h, k => fun d => R.inv_bind (g d) (h d) k
theorem R.wp_inv {α : Type} {P : Sto → Prop} {Q : α → Sto → Prop} {E : Exc → Sto → Prop} : ∀ r : R α, r.wp Q E → r.inv P → r.wp (fun a s => Q a s ∧ P s) E
  | .ok a s, h, k => ⟨h, k⟩
  | .ex _ _, h, _ => h
  | .fail, h, _ => h
  | .pick n g, h, k => fun i hi => R.wp_inv (g i) (h i hi) (k i)
  | .any p g, h, k => fun d hd => R.wp_inv (g d) (h d hd) (k d)
def Still {α : Type} (m : Env → Sto → R α) : Prop := ∀ env s, (m env s).inv fun s' => s' = s
theorem outR_inv {g : Sto → Option Sto} {P : Sto → Prop} (h : ∀ s s', g s = some s' → P s') : ∀ r : R Dat, (outR g r).inv P
  | .ok d s => by
    unfold outR
    split
    · rename_i e
      exact h _ _ e
    · trivial
  | .ex _ _ => trivial
  | .fail => trivial
  | .pick n f => fun i => outR_inv h (f i)
  | .any p f => fun d => outR_inv h (f d)
theorem still_v (i : Nat) : Still (eV i) := fun env s => by
  unfold eV
  split <;> first | exact rfl | trivial
theorem still_c (d : Dat) : Still (eC d) := fun env s => rfl
theorem still_lift {o : Option Dat} {s : Sto} : (liftD o s).inv fun s' => s' = s := by
  cases o <;> first | exact rfl | trivial
theorem still_of {α : Type} {o : Option α} {s : Sto} : (R.ofOpt o s).inv fun s' => s' = s := by
  cases o <;> first | exact rfl | trivial
theorem still_1 {f : Sto → EV → Option Dat} {a : DE} (h : Still a) : Still (e1 f a) := fun env s => R.inv_bind _ (h env s) fun x s1 e => by
  subst e
  exact still_lift
theorem still_2 {f : Sto → EV → EV → Option Dat} {a b : DE} (h : Still a) (k : Still b) : Still (e2 f a b) := fun env s => R.inv_bind _ (h env s) fun x s1 e => by
  subst e
  refine R.inv_bind _ (k env _) fun y s2 e => ?_
  subst e
  exact still_lift
theorem still_a0 : Still aNil := fun env s => rfl
theorem still_a1 {a : DE} {r : DA} (h : Still a) (k : Still r) : Still (aCons a r) := fun env s => R.inv_bind _ (h env s) fun x s1 e => by
  subst e
  refine R.inv_bind _ (k env _) fun y s2 e => ?_
  subst e
  exact rfl
theorem still_as {a : DE} {r : DA} (h : Still a) (k : Still r) : Still (aStar a r) := fun env s => R.inv_bind _ (h env s) fun x s1 e => by
  subst e
  split
  · refine R.inv_bind _ (k env _) fun y s2 e => ?_
    subst e
    exact rfl
  · refine R.inv_bind _ (k env _) fun y s2 e => ?_
    subst e
    exact rfl
  · trivial
theorem still_t {m : DA} (h : Still m) : Still (eTup m) := fun env s => R.inv_bind _ (h env s) fun x s1 e => by
  subst e
  split <;> first | exact rfl | trivial | (split <;> first | exact rfl | trivial)
theorem still_l {m : DA} (h : Still m) : Still (fLst m) := fun env s => R.inv_bind _ (h env s) fun x s1 e => by
  subst e
  split <;> first | exact rfl | trivial | (split <;> first | exact rfl | trivial)
theorem still_frz {m : DF} (h : Still m) : Still (eFrz m) := fun env s => R.inv_bind _ (h env s) fun x s1 e => by
  subst e
  exact rfl
theorem still_b {f : Sto → List EV → Option Dat} {m : DA} (h : Still m) : Still (eB f m) := fun env s => R.inv_bind _ (h env s) fun x s1 e => by
  subst e
  exact still_lift
theorem still_fb {f : Sto → List EV → Option (List Dat)} {m : DA} (h : Still m) : Still (fB f m) := fun env s => R.inv_bind _ (h env s) fun x s1 e => by
  subst e
  exact still_of
theorem still_tru {m : DE} (h : Still m) : Still (tru m) := fun env s => R.inv_bind _ (h env s) fun x s1 e => by
  subst e
  split <;> first | exact rfl | trivial
theorem still_yes : Still tYesD := fun _ _ => rfl
theorem still_not {a : DT} (h : Still a) : Still (tNotD a) := fun env s => R.inv_bind _ (h env s) fun x s1 e => by
  subst e
  exact rfl
theorem still_and {a b : DT} (h : Still a) (k : Still b) : Still (tAndD a b) := fun env s => R.inv_bind _ (h env s) fun x s1 e => by
  subst e
  cases x
  · exact rfl
  · exact k env _
theorem still_or {a b : DT} (h : Still a) (k : Still b) : Still (tOrD a b) := fun env s => R.inv_bind _ (h env s) fun x s1 e => by
  subst e
  cases x
  · exact k env _
  · exact rfl
theorem still_vand {a b : DE} (h : Still a) (k : Still b) : Still (eAnd a b) := fun env s => R.inv_bind _ (h env s) fun x s1 e => by
  subst e
  split <;> first | exact rfl | trivial | exact k env _
theorem still_vor {a b : DE} (h : Still a) (k : Still b) : Still (eOr a b) := fun env s => R.inv_bind _ (h env s) fun x s1 e => by
  subst e
  split <;> first | exact rfl | trivial | exact k env _
theorem still_if {t : DT} {a b : DE} (h : Still t) (k : Still a) (l : Still b) : Still (eIf t a b) := fun env s => R.inv_bind _ (h env s) fun x s1 e => by
  subst e
  cases x
  · exact l env _
  · exact k env _
theorem still_k0 {F : Fn} {m : DA} (h : Still m) : Still (eCall0 F m) := fun env s => R.inv_bind _ (h env s) fun x s1 e => by
  subst e
  split
  · exact outR_inv (fun s s' e => (Option.some.inj e).symm) _
  · trivial
theorem still_di {m : DE} (h : Still m) : Still (dI m) := fun env s => R.inv_bind _ (h env s) fun x s1 e => by
  subst e
  split <;> first | exact rfl | trivial
theorem still_go {g : DG} {ifs : DT} {elt : DE} (h : Still ifs) (k : Still elt) (env : Env) : ∀ (xs : List Dat) (s : Sto), (lcGo g ifs elt env xs s).inv fun s' => s' = s
  | [], s => rfl
  | x :: xs, s => by
    unfold lcGo
    split
    · rename_i env1 _
      refine R.inv_bind _ (h env1 s) fun b s1 e => ?_
      subst e
      split
      · refine R.inv_bind _ (k env1 _) fun y s2 e => ?_
        subst e
        split
        · refine R.inv_bind _ (still_go h k env xs _) fun r s3 e => ?_
          subst e
          exact rfl
        · trivial
      · exact still_go h k env xs _
    · trivial
theorem still_lc {src : DI} {own : List Nat} {g : DG} {ifs : DT} {elt : DE} (h0 : Still src) (h : Still ifs) (k : Still elt) : Still (fLc src own g ifs elt) := fun env s => R.inv_bind _ (h0 env s) fun x s1 e => by
  subst e
  exact still_go h k _ _ _

/-! ### a comprehension that walks a changed list -/
def fLcC (c : Nat) (own : List Nat) (g : DG) (ifs : DT) (elt : DE) : DF := fun env s => match env[c]? with
  | some (some (.ref i)) => match s[i]? with
    | some (.lst xs) => lcGo g ifs elt (wipeE env own) xs s
    | _ => .fail
  | _ => .fail
section
variable {X : Cx} {EQ : EK} {σ : L2.St} {H : Hp}
theorem t_lcC {c : Nat} {own : List Nat} {g : DG} {ifs : DT} {elt : DE} {Q : VK} (hs1 : Still ifs) (hs2 : Still elt) : Tf X.K EQ (fLcC c own g ifs elt) σ H Q → tLc (iSeq X.K (tVar c)) (Tg g own) (Tt X.K EQ ifs) (T X.K EQ elt) own σ H Q := by
  rintro ⟨ex, μ, env, sto, S, V, h⟩
  unfold fLcC at h
  split at h
  case h_2 => exact h.elim
  rename_i ci he
  split at h
  case h_2 => exact h.elim
  rename_i xs hc
  obtain ⟨v, hv, hr⟩ := V.2 c _ he
  obtain ⟨a, r, hμ, rfl⟩ := hr
  obtain ⟨a', vs0, has, ha, hl0, hr0⟩ := S.cells ci _ _ hμ hc
  cases has
  refine ⟨_, hv, a, rfl, .inl ⟨vs0, SqL.of ha, fun D hD => ?_⟩⟩
  have nDex : D ∉ ex := out_ex S hD
  let post : List Dat → Sto → Prop := fun ds s' => ∀ p vs μ' H', FwdE μ H μ' H' → StoR X.K (p :: ex) μ' H' s' → H p = none → H' p = some (.lst vs) → vs.length ≤ sizeLine → RpL (hf (p :: ex) μ' H') vs ds → Q (.ref p) H'
  let W : Nat → Nat → Hp → Prop := fun i k H' => ∃ μ' acc vs, i + k = xs.length ∧ FwdE μ H μ' H' ∧ StoR X.K (D :: ex) μ' H' sto ∧ EnvR (hf (D :: ex) μ' H') μ' (wipe σ own) (wipeE env own) ∧ H' D = some (.lst vs) ∧ RpL (hf (D :: ex) μ' H') vs acc ∧ vs.length ≤ i ∧
    (lcGo g ifs elt (wipeE env own) (xs.drop i) sto).wp (fun r s => post (acc ++ r) s) (ePost X.K EQ ex μ H)
  have cell : ∀ {μ' : Mu} {H' : Hp}, FwdE μ H μ' H' → StoR X.K (D :: ex) μ' H' sto → ∃ vs, H' a = some (.lst vs) ∧ vs.length ≤ sizeLine ∧ RpL (hf (D :: ex) μ' H') vs xs := fun {μ' H'} F S' => by
    obtain ⟨ν, rfl⟩ := F.ext
    have hi : ci < μ.length := (List.getElem?_eq_some_iff.mp hμ).1
    obtain ⟨b, vs, e, hb, l, rr⟩ := S'.cells ci _ _ (by rw [List.getElem?_append_left hi]; exact hμ) hc
    cases e
    exact ⟨vs, hb, l, rr⟩
  refine ⟨W, ⟨xs.length, μ, [], [], by omega, (S.laid hD).2, S.laidX hD, (V.fwdX (S.laid hD).2 hD).wipe own, upd_same, .nil, Nat.le_refl _, ?_⟩, fun i k H' hW => ?_⟩
  · rw [List.drop_zero]
    exact R.wp_mono (fun r s q => by rw [List.nil_append]; exact q) (fun _ _ z => z) _ h
  · obtain ⟨μ', acc, vs, hk, F, S', V', hl, rr, hvl, hw⟩ := hW
    obtain ⟨ws, hwa, hwl, hwr⟩ := cell F S'
    by_cases hi : i < xs.length
    · have hi' : i < ws.length := by rw [hwr.length]; exact hi
      refine .inr ⟨⟨ws, ws[i], SqL.of hwa, List.getElem?_eq_getElem hi'⟩, fun H2 => W (i + 1) (k - 1) H2, fun H2 q => ⟨k - 1, by omega, q⟩, fun x H2 hy => ?_⟩
      obtain ⟨rfl, hy2⟩ := hy
      have hx := hy2 ws (SqL.of hwa)
      obtain ⟨v2, hv2, rx⟩ := hwr.get (List.getElem?_eq_getElem hi)
      rw [hx] at hv2
      cases hv2
      rw [List.drop_eq_getElem_cons hi] at hw
      unfold lcGo at hw
      split at hw
      · rename_i env1 he1
        refine ⟨D :: ex, μ', wipeE env own, xs[i], V', rx, env1, he1, fun σ2 V3 hwp => ⟨hwp.trans (wipe_wipe _ _), ?_⟩⟩
        have hwi := R.wp_inv _ ((R.wp_bind _).mp hw) (hs1 env1 sto)
        refine ⟨D :: ex, μ', env1, sto, S', V3, R.wp_mono (fun b s3 q μ3 H3 F3 S3 => ?_) (fun e s q μ3 H3 F3 S3 => q μ3 H3 (F.fwd.trans F3) S3.less) _ hwi⟩
        obtain ⟨q, rfl⟩ := q
        have hl3 : H3 D = some (.lst vs) := F3.keep D _ (S'.dis D List.mem_cons_self) hl
        have rr3 := rr.mono F3.fwd.sub
        have F03 : FwdE μ H μ3 H3 := F.trans F3
        cases b with
        | false => exact iteF ⟨μ3, acc, vs, by omega, F03, S3, V'.fwd F3, hl3, rr3, by omega, q⟩
        | true =>
          rw [if_pos rfl] at q
          have qi := R.wp_inv _ ((R.wp_bind _).mp q) (hs2 env1 s3)
          refine iteT ⟨D :: ex, μ3, env1, s3, S3, V3.fwd F3, R.wp_mono (fun y s4 q v μ4 H4 F4 S4 r4 => ?_) (fun e s q μ4 H4 F4 S4 => q μ4 H4 (F03.fwd.trans F4) S4.less) _ qi⟩
          obtain ⟨q, rfl⟩ := q
          have hl4 : H4 D = some (.lst vs) := F4.keep D _ (S3.dis D List.mem_cons_self) hl3
          cases y with
          | ref j => exact q.elim
          | dat d =>
            have O := S4.over (o := .lst (vs ++ [v])) (D := D) List.mem_cons_self
            have F04 : FwdE μ H μ4 H4 := F03.trans F4
            refine ⟨vs, hl4, ?_, μ4, acc ++ [d], vs ++ [v], by omega, ?_, O.1, ?_, upd_same, ?_, by simp; omega, ?_⟩
            · omega
            · refine ⟨fun a o n e => ?_, F04.fresh, F04.ext⟩
              rw [upd_ne (ne_of_none e hD)]
              exact F04.keep a o n e
            · rw [O.2]
              exact (V'.fwd F3).fwd F4
            · rw [O.2]
              exact (rr3.mono F4.fwd.sub).snoc r4
            · refine R.wp_mono (fun r s z => ?_) (fun _ _ z => z) _ ((R.wp_bind _).mp q)
              rw [List.append_assoc]
              exact z
      · exact hw.elim
    · have hi' : i = xs.length := by omega
      subst hi'
      refine .inl ⟨⟨ws, SqL.of hwa, by rw [hwr.length]; exact Nat.le_refl _⟩, ?_⟩
      rw [List.drop_length] at hw
      have hp : post (acc ++ []) sto := hw
      rw [List.append_nil] at hp
      refine hp D vs μ' H' F S' hD hl (Nat.le_trans hvl ?_) rr
      rw [← hwr.length]
      exact hwl
theorem pf_lcC {elt tg : Expr} {ifs : List Expr} {scope : Scope} {own : List (Str × Nat)} {pos p : Pos} {x : Str} {g : DG} {tt : DT} {m : DE} (c : Nat) (hc : X.calm = true) (hN : X.N.Nodup) (ok : BlkOk X.N X.env.scope scope own)
    (hg : ∀ (s : Shared) (H : Hp) (C : Addr) (cl : List (Str × Addr)) (fp : List Addr), PG (X.blk s H scope (compEnvC scope cl C X.env) fp) tg (Tg g (own.map (·.2)))) (ht : ∀ (s : Shared) (H : Hp) (C : Addr) (cl : List (Str × Addr)) (fp : List Addr), PTs (X.blk s H scope (compEnvC scope cl C X.env) fp) ifs (Tt X.K EQ tt))
    (he : ∀ (s : Shared) (H : Hp) (C : Addr) (cl : List (Str × Addr)) (fp : List Addr), PE (X.blk s H scope (compEnvC scope cl C X.env) fp) elt (T X.K EQ m)) (hs1 : Still tt) (hs2 : Still m)
    (hx : X.N[c]? = some x := by rfl) (hv : Vis X.env.scope x := by first | exact Or.inl rfl | exact Or.inr (Or.inl rfl) | exact Or.inr (Or.inr rfl)) (hd : (x == ("__debug__" : Str)) = false := by decide) (hcd : (x == ("__classdict__" : Str)) = false := by decide) (hs : ∀ z, foldedSetIterable (.Name x p) X.env z = pure z := by intro _; rfl) :
    PE X (.ListComp elt [⟨tg, .Name x p, ifs, 0⟩] scope pos) (Tf X.K EQ (fLcC c (own.map (·.2)) g tt m)) := (pe_lc hc hN (pi_seq (pe_var hx hv hd hcd)) ok hg ht he hs).weak fun _ _ _ => t_lcC hs1 hs2
end
end Mx

set_option maxHeartbeats 4000000
namespace Mx
open PySem PySem.Spec PyProof.Rows L2
/-! ### a, b = .., new lists among them -/
def setAll : Env → List Nat → List EV → Option Env
  | env, [], [] => some env
  | env, i :: is, e :: es => setAll (env.set i (some e)) is es
  | _, _, _ => none
def sTE (is : List Nat) (m : DA) : DS := fun env s => (m env s).bind fun vs s1 => match setAll env is vs with
  | some env' => .ok (.nx env') s1
  | none => .fail
def TgsE (is : List Nat) : TGs := fun ws σ H Q => ∃ Hf μ env evs env', EnvR Hf μ σ env ∧ Paired (EvR Hf μ) ws evs ∧ setAll env is evs = some env' ∧ ∀ σ', EnvR Hf μ σ' env' → Q σ' H
section
variable {X : Cx} {EQ : EK} {pos p : Pos}
theorem PGs.weakE {tg : List Expr} {t t' : TGs} (h : PGs X tg t) (w : ∀ v σ H Q, t' v σ H Q → t v σ H Q) : PGs X tg t' := PGs.weak h w
theorem pgsE_0 : PGs X [] (TgsE []) := PGs.weak pgs_nil fun ws σ H Q => by
  rintro ⟨Hf, μ, env, evs, env', V, r, he, q⟩
  cases evs with
  | nil =>
    cases he
    cases r
    exact ⟨rfl, q σ V⟩
  | cons d t => cases he
theorem pgsE_1 (i : Nat) {is : List Nat} {x : Str} {es : List Expr} (hN : X.N.Nodup) (h2 : PGs X es (TgsE is)) (hi : X.N[i]? = some x := by rfl) (hx : Loc X.env.scope x := by first | exact Or.inl rfl | exact Or.inr rfl) (hf' : X.fn x = true ∨ X.env.scope.names.lookup x = some .local := by first | exact .inl rfl | exact .inr rfl | assumption)
    (hs : (assignEach (.Name x p :: es) X.env).map (·.2) = assign (.Name x p) X.env :: (assignEach es X.env).map (·.2) := by rfl) : PGs X (.Name x p :: es) (TgsE (i :: is)) :=
  PGs.weak (pgs_cons (pg_name hN hi hx hf') h2 hs) fun ws σ H Q => by
    rintro ⟨Hf, μ, env, evs, env', V, r, he, q⟩
    cases evs with
    | nil => cases he
    | cons d t =>
      cases r with
      | cons ra rb => exact ⟨_, _, rfl, Hf, μ, env.set i (some d), t, env', V.set i ra, rb, he, q⟩
theorem setAll_len : ∀ {is : List Nat} {env env' : Env} {es : List EV}, setAll env is es = some env' → es.length = is.length
  | [], _, _, [], _ => rfl
  | [], _, _, _ :: _, h => by cases h
  | _ :: _, _, _, [], h => by cases h
  | i :: is, env, env', e :: es, h => by
    rw [List.length_cons, List.length_cons, setAll_len (is := is) (es := es) h]
theorem st_te {tgs es : List Expr} {is : List Nat} {m : DA} {kt k2 : Nat} {pt pt2 : Pos} (hc : X.calm = true) (ha : PA X es (Ta X.K EQ m)) (h : PGs X tgs (TgsE is)) (hn : (assignEach tgs X.env).length = is.length := by rfl) (hst : (assignEach tgs X.env).findIdx? (·.1) = none := by rfl)
    (hs : swapsWithSole [.Tuple tgs kt pt] (.Tuple es k2 pt2) pos.line X.env = pure false := by rfl) (hw : swappedStores [.Tuple tgs kt pt] (.Tuple es k2 pt2) X.env = pure none := by rfl)
    (h1 : (assignEach [.Tuple tgs kt pt] X.env).map (·.2) = [assign (.Tuple tgs kt pt) X.env] := by rfl) (hz : is.length ≤ sizeLine := by decide) : PS X (.Assign [.Tuple tgs kt pt] (.Tuple es k2 pt2) pos) (Ts X.K EQ (sTE is m)) :=
  (ps_asg (L2.pe_tup ha) (pg_tup hc h hn hst) hs hw h1).weak fun D σ H => by
    rintro ⟨ex, μ, env, sto, S, V, h⟩
    refine Ta.then S V h fun xs s1 vs μ1 H1 F1 S1 V1 r h1 => ?_
    split at h1
    · rename_i env' he
      have hl : vs.length = is.length := by rw [Paired.length r, setAll_len he]
      refine ⟨by omega, fun q hq => ?_⟩
      have L := S1.laid (o := .tup vs) hq
      refine ⟨q, vs, rfl, SqT.of upd_same, hl, hf ex μ1 (upd H1 q (.tup vs)), μ1, env, xs, env', V1.fwd L.2, evr_paired L.2 r, he, fun σ' V' => h1 μ1 σ' _ (F1.trans L.2).fwd L.1 V'⟩
    · exact h1.elim
end
end Mx

set_option maxHeartbeats 4000000
namespace Mx
open PySem PySem.Spec PyProof.Rows L2
/-! ### max, min of a tuple of ints -/
def rBestTup (K : PySem.W.Frag) (best : Int → List Int → Int) : List V → Hp → VK → Prop := fun vs H Q => ∃ (a : Addr) (n : Int) (ns : List Int), vs = [V.ref a] ∧ SqT K H a ((n :: ns).map V.int) ∧ Q (.int (best n ns)) H
theorem dp_ints {K : PySem.W.Frag} {H : Hp} : ∀ ns : List Int, DpAll K H (ns.map V.int) (ns.map PyData.int)
  | [] => .nil
  | n :: ns => .cons (.int n) (dp_ints ns)
theorem ints_alike (ns : List Int) : PySem.W.AlikeAll (ns.map PyData.int) := by
  refine ⟨fun x hx y hy => ?_, fun x hx e => ?_⟩
  · obtain ⟨a, _, rfl⟩ := List.mem_map.mp hx
    obtain ⟨b, _, rfl⟩ := List.mem_map.mp hy
    simp [PySem.W.alike]
  · obtain ⟨a, _, rfl⟩ := List.mem_map.mp hx
    cases e
theorem reads_int {h : Heap} {v : Value} {i : Int} {as : List Addr} (r : Reads h v (.int i) as) : ∃ t, v = .int i t := by
  cases r with
  | int n t => exact ⟨_, rfl⟩
theorem maxL_fold : ∀ (r : List Int) (a : Int), r.foldl max a = maxL a r
  | [], _ => rfl
  | b :: r, a => by
    show r.foldl max (max a b) = maxL (if b > a then b else a) r
    rw [maxL_fold r]
    congr 1
    split <;> omega
theorem minL_fold : ∀ (r : List Int) (a : Int), r.foldl min a = minL a r
  | [], _ => rfl
  | b :: r, a => by
    show r.foldl min (min a b) = minL (if b < a then b else a) r
    rw [minL_fold r]
    congr 1
    split <;> omega
section
variable {X : Cx}
theorem cr_maxTup (hc : X.calm = true) (hu : X.A.units + 65 < cLine) : CallR X (.builtin "max") (rBestTup X.K maxL) := by
  intro pins s σ H vs us Q I r h
  obtain ⟨a, n, ns, rfl, hs, q⟩ := h
  obtain ⟨its, rv, hl, hz⟩ := I.tuple hs
  rw [Vals.ref1 r]
  obtain ⟨as, hr⟩ := Dp.readsAll I _ _ _ (dp_ints (n :: ns)) rv
  have hd := PySem.W.depth_ints (n :: ns)
  refine PySem.W.max_tuple_data (I.ok.hd hc) (show s.heap.IsTuple a its.toArray from hl) (x := .int n) (xs := ns.map .int) (by simpa using hr) (ints_alike (n :: ns)) ?_ fun i v h' tk bs hi hb hk => ?_
  · have : PyData.depthAll (.int n :: ns.map .int) = 0 := hd
    rw [this]
    omega
  · rw [PySem.W.maxD_ints, maxL_fold] at hb
    obtain ⟨t, rfl⟩ := reads_int hb
    exact ⟨.int (maxL n ns), H, I.kept (t' := tk) hk, ⟨t, rfl⟩, q⟩
theorem cr_minTup (hc : X.calm = true) (hu : X.A.units + 65 < cLine) : CallR X (.builtin "min") (rBestTup X.K minL) := by
  intro pins s σ H vs us Q I r h
  obtain ⟨a, n, ns, rfl, hs, q⟩ := h
  obtain ⟨its, rv, hl, hz⟩ := I.tuple hs
  rw [Vals.ref1 r]
  obtain ⟨as, hr⟩ := Dp.readsAll I _ _ _ (dp_ints (n :: ns)) rv
  have hd := PySem.W.depth_ints (n :: ns)
  refine PySem.W.min_tuple_data (I.ok.hd hc) (show s.heap.IsTuple a its.toArray from hl) (x := .int n) (xs := ns.map .int) (by simpa using hr) (ints_alike (n :: ns)) ?_ fun i v h' tk bs hi hb hk => ?_
  · have : PyData.depthAll (.int n :: ns.map .int) = 0 := hd
    rw [this]
    omega
  · rw [PySem.W.minD_ints, minL_fold] at hb
    obtain ⟨t, rfl⟩ := reads_int hb
    exact ⟨.int (minL n ns), H, I.kept (t' := tk) hk, ⟨t, rfl⟩, q⟩
end
def bestTF (best : Int → List Int → Int) : Sto → List EV → Option Dat
  | sto, [x] => match view sto x with
    | some (.tuple ds) => match intsD ds with
      | some (a :: r) => some (.int (best a r))
      | _ => none
    | _ => none
  | _, _ => none
theorem cd_bestT {K : PySem.W.Frag} {best : Int → List Int → Int} : CallD K (rBestTup K best) (bestTF best) := by
  intro ex μ H sto xs vs d Q S r h q
  unfold bestTF at h
  split at h
  · obtain ⟨v, rfl, rv⟩ := one_of r
    split at h
    · rename_i ds e
      obtain ⟨p, ws, rfl, hp, l, rr⟩ := view_tup S rv e
      split at h
      · rename_i n ns ei
        cases h
        have := ints_v rr ei
        subst this
        exact ⟨p, n, ns, rfl, SqT.of hp, q _ μ H (.refl _ _) S (.int _)⟩
      · cases h
    · cases h
  · cases h
def maxBD := orD maxAD (bestTF maxL)
def minBD := orD minAD (bestTF minL)
end Mx

set_option maxHeartbeats 4000000
namespace Mx
open PySem PySem.Spec PyProof.Rows L2
/-! ### sorted(set(xs)), len(set(xs)): ints in longer lists, fewer than 64 of them unlike; xs.count(i) -/
def rSortedSetB (w : World) : List V → Hp → VK → Prop := fun vs H Q => ∃ (a : Addr) (S : Int → Bool) (n : Nat) (l : List Int), vs = [V.ref a] ∧ H a = some (SetO w a S n) ∧ l.Pairwise (· < ·) ∧ (∀ k, k ∈ l ↔ S k = true) ∧ l.length < 64 ∧
  ∀ p, H p = none → Q (.ref p) (upd H p (.lst (l.map V.int)))
theorem cr_sortedSetB {X : Cx} (hc : X.calm = true) : CallR X (.builtin "sorted") (rSortedSetB X.w) := by
  intro pins s σ H vs us Q I r h
  obtain ⟨a, S, n, l, rfl, ha, h1, h2, h3, q⟩ := h
  have hl := setR_len (setO_get I ha) h1 h2
  refine cr_sortedSet hc pins s σ H [.ref a] us Q I r ⟨a, S, n, rfl, ha, by omega, fun ns p n1 n2 n3 hn => ?_⟩
  have e : ns = l := strict_uniq n1 h1 fun k => by rw [n2 k, h2 k]
  subst e
  exact q p hn
def intsB (sto : Sto) (xs : List EV) : Option (List Int) := match xs with
  | [x] => match view sto x with
    | some (.list ds) => if ds.length < 4000 then match intsD ds with
      | some is => if (sortU is).length < 64 then some is else none
      | none => none else none
    | some (.tuple ds) => if ds.length < 4000 then match intsD ds with
      | some is => if (sortU is).length < 64 then some is else none
      | none => none else none
    | _ => none
  | _ => none
def fSortSetB (m : DA) : DF := fB (fun sto xs => (intsB sto xs).map fun is => (sortU is).map .int) m
def eLenSetB (m : DA) : DE := eB (fun sto xs => (intsB sto xs).map fun is => .int ((sortU is).length : Nat)) m
theorem intsB_ok {K : PySem.W.Frag} {ex : List Addr} {μ : Mu} {H : Hp} {sto : Sto} {xs : List EV} {vs : List V} {is : List Int} (S : StoR K ex μ H sto) (r : Paired (EvR (hf ex μ H) μ) vs xs) (h : intsB sto xs = some is) :
    ∃ p, vs = [.ref p] ∧ (SqL K H p (is.map V.int) ∨ SqT K H p (is.map V.int)) ∧ is.length < 4000 ∧ (sortU is).length < 64 := by
  unfold intsB at h
  split at h
  · obtain ⟨v, rfl, rv⟩ := one_of r
    split at h
    · rename_i ds e
      split at h
      · rename_i hl
        obtain ⟨p, ws, rfl, hp, l, rr⟩ := view_items S rv e
        cases hi : intsD ds with
        | none => rw [hi] at h; cases h
        | some js =>
          rw [hi] at h
          simp only at h
          split at h
          · rename_i h64
            cases h
            have := ints_v rr hi
            subst this
            exact ⟨p, rfl, .inl (SqL.of hp), by rw [ints_len hi]; exact hl, h64⟩
          · cases h
      · cases h
    · rename_i ds e
      split at h
      · rename_i hl
        obtain ⟨p, ws, rfl, hp, l, rr⟩ := view_tup S rv e
        cases hi : intsD ds with
        | none => rw [hi] at h; cases h
        | some js =>
          rw [hi] at h
          simp only at h
          split at h
          · rename_i h64
            cases h
            have := ints_v rr hi
            subst this
            exact ⟨p, rfl, .inr (SqT.of hp), by rw [ints_len hi]; exact hl, h64⟩
          · cases h
      · cases h
    · cases h
  · cases h
section
variable {X : Cx} {EQ : EK} {σ : L2.St} {H : Hp} {a : Expr} {m : DA} {p p2 q pos : Pos}
theorem pf_sortSetB (hc : X.calm = true) (hg : Gl X "sorted") (hm : X.mg "sorted" = none) (hg2 : Gl X "set") (hm2 : X.mg "set" = none) (ha : PA X [a] (Ta X.K EQ m))
    (na : starEach [a] X.env = (false, eval a X.env) :: starEach [] X.env := by rfl) (nb : starEach [.Call (.Name "set" p2) [a] [] q] X.env = (false, eval (.Call (.Name "set" p2) [a] [] q) X.env) :: starEach [] X.env := by rfl) (h1 : (backTo q (starEach [] X.env)).any (·.1) = false := by rfl) (h2 : (backTo pos (starEach [] X.env)).any (·.1) = false := by rfl) :
    PE X (.Call (.Name "sorted" p) [.Call (.Name "set" p2) [a] [] q] [] pos) (Tf X.K EQ (fSortSetB m)) := by
  have i1 := pe_callTy (x := "set") (p := p2) (pos := q) (cr_setI hc) hg2 hm2 (by decide +kernel) ha (by decide) (by decide) na h1
  have i2 := pe_callB (x := "sorted") (p := p) (pos := pos) (cr_sortedSetB hc) hg hm (by decide +kernel) (pa_cons i1 pa_nil nb) (by decide) (by decide) nb h2
  refine i2.weak fun σ H Q => ?_
  rintro ⟨ex, μ, env, sto, S, V, h⟩
  refine Ta.then S V h fun xs s1 vs μ1 H1 F1 S1 V1 r1 hh => ?_
  obtain ⟨ds, e, qq⟩ := R.wp_ofOpt hh
  have e' : (intsB s1 xs).map (fun is => (sortU is).map PyData.int) = some ds := e
  cases ei : intsB s1 xs with
  | none => rw [ei] at e'; cases e'
  | some is =>
    rw [ei] at e'
    cases e'
    obtain ⟨pp, rfl, hs, hl, h64⟩ := intsB_ok S1 r1 ei
    refine ⟨pp, is, rfl, hs, by unfold scanBound; omega, fun b c hb hcl => ?_⟩
    refine ⟨b, _, c, sortU is, rfl, upd_same, sortU_sorted is, fun k => by rw [sortU_mem]; simp, h64, fun r hr => ?_⟩
    have L := S1.laid (o := SetO X.w b (fun j => decide (j ∈ is)) c) hb
    refine fresh_lst (F1.trans L.2) L.1 (RpL.ints _) ?_ qq r hr
    rw [List.length_map, sizeLine_eq]
    omega
theorem pe_lenSetB (hc : X.calm = true) (hg : Gl X "len") (hm : X.mg "len" = none) (hg2 : Gl X "set") (hm2 : X.mg "set" = none) (ha : PA X [a] (Ta X.K EQ m))
    (na : starEach [a] X.env = (false, eval a X.env) :: starEach [] X.env := by rfl) (nb : starEach [.Call (.Name "set" p2) [a] [] q] X.env = (false, eval (.Call (.Name "set" p2) [a] [] q) X.env) :: starEach [] X.env := by rfl) (h1 : (backTo q (starEach [] X.env)).any (·.1) = false := by rfl) (h2 : (backTo pos (starEach [] X.env)).any (·.1) = false := by rfl) :
    PE X (.Call (.Name "len" p) [.Call (.Name "set" p2) [a] [] q] [] pos) (T X.K EQ (eLenSetB m)) := by
  have i1 := pe_callTy (x := "set") (p := p2) (pos := q) (cr_setI hc) hg2 hm2 (by decide +kernel) ha (by decide) (by decide) na h1
  have i2 := pe_callB (x := "len") (p := p) (pos := pos) cr_lenSet hg hm (by decide +kernel) (pa_cons i1 pa_nil nb) (by decide) (by decide) nb h2
  refine i2.weak fun σ H Q => ?_
  rintro ⟨ex, μ, env, sto, S, V, h⟩
  refine Ta.then S V h fun xs s1 vs μ1 H1 F1 S1 V1 r1 hh => ?_
  obtain ⟨d, e, qq⟩ := wp_liftD hh
  have e' : (intsB s1 xs).map (fun is => PyData.int ((sortU is).length : Nat)) = some d := e
  cases ei : intsB s1 xs with
  | none => rw [ei] at e'; cases e'
  | some is =>
    rw [ei] at e'
    cases e'
    obtain ⟨pp, rfl, hs, hl, h64⟩ := intsB_ok S1 r1 ei
    refine ⟨pp, is, rfl, hs, by unfold scanBound; omega, fun b c hb hcl => ?_⟩
    have L := S1.laid (o := SetO X.w b (fun j => decide (j ∈ is)) c) hb
    exact ⟨b, _, c, sortU is, rfl, upd_same, sortU_sorted is, fun k => by rw [sortU_mem]; simp, qq _ _ _ (F1.trans L.2) L.1 (.int _)⟩
end
def countF (sto : Sto) (x : EV) (xs : List EV) : Option (Dat × Sto) := match xs with
  | [.dat (.int k)] => match view sto x with
    | some (.list ds) => (intsD ds).map fun is => (.int (is.count k : Nat), sto)
    | _ => none
  | _ => none
theorem md_count {K : PySem.W.Frag} : MtD K (rCntI K) countF := by
  intro ex μ H sto x v xs ws d sto' Q S rx rxs h q
  unfold countF at h
  split at h
  · rename_i k
    split at h
    · rename_i ds e
      cases hi : intsD ds with
      | none => rw [hi] at h; cases h
      | some is =>
        rw [hi] at h
        cases h
        obtain ⟨w, rfl, rw'⟩ := one_of rxs
        have rv := view_rp S rx e
        obtain ⟨a, vs, rfl, ha, l, rr⟩ := Rp.list_inv rv
        have := ints_v rr hi
        subst this
        cases rw'
        exact ⟨a, is, k, rfl, rfl, SqL.of ha, q _ μ H (.refl _ _) S (.int _)⟩
    · cases h
  · cases h
@[simp] theorem u_fSortSetB (m : DA) (env : Env) (s : Sto) : fSortSetB m env s = (m env s).bind fun xs s1 => R.ofOpt ((intsB s1 xs).map fun is => (sortU is).map .int) s1 := rfl
@[simp] theorem u_eLenSetB (m : DA) (env : Env) (s : Sto) : eLenSetB m env s = (m env s).bind fun xs s1 => liftD ((intsB s1 xs).map fun is => .int ((sortU is).length : Nat)) s1 := rfl
end Mx

set_option maxHeartbeats 4000000
namespace Mx
open PySem PySem.Spec PyProof.Rows L2
/-! ### sum of a tuple of ints -/
def rSumTup (K : PySem.W.Frag) : List V → Hp → VK → Prop := fun vs H Q => ∃ (a : Addr) (ns : List Int), vs = [V.ref a] ∧ SqT K H a (ns.map V.int) ∧ Q (.int ns.sum) H
theorem cr_sumTup {X : Cx} (hc : X.calm = true) : CallR X (.builtin "sum") (rSumTup X.K) := by
  intro pins s σ H vs us Q I r h
  obtain ⟨a, ns, rfl, hs, q⟩ := h
  obtain ⟨its, rv, hl, hz⟩ := I.tuple hs
  rw [Vals.ref1 r]
  have hi := rv.ints
  obtain ⟨xs, e⟩ := hi.allInts.items
  have hn : numsOf (intItems xs).toList = ns := by
    rw [← e]
    exact hi.numsOf
  rw [nums_intItems] at hn
  have ht : s.heap.IsTuple a its.toArray := hl
  rw [e] at ht
  refine PySem.W.ktm_sumG (I.ok.hd hc) ht fun h' tk t' hk => ?_
  rw [preSum_eq, List.take_of_length_le (by simp), hn]
  exact ⟨.int ns.sum, H, I.kept (t' := tk) hk, ⟨t', rfl⟩, q⟩
def sumTF : Sto → List EV → Option Dat
  | sto, [x] => match view sto x with
    | some (.tuple ds) => (intsD ds).map fun ns => .int ns.sum
    | _ => none
  | _, _ => none
theorem cd_sumT {K : PySem.W.Frag} : CallD K (rSumTup K) sumTF := by
  intro ex μ H sto xs vs d Q S r h q
  unfold sumTF at h
  split at h
  · obtain ⟨v, rfl, rv⟩ := one_of r
    split at h
    · rename_i ds e
      obtain ⟨p, ws, rfl, hp, l, rr⟩ := view_tup S rv e
      cases ei : intsD ds with
      | none => rw [ei] at h; cases h
      | some ns =>
        rw [ei] at h
        cases h
        have := ints_v rr ei
        subst this
        exact ⟨p, ns, rfl, SqT.of hp, q _ μ H (.refl _ _) S (.int _)⟩
    · cases h
  · cases h
def sumBD := orD sumD sumTF
@[simp] theorem u_sumBD (s : Sto) (xs : List EV) : sumBD s xs = (match sumD s xs with
  | some r => some r
  | none => sumTF s xs) := rfl
end Mx

set_option maxHeartbeats 4000000
namespace Mx
open PySem PySem.Spec PyProof.Rows L2
/-! ### three names at once -/
def sPar3 (i j l : Nat) (m : DA) : DS := fun env s => (m env s).bind fun vs s1 => match vs with
  | [u, v, w] => .ok (.nx (((env.set i (some u)).set j (some v)).set l (some w))) s1
  | _ => .fail
theorem three_of {Hf : Hp} {μ : Mu} {vs : List V} {x y z : EV} (h : Paired (EvR Hf μ) vs [x, y, z]) : ∃ u v w, vs = [u, v, w] ∧ EvR Hf μ u x ∧ EvR Hf μ v y ∧ EvR Hf μ w z := by
  cases h with
  | cons a b =>
    obtain ⟨v, w, rfl, q, r⟩ := two_of b
    exact ⟨_, v, w, rfl, a, q, r⟩
section
variable {X : Cx} {EQ : EK}
theorem st_par3 (i j l : Nat) {x y z : Str} {e1 e2 e3 : Expr} {m : DA} {px py pz pt pos : Pos} {kt k2 pt2} (hc : X.calm = true) (hN : X.N.Nodup) (ha : PA X [e1, e2, e3] (Ta X.K EQ m)) (hi : X.N[i]? = some x := by rfl) (hj : X.N[j]? = some y := by rfl) (hl : X.N[l]? = some z := by rfl) (hij : i ≠ j := by decide) (hil : i ≠ l := by decide) (hjl : j ≠ l := by decide)
    (hx : X.env.scope.names.lookup x = some .local := by rfl) (hy : X.env.scope.names.lookup y = some .local := by rfl) (hz : X.env.scope.names.lookup z = some .local := by rfl)
    (hw : swappedStores [.Tuple [.Name x px, .Name y py, .Name z pz] kt pt] (.Tuple [e1, e2, e3] k2 pt2) X.env = pure (some [x, y, z]) := by rfl)
    (hs : swapsWithSole [.Tuple [.Name x px, .Name y py, .Name z pz] kt pt] (.Tuple [e1, e2, e3] k2 pt2) pos.line X.env = pure false := by rfl) : PS X (.Assign [.Tuple [.Name x px, .Name y py, .Name z pz] kt pt] (.Tuple [e1, e2, e3] k2 pt2) pos) (Ts X.K EQ (sPar3 i j l m)) :=
  (ps_par3 hc hN hi hj hl hij hil hjl hx hy hz ha hw hs).weak fun D σ H => by
    rintro ⟨ex, μ, env, sto, S, V, h⟩
    refine Ta.then S V h fun xs s1 vs μ1 H1 F1 S1 V1 r h1 => ?_
    split at h1
    · obtain ⟨u, v, w, rfl, ru, rv, rw'⟩ := three_of r
      exact ⟨u, v, w, rfl, h1 μ1 _ H1 F1.fwd S1 (((V1.set i ru).set j rv).set l rw')⟩
    · exact h1.elim
end
@[simp] theorem u_sPar3 (i j l : Nat) (m : DA) (env : Env) (s : Sto) : sPar3 i j l m env s = ((m env s).bind fun vs s1 => match vs with
  | [u, v, w] => .ok (.nx (((env.set i (some u)).set j (some v)).set l (some w))) s1
  | _ => .fail) := rfl
end Mx

set_option maxHeartbeats 4000000
namespace Mx
open PySem PySem.Spec PyProof.Rows L2
/-! ### a op b op' c op'' d -/
def tChain3 (r r' r'' : R2) (ta tb tc td : TE) : TE := fun σ H Q => ta σ H fun x H1 => tb σ H1 fun y H2 => r x y H2 fun z H3 => ∃ k, z = .bl k ∧
  (if k = true then tc σ H3 fun w H4 => r' y w H4 fun z H5 => ∃ k, z = .bl k ∧ (if k = true then td σ H5 fun u H6 => r'' w u H6 Q else Q (.bl false) H5) else Q (.bl false) H3)
def eChain3 (f g k : Sto → EV → EV → Option Dat) (a b c d : DE) : DE := fun env s => (a env s).bind fun x s1 => (b env s1).bind fun y s2 => match f s2 x y with
  | some (.bool true) => (c env s2).bind fun z s3 => match g s3 y z with
    | some (.bool true) => (d env s3).bind fun u s4 => liftD (k s4 z u) s4
    | some (.bool false) => .ok (.dat (.bool false)) s3
    | _ => .fail
  | some (.bool false) => .ok (.dat (.bool false)) s2
  | _ => .fail
section
variable {X : Cx} {EQ : EK} {a b c d : Expr} {ta tb tc td : TE} {ma mb mc md : DE} {σ : L2.St} {H : Hp} {Q : VK} {pos : Pos}
theorem pe_chain3 {op op' op'' : CmpOp} {r r' r'' : R2} (ho : OpR X (compareOp op) r) (ho' : OpR X (compareOp op') r') (ho'' : OpR X (compareOp op'') r'') (ha : PE X a ta) (hb : PE X b tb) (hc : PE X c tc) (hd : PE X d td)
    (hm : lastMarks [op, op', op''] [b, c, d] = false := by with_unfolding_all rfl) : PE X (.Compare a [op, op', op''] [b, c, d] pos) (tChain3 r r' r'' ta tb tc td) := by
  refine ⟨fun pins s σ H Q I h => ?_⟩
  refine Compare_chain (thn (ha.run pins s σ H _ I h) fun v1 s1 h1 => ?_) hm
  obtain ⟨x, H1, I1, r1, q1⟩ := h1
  refine chain_link (thn (hb.run pins s1 σ H1 _ I1 q1) fun v2 s2 h2 => ?_)
  obtain ⟨y, H2, I2, r2, q2⟩ := h2
  refine thn (ho pins s2 σ H2 x y v1 v2 _ I2 r1 r2 q2) fun v3 s3 h3 => ?_
  obtain ⟨z, H3, I3, r3, k, rfl, q3⟩ := h3
  cases r3
  refine wpAny_truthy_bool ?_
  cases k with
  | false => exact ite_ff ⟨.bl false, H3, I3, rfl, q3⟩
  | true =>
    refine ite_tt (chain_link (thn (hc.run pins s3 σ H3 _ I3 q3) fun v4 s4 h4 => ?_))
    obtain ⟨w, H4, I4, r4, q4⟩ := h4
    refine thn (ho' pins s4 σ H4 y w v2 v4 _ I4 r2 r4 q4) fun v5 s5 h5 => ?_
    obtain ⟨z2, H5, I5, r5, k2, rfl, q5⟩ := h5
    cases r5
    refine wpAny_truthy_bool ?_
    cases k2 with
    | false => exact ite_ff ⟨.bl false, H5, I5, rfl, q5⟩
    | true =>
      refine ite_tt (chain_last (thn (hd.run pins s5 σ H5 _ I5 q5) fun v6 s6 h6 => ?_))
      obtain ⟨u, H6, I6, r6, q6⟩ := h6
      exact ho'' pins s6 σ H6 w u v4 v6 Q I6 r4 r6 q6
theorem t_chain3 {r r' r'' : R2} {f g k : Sto → EV → EV → Option Dat} (hf : OpD X.K r f) (hg : OpD X.K r' g) (hk : OpD X.K r'' k) : T X.K EQ (eChain3 f g k ma mb mc md) σ H Q → tChain3 r r' r'' (T X.K EQ ma) (T X.K EQ mb) (T X.K EQ mc) (T X.K EQ md) σ H Q := by
  rintro ⟨ex, μ, env, sto, S, V, h⟩
  refine T.then S V h fun x s1 v μ1 H1 F1 S1 V1 r1 h1 => ?_
  refine T.then S1 V1 h1 fun y s2 w μ2 H2 F2 S2 V2 r2 h2 => ?_
  split at h2
  · rename_i e
    refine hf ex μ2 H2 s2 x y v w _ _ S2 (r1.fwd F2) r2 e fun v' μ3 H3 F3 S3 r3 => ?_
    cases r3
    refine ⟨true, rfl, ?_⟩
    rw [if_pos rfl]
    refine T.then S3 (V2.fwd F3) (R.wp_mono (fun _ _ z => z) (fun _ _ z => z.fwd F3.fwd) _ h2) fun z s4 u μ4 H4 F4 S4 V4 r4 h4 => ?_
    split at h4
    · rename_i e2
      refine hg ex μ4 H4 s4 y z w u _ _ S4 ((r2.fwd F3).fwd F4) r4 e2 fun v5 μ5 H5 F5 S5 r5 => ?_
      cases r5
      refine ⟨true, rfl, ?_⟩
      rw [if_pos rfl]
      refine T.then S5 (V4.fwd F5) (R.wp_mono (fun _ _ z => z) (fun _ _ z => z.fwd F5.fwd) _ h4) fun z2 s6 u2 μ6 H6 F6 S6 V6 r6 h6 => ?_
      obtain ⟨d, e', q⟩ := wp_liftD h6
      exact hk ex μ6 H6 s6 z z2 u u2 d Q S6 ((r4.fwd F5).fwd F6) r6 e' fun v' μ' H' F' S' r' => q v' μ' H' ((((((F1.trans F2).trans F3).trans F4).trans F5).trans F6).trans F') S' r'
    · rename_i e2
      refine hg ex μ4 H4 s4 y z w u _ _ S4 ((r2.fwd F3).fwd F4) r4 e2 fun v5 μ5 H5 F5 S5 r5 => ?_
      cases r5
      refine ⟨false, rfl, ?_⟩
      rw [if_neg (by decide)]
      exact h4 _ μ5 H5 ((((F1.trans F2).trans F3).trans F4).trans F5) S5 (.bl false)
    · exact h4.elim
  · rename_i e
    refine hf ex μ2 H2 s2 x y v w _ _ S2 (r1.fwd F2) r2 e fun v' μ3 H3 F3 S3 r3 => ?_
    cases r3
    refine ⟨false, rfl, ?_⟩
    rw [if_neg (by decide)]
    exact h2 _ μ3 H3 ((F1.trans F2).trans F3) S3 (.bl false)
  · exact h2.elim
theorem pe_ch3 {op op' op'' : CmpOp} {r r' r'' : R2} {f g k : Sto → EV → EV → Option Dat} (ho : OpR X (compareOp op) r) (ho' : OpR X (compareOp op') r') (ho'' : OpR X (compareOp op'') r'') (hf : OpD X.K r f) (hg : OpD X.K r' g) (hk : OpD X.K r'' k) (ha : PE X a (T X.K EQ ma)) (hb : PE X b (T X.K EQ mb)) (hc : PE X c (T X.K EQ mc)) (hd : PE X d (T X.K EQ md))
    (hm : lastMarks [op, op', op''] [b, c, d] = false := by with_unfolding_all rfl) : PE X (.Compare a [op, op', op''] [b, c, d] pos) (T X.K EQ (eChain3 f g k ma mb mc md)) :=
  (pe_chain3 ho ho' ho'' ha hb hc hd hm).weak fun _ _ _ => t_chain3 hf hg hk
end
@[simp] theorem u_eChain3 (f g k : Sto → EV → EV → Option Dat) (a b c d : DE) (env : Env) (s : Sto) : eChain3 f g k a b c d env s = ((a env s).bind fun x s1 => (b env s1).bind fun y s2 => match f s2 x y with
  | some (.bool true) => (c env s2).bind fun z s3 => match g s3 y z with
    | some (.bool true) => (d env s3).bind fun u s4 => liftD (k s4 z u) s4
    | some (.bool false) => .ok (.dat (.bool false)) s3
    | _ => .fail
  | some (.bool false) => .ok (.dat (.bool false)) s2
  | _ => .fail) := rfl
end Mx

set_option maxHeartbeats 4000000
namespace Mx
open PySem PySem.Spec PyProof.Rows L2
/-! ### zip(t, l, m): a tuple and two lists -/
def Itz3 (K : PySem.W.Frag) (a b c : Addr) : It :=
  ⟨fun i H => ∃ (xs ys zs : List V) (x y z : V), SqT K H a xs ∧ SqL K H b ys ∧ SqL K H c zs ∧ xs[i]? = some x ∧ ys[i]? = some y ∧ zs[i]? = some z,
    fun i H v H' => ∃ T x y z, v = .ref T ∧ H T = none ∧ H' = upd H T (.tup [x, y, z]) ∧ (∀ xs, SqT K H a xs → xs[i]? = some x) ∧ (∀ ys, SqL K H b ys → ys[i]? = some y) ∧ ∀ zs, SqL K H c zs → zs[i]? = some z,
    fun i H => ∃ xs ys zs : List V, SqT K H a xs ∧ SqL K H b ys ∧ SqL K H c zs ∧ i = min (min xs.length ys.length) zs.length⟩
theorem lt_of_get {α : Type} {xs : List α} {i : Nat} {x : α} (h : xs[i]? = some x) : i < xs.length := (List.getElem?_eq_some_iff.mp h).1
theorem turn_zip3 {P : Program} {w : World} {K : PySem.W.Frag} {elts : List Expr} {kk : Nat} {tpos : Pos} {a b c z TI TO i1 i2 i3 : Addr} (D : ZipSep3 z TI TO i1 i2 i3 [i1, a] [i2, b] [i3, c]) (na : a ≠ i1) (nb : b ≠ i2) (nc : c ≠ i3) :
    Turn P w K (.Tuple elts kk tpos) (Itz3 K a b c) [z, TI, TO, i1, i2, i3] z (fun i h => IsZip h z TI TO .none ∧ IsTupOf3 h TI (.ref i1) (.ref i2) (.ref i3) ∧ (∃ x y u, IsTupOf3 h TO x y u) ∧ h.IsTupleIter i1 a i ∧ h.IsListIter i2 b i ∧ h.IsListIter i3 c i) where
  mem := List.mem_cons_self
  obj := fun i h st q hq => by
    obtain ⟨hz, hTI, ⟨x, y, u, hTO⟩, ⟨o1, e1, _, d1⟩, ⟨o2, e2, _, d2⟩, ⟨o3, e3, _, d3⟩⟩ := st
    simp only [List.mem_cons, List.not_mem_nil, or_false] at hq
    rcases hq with rfl | rfl | rfl | rfl | rfl | rfl
    · exact ⟨_, hz, fun v z => nomatch z⟩
    · exact ⟨_, hTI, fun v z => nomatch z⟩
    · exact ⟨_, hTO, fun v z => nomatch z⟩
    · exact ⟨o1, e1, fun v z => by rw [d1] at z; cases z⟩
    · exact ⟨o2, e2, fun v z => by rw [d2] at z; cases z⟩
    · exact ⟨o3, e3, fun v z => by rw [d3] at z; cases z⟩
  keep := fun i h h' st k => by
    obtain ⟨hz, hTI, ⟨x, y, u, hTO⟩, h1, h2, h3⟩ := st
    exact ⟨k z (by simp) _ hz, k TI (by simp) _ hTI, ⟨x, y, u, k TO (by simp) _ hTO⟩, h1.at fun o q => k i1 (by simp) o q, h2.at fun o q => k i2 (by simp) o q, h3.at fun o q => k i3 (by simp) o q⟩
  item := by
    intro X hP hw hK hc i pins s σ H E I hf st hg
    subst hP hw hK
    obtain ⟨hz, hTI, hTO, h1, h2, h3⟩ := st
    obtain ⟨xs, ys, zs, x, y, u, qx, qy, qz, gx, gy, gz⟩ := hg
    obtain ⟨ia, ra, pa, _⟩ := I.tuple qx
    obtain ⟨ib, rb, pb, _⟩ := I.list qy
    obtain ⟨ic, rc, pc, _⟩ := I.list qz
    have hh := I.ok.hd hc
    have la := ra.length
    have lb := rb.length
    have lc := rc.length
    have W := GoesN.zip3 (elts := elts) (x1 := kk) (pos := tpos) D (Draws.tuple (prog := X.prog) (w := X.w) (A := X.A.in1) hh i1 a na ia.toArray) (Draws.list (prog := X.prog) (w := X.w) (A := X.A.in1) hh i2 b nb ib.toArray) (Draws.list (prog := X.prog) (w := X.w) (A := X.A.in1) hh i3 c nc ic.toArray)
    have gi1 := lt_of_get gx
    have gi2 := lt_of_get gy
    have gi3 := lt_of_get gz
    have hi : i < min (min ia.toArray.size ib.toArray.size) ic.toArray.size := by
      simp only [List.size_toArray]
      omega
    refine W.goes i s (fun v s2 => ∃ x H', Inv X pins σ H' s2 ∧ RelV x v ∧ (Itz3 X.K a b c).yld i H x H' ∧ (IsZip s2.heap z TI TO .none ∧ IsTupOf3 s2.heap TI (.ref i1) (.ref i2) (.ref i3) ∧ (∃ x y u, IsTupOf3 s2.heap TO x y u) ∧ s2.heap.IsTupleIter i1 a (i + 1) ∧ s2.heap.IsListIter i2 b (i + 1) ∧ s2.heap.IsListIter i3 c (i + 1)) ∧ ∀ q ∈ [z, TI, TO, i1, i2, i3], H' q = none) E hi ⟨hz, hTI, hTO, ⟨h1, pa⟩, ⟨h2, pb.isList⟩, ⟨h3, pc.isList⟩⟩ fun v h' tk hY st' hk htk => ?_
    obtain ⟨T, x', y', u', rfl, hT, px, py, pu, hTup⟩ := hY
    obtain ⟨hz', hTI', hTO', ⟨k1, _⟩, ⟨k2, _⟩, ⟨k3, _⟩⟩ := st'
    obtain ⟨v1, e1, r1⟩ := ra.get gx
    obtain ⟨v2, e2, r2⟩ := rb.get gy
    obtain ⟨v3, e3, r3⟩ := rc.get gz
    have px : ia.toArray[i]? = some x' := px
    have py : ib.toArray[i]? = some y' := py
    have pu : ic.toArray[i]? = some u' := pu
    rw [List.getElem?_toArray] at px py pu
    rw [e1] at px
    rw [e2] at py
    rw [e3] at pu
    cases px
    cases py
    cases pu
    have hn : H T = none := I.hok.fresh hT
    have new : ObjOk X.prog X.w (upd H T (.tup [x, y, u])) h' T (.tup [x, y, u]) := ⟨by show 3 ≤ sizeLine; decide, [x', y', u'], .cons r1 (.cons r2 (.cons r3 .nil)), hTup⟩
    have I1 : Inv X pins σ (upd H T (.tup [x, y, u])) { s with heap := h', toks := tk } :=
      I.turnedNew (t' := tk) (ch := [z, TI, TO, i1, i2, i3]) (fun q o hq e => hk q o (fun m => hq (by
        simp only [List.mem_cons, List.not_mem_nil, or_false] at m ⊢
        rcases m with m | m | m | m | m <;> simp [m])) e) hf hT new
    refine ⟨.ref T, _, I1, rfl, ⟨T, x, y, u, rfl, hn, rfl, fun l hl => by rw [I.tuple_inj hl qx]; exact gx, fun l hl => by rw [I.list_inj hl qy]; exact gy, fun l hl => by rw [I.list_inj hl qz]; exact gz⟩, ⟨hz', hTI', hTO', k1, k2, k3⟩, fun q hq => ?_⟩
    have hlt : q < s.heap.objs.size := by
      obtain ⟨b1, b2, b3, hTO1⟩ := hTO
      have hq' := hq
      simp only [List.mem_cons, List.not_mem_nil, or_false] at hq'
      rcases hq' with rfl | rfl | rfl | rfl | rfl | rfl
      · exact Heap.lt_size hz
      · exact Heap.lt_size hTI
      · exact Heap.lt_size hTO1
      · obtain ⟨_, z, _⟩ := h1; exact Heap.lt_size z
      · obtain ⟨_, z, _⟩ := h2; exact Heap.lt_size z
      · obtain ⟨_, z, _⟩ := h3; exact Heap.lt_size z
    rw [upd_ne (Nat.ne_of_lt (Nat.lt_of_lt_of_le hlt hT))]
    exact (hf q hq).1
  done := by
    intro X hP hw hK hc i pins s σ H E I hf st hg
    subst hP hw hK
    obtain ⟨hz, hTI, hTO, h1, h2, h3⟩ := st
    obtain ⟨xs, ys, zs, qx, qy, qz, hend⟩ := hg
    obtain ⟨ia, ra, pa, _⟩ := I.tuple qx
    obtain ⟨ib, rb, pb, _⟩ := I.list qy
    obtain ⟨ic, rc, pc, _⟩ := I.list qz
    have hh := I.ok.hd hc
    have la := ra.length
    have lb := rb.length
    have lc := rc.length
    have W := GoesN.zip3 (elts := elts) (x1 := kk) (pos := tpos) D (Draws.tuple (prog := X.prog) (w := X.w) (A := X.A.in1) hh i1 a na ia.toArray) (Draws.list (prog := X.prog) (w := X.w) (A := X.A.in1) hh i2 b nb ib.toArray) (Draws.list (prog := X.prog) (w := X.w) (A := X.A.in1) hh i3 c nc ic.toArray)
    have hi : i = min (min ia.toArray.size ib.toArray.size) ic.toArray.size := by
      simp only [List.size_toArray]
      omega
    subst hi
    exact W.stops s (fun s1 => Inv X pins σ H s1) E ⟨hz, hTI, hTO, ⟨h1, pa⟩, ⟨h2, pb.isList⟩, ⟨h3, pc.isList⟩⟩ fun h' tk hk htk => I.turnedL (t' := tk) (ch := [z, TI, TO, i1, i2, i3]) (fun q o hq e => hk q o (fun m => hq (by
        simp only [List.mem_cons, List.not_mem_nil, or_false] at m ⊢
        rcases m with m | m | m | m | m <;> simp [m])) e) hf
  self := fun A i s Q E st h => wpAny_pyIter_zip st.1 h
def iZip3 (K : PySem.W.Frag) (ta : TA) : TI := fun σ H R => ta σ H fun vs H1 => ∃ (a b c : Addr) (xs ys zs : List V), vs = [.ref a, .ref b, .ref c] ∧ SqT K H1 a xs ∧ SqL K H1 b ys ∧ SqL K H1 c zs ∧ R (Itz3 K a b c) H1
theorem pi_zip3 {X : Cx} {e1 e2 e3 : Expr} {ta : TA} {p pos tpos : Pos} {elts : List Expr} {kk : Nat} (hg : Gl X "zip") (hm : X.mg "zip" = none) (ha : PA X [e1, e2, e3] ta)
    (hs : starEach [e1, e2, e3] X.env = (false, eval e1 X.env) :: starEach [e2, e3] X.env := by rfl) (hpl : (backTo pos (starEach [e2, e3] X.env)).any (·.1) = false := by rfl) :
    PI X (.Tuple elts kk tpos) (.Call (.Name "zip" p) [e1, e2, e3] [] pos) (iZip3 X.K ta) := by
  refine ⟨fun pins s σ H R I h => Call_ (ld_blt I hg hm PyProof.Rows.boot_zip (PyProof.Rows.callWith_type1 (thn (ha.run pos pins s σ H _ I h) fun us s1 hh => ?_) hs hpl))⟩
  obtain ⟨vs, H1, I1, r1, a, b, c, xs, ys, zs, rfl, qx, qy, qz, q⟩ := hh
  obtain ⟨u1, us, rfl, w1, r1⟩ : ∃ u1 us', us = u1 :: us' ∧ RelV (.ref a) u1 ∧ Vals [.ref b, .ref c] us' := by cases r1 with | cons r rr => exact ⟨_, _, rfl, r, rr⟩
  obtain ⟨u2, us, rfl, w2, r1⟩ : ∃ u1 us', us = u1 :: us' ∧ RelV (.ref b) u1 ∧ Vals [.ref c] us' := by cases r1 with | cons r rr => exact ⟨_, _, rfl, r, rr⟩
  obtain ⟨u3, us, rfl, w3, r1⟩ : ∃ u1 us', us = u1 :: us' ∧ RelV (.ref c) u1 ∧ Vals [] us' := by cases r1 with | cons r rr => exact ⟨_, _, rfl, r, rr⟩
  cases r1
  cases w1
  cases w2
  cases w3
  obtain ⟨ia, ra, pa, _⟩ := I1.tuple qx
  obtain ⟨ib, rb, pb, _⟩ := I1.list qy
  obtain ⟨ic, rc, pc, _⟩ := I1.list qz
  have la : a < s1.heap.objs.size := by obtain ⟨o, ho, _⟩ := pa; exact Heap.lt_size ho
  have lb : b < s1.heap.objs.size := pb.lt
  have lc : c < s1.heap.objs.size := pc.lt
  refine zip_begins3 (begins_tuple a ia.toArray) (begins_list b ib.toArray) (begins_list c ic.toArray) pa pb.isList pc.isList fun h' hz hTI hTO g1 g2 g3 hsz hk => wpAny_pyIter_zip hz ?_
  have I2 : Inv X pins σ H1 { s1 with heap := h' } := I1.kept (t' := s1.toks) hk
  have D : ZipSep3 (s1.heap.objs.size + 5) (s1.heap.objs.size + 3) (s1.heap.objs.size + 4) s1.heap.objs.size (s1.heap.objs.size + 1) (s1.heap.objs.size + 2) [s1.heap.objs.size, a] [s1.heap.objs.size + 1, b] [s1.heap.objs.size + 2, c] :=
    zip_sep3 (fp1 := [a]) (fp2 := [b]) (fp3 := [c]) (fun q hq => by rw [List.mem_singleton.mp hq]; exact la) (fun q hq => by rw [List.mem_singleton.mp hq]; exact lb) (fun q hq => by rw [List.mem_singleton.mp hq]; exact lc)
  refine ⟨s1.heap.objs.size + 5, [s1.heap.objs.size + 5, s1.heap.objs.size + 3, s1.heap.objs.size + 4, s1.heap.objs.size, s1.heap.objs.size + 1, s1.heap.objs.size + 2], _, _, H1, rfl, I2, turn_zip3 D (Nat.ne_of_lt la) (Nat.ne_of_lt (Nat.lt_succ_of_lt lb)) (Nat.ne_of_lt (Nat.lt_succ_of_lt (Nat.lt_succ_of_lt lc))), ⟨hz, hTI, ⟨_, _, _, hTO⟩, ⟨_, g1, rfl, rfl⟩, ⟨_, g2, rfl, rfl⟩, ⟨_, g3, rfl, rfl⟩⟩, fun q hq => ?_, q⟩
  have hle : s1.heap.objs.size ≤ q := by
    simp only [List.mem_cons, List.not_mem_nil, or_false] at hq
    rcases hq with rfl | rfl | rfl | rfl | rfl | rfl
    · exact Nat.le_add_right _ _
    · exact Nat.le_add_right _ _
    · exact Nat.le_add_right _ _
    · exact Nat.le_refl _
    · exact Nat.le_add_right _ _
    · exact Nat.le_add_right _ _
  exact I1.fpOk hle (I1.hok.fresh hle)
def zip3D : List Dat → List Dat → List Dat → List Dat
  | a :: as, b :: bs, c :: cs => .tuple [a, b, c] :: zip3D as bs cs
  | _, _, _ => []
theorem zip3D_length : ∀ (a b c : List Dat), (zip3D a b c).length = min (min a.length b.length) c.length
  | [], _, _ => by simp [zip3D]
  | _ :: _, [], _ => by simp [zip3D]
  | _ :: _, _ :: _, [] => by simp [zip3D]
  | _ :: a, _ :: b, _ :: c => by
    rw [zip3D, List.length_cons, zip3D_length a b c, List.length_cons, List.length_cons, List.length_cons]
    omega
theorem zip3D_get : ∀ (a b c : List Dat) (i : Nat) (d : Dat), (zip3D a b c)[i]? = some d → ∃ x y z, a[i]? = some x ∧ b[i]? = some y ∧ c[i]? = some z ∧ d = .tuple [x, y, z]
  | [], _, _, i, d, h => by simp [zip3D] at h
  | _ :: _, [], _, i, d, h => by simp [zip3D] at h
  | _ :: _, _ :: _, [], i, d, h => by simp [zip3D] at h
  | x :: a, y :: b, z :: c, 0, d, h => by
    cases h
    exact ⟨x, y, z, rfl, rfl, rfl, rfl⟩
  | x :: a, y :: b, z :: c, i + 1, d, h => zip3D_get a b c i d h
def dZip3 (m n k : DE) : DI := fun env s => (m env s).bind fun x s1 => (n env s1).bind fun y s2 => (k env s2).bind fun z s3 => match x, y, z with
  | .dat (.tuple a), .dat (.list b), .dat (.list c) => .ok (zip3D a b c) s3
  | _, _, _ => .fail
theorem src_zip3 {K : PySem.W.Frag} {Hf : Hp} {a b c : Addr} {vs ws us : List V} {ds es fs : List Dat} (h : Hf a = some (.tup vs)) (l : vs.length ≤ sizeLine) (r : RpL Hf vs ds) (h2 : Hf b = some (.lst ws)) (r2 : RpL Hf ws es) (h3 : Hf c = some (.lst us)) (r3 : RpL Hf us fs) : Src (Itz3 K a b c) Hf (zip3D ds es fs) := by
  have hl := r.length
  have hl2 := r2.length
  have hl3 := r3.length
  refine ⟨?_, fun i H hi s => ?_, fun H s => ⟨vs, ws, us, SqT.of (s _ _ h), SqL.of (s _ _ h2), SqL.of (s _ _ h3), ?_⟩, fun i H x H' d hd s y => ?_⟩
  · rw [zip3D_length]
    omega
  · rw [zip3D_length] at hi
    exact ⟨vs, ws, us, vs[i]'(by omega), ws[i]'(by omega), us[i]'(by omega), SqT.of (s _ _ h), SqL.of (s _ _ h2), SqL.of (s _ _ h3), List.getElem?_eq_getElem _, List.getElem?_eq_getElem _, List.getElem?_eq_getElem _⟩
  · rw [zip3D_length]
    omega
  · obtain ⟨t, u, v, w, e1, e2, e3, q1, q2, q3⟩ := y
    obtain ⟨x1, x2, x3, hx1, hx2, hx3, rfl⟩ := zip3D_get ds es fs i d hd
    obtain ⟨v1, hv1, rv1⟩ := r.get hx1
    obtain ⟨v2, hv2, rv2⟩ := r2.get hx2
    obtain ⟨v3, hv3, rv3⟩ := r3.get hx3
    have w1 := q1 vs (SqT.of (s _ _ h))
    have w2 := q2 ws (SqL.of (s _ _ h2))
    have w3 := q3 us (SqL.of (s _ _ h3))
    rw [hv1] at w1
    rw [hv2] at w2
    rw [hv3] at w3
    cases w1
    cases w2
    cases w3
    exact .inr ⟨t, _, _, e1, e2, e3, rfl, by show 3 ≤ sizeLine; decide, .cons rv1 (.cons rv2 (.cons rv3 .nil))⟩
section
variable {X : Cx} {EQ : EK} {σ : L2.St} {H : Hp} {a b c : Expr} {pos p : Pos} {m n k : DE}
theorem pi_z3 {tpos : Pos} {elts : List Expr} {kk : Nat} (hg : Gl X "zip") (hm : X.mg "zip" = none) (ha : PE X a (T X.K EQ m)) (hb : PE X b (T X.K EQ n)) (hc : PE X c (T X.K EQ k)) (h0 : starEach [a, b, c] X.env = (false, eval a X.env) :: starEach [b, c] X.env := by rfl) (h00 : starEach [b, c] X.env = (false, eval b X.env) :: starEach [c] X.env := by rfl) (h000 : starEach [c] X.env = (false, eval c X.env) :: starEach [] X.env := by rfl) (hpl : (backTo pos (starEach [b, c] X.env)).any (·.1) = false := by rfl) :
    PI X (.Tuple elts kk tpos) (.Call (.Name "zip" p) [a, b, c] [] pos) (Ti X.K EQ (dZip3 m n k)) :=
  PI.weak (pi_zip3 hg hm (pa_cons ha (pa_cons hb (pa_cons hc pa_nil h000) h00) h0) h0 hpl) fun σ H Rr => by
    rintro ⟨ex, μ, env, sto, S, V, h⟩
    refine T.then S V h fun x s1 v μ1 H1 F1 S1 V1 r h1 => ?_
    refine T.then S1 V1 h1 fun y s2 w μ2 H2 F2 S2 V2 r2 h2 => ?_
    refine T.then S2 V2 h2 fun z s3 u μ3 H3 F3 S3 V3 r3 h3 => ?_
    have r' := (r.fwd F2).fwd F3
    have r2' := r2.fwd F3
    split at h3
    · obtain ⟨a, vs, rfl, ha, l, rr⟩ := Rp.tup_inv r'
      obtain ⟨b, ws, rfl, hb, l2, rr2⟩ := Rp.list_inv r2'
      obtain ⟨c, us, rfl, hc, l3, rr3⟩ := Rp.list_inv r3
      exact ⟨a, b, c, vs, ws, us, rfl, SqT.of (off_some ha).2, SqL.of (off_some hb).2, SqL.of (off_some hc).2, h3 _ μ3 H3 ((F1.trans F2).trans F3) S3 (src_zip3 ha l rr hb rr2 hc rr3)⟩
    · exact h3.elim
end
@[simp] theorem u_dZip3 (m n k : DE) (env : Env) (s : Sto) : dZip3 m n k env s = ((m env s).bind fun x s1 => (n env s1).bind fun y s2 => (k env s2).bind fun z s3 => match x, y, z with
  | .dat (.tuple a), .dat (.list b), .dat (.list c) => .ok (zip3D a b c) s3
  | _, _, _ => .fail) := rfl
end Mx

set_option maxHeartbeats 4000000
namespace Mx
open PySem PySem.Spec PyProof.Rows L2
/-! ### new dicts whose keys are tuples -/
theorem do_ext {P : Program} {w : World} {H : Hp} {h : Heap} {a : Addr} {es : List DictEntry} (hs : (a == sysModules) = false) {ep : Nat} (x : h.DictRaw a es.toArray ep) : ObjOk P w H h a (DO a es ep) := by
  obtain ⟨q, hq, h2, h3⟩ := x
  refine ⟨⟨hs, q, hq, h2, h3⟩, ⟨q, hq⟩, fun h1 h2' p k' => ?_⟩
  obtain ⟨p1, p3, p4, p5⟩ := p
  exact ⟨p1, p3, k' _ p4, p5⟩
theorem do_empty {P : Program} {w : World} {H : Hp} (h : Heap) (hb : sysModules < h.objs.size) : ObjOk P w H (h.push { cls := .type "dict", data := .dict #[] }) h.objs.size (DO h.objs.size [] 0) :=
  do_ext (ep := 0) (beq_eq_false_iff_ne.mpr (Ne.symm (Nat.ne_of_lt hb))) ⟨_, Heap.get?_push_size _ rfl, ⟨rfl, rfl, rfl⟩, rfl⟩
def eNewD : DE := fun _ s => .ok (.ref s.length) (s ++ [.dD []])
def tDNewD : TE := fun _ H Q => ∀ p, H p = none → Q (.ref p) (upd H p (DO p [] 0))
theorem dok_nil : DOk [] := ⟨fun p hp => absurd hp List.not_mem_nil, List.nodup_nil⟩
section
variable {X : Cx} {EQ : EK} {pos : Pos}
theorem pe_dnewD : PE X (.Dict [] [] pos) tDNewD := ⟨fun pins s σ H Q I h =>
  wpAny_Dict_empty ⟨.ref s.heap.objs.size, _, I.laid (a := s.heap.objs.size) (o := DO s.heap.objs.size [] 0) (t' := s.toks) (fun _ _ q => Heap.get?_push_of_some _ q) (Nat.le_refl _) (do_empty s.heap I.big), rfl, h _ (I.hok.fresh (Nat.le_refl _))⟩⟩
theorem pe_newD : PE X (.Dict [] [] pos) (T X.K EQ eNewD) := pe_dnewD.weak fun σ H Q => by
  rintro ⟨ex, μ, env, sto, S, V, h⟩
  intro p hp
  have S1 := S.laidX (o := DO p [] 0) hp
  exact h _ (μ ++ [[p]]) _ ((S.laid hp).2.add hp) (S1.add (out_ex S hp) ⟨p, [], 0, rfl, upd_same, Nat.zero_le _, dok_nil, .nil⟩) ⟨p, [], at_last S.len, rfl⟩
end
/-- a put by a comprehension -/
def PutD (D : Addr) (H : Hp) (y z : V) (Nx : Hp → Prop) : Prop := ∃ Hf es ep kvs kd d, Sub Hf H ∧ Hf D = none ∧ H D = some (DO D es ep) ∧ DOk kvs ∧ es.length < sizeLine ∧ RpE Hf es kvs ∧ tkD kd = true ∧ Rp Hf y kd ∧ Rp Hf z d ∧ ∀ es' ep', es'.length ≤ sizeLine → RpE Hf es' (putN kvs kd d) → Nx (upd H D (DO D es' ep'))
theorem do_put {X : Cx} {pins : List (Addr × Obj)} {σ : L2.St} {H : Hp} {s : Shared} {E : Value → Shared → Prop} {D : Addr} {y z : V} {u r' : Value} {Nx : Hp → Prop} {Q : Unit → Shared → Prop} (hu : X.A.units + 9 < cLine) (I : Inv X pins σ H s) (ry : RelV y u) (rv : RelV z r') (p : PutD D H y z Nx)
    (h : ∀ s' H', Inv X pins σ H' s' → Nx H' → Q () s') : wpAny (model X.prog X.w) X.A (dictSet D u r') Q E s := by
  obtain ⟨Hf, es, ep, kvs, k, d, sb, hn, ha, ko, hl, r, hk, rk, rd, nx⟩ := p
  obtain ⟨hs, xs, dd, er, ee⟩ := do_of I.hok sb ha ko r
  obtain ⟨b, rfl, ki⟩ := key_is I.hok (rk.mono sb) hk
  cases (show u = Value.ref b from ry)
  have hxl : xs.length < sizeLine := by
    have := congrArg List.length ee
    rw [List.length_map] at this
    omega
  refine wpAny_dictSet_heap (hsz := by omega) (by show X.A.units + 8 < cLine; omega) ki dd fun h' dd' hsb => ?_
  have er' := ents_put rk rv rd er
  have hlen : (storedH xs (nkD k) b r').length ≤ sizeLine := by
    have e1 := Paired.length er'
    have e2 := putN_len kvs k d
    have e3 := Paired.length er
    omega
  obtain ⟨q, es2, ep, hq, h2, h3, h4, h5, h6⟩ := dd'
  refine h _ _ ?_ (nx ((storedH xs (nkD k) b r').map (entryOfKey (nestedKind X.prog X.w))) ep (by rw [List.length_map]; exact hlen) (rpe_of X.w er' (putN_ok d ko hk).keys))
  exact d_write I (by rw [ha]; exact True.intro) hsb ⟨q, hq⟩ (do_ext hs (ep := ep) ⟨q, hq, h2, by rw [h3]; rw [← h4]⟩)
section
variable {X : Cx}
/-- {k: v for target in iter if ..}, keys tuples: D the new dict -/
def tDcD (wi : TI) (g : TG) (tt : TT) (tk tv : TE) (vs : List Nat) : TE := fun σ H Q => wi σ H fun J H1 => ∀ D, H1 D = none → ∃ W : Nat → Nat → Hp → Prop, (∃ m, W 0 m (upd H1 D (DO D [] 0))) ∧ ∀ i m H, W i m H →
  (J.stop i H ∧ Q (.ref D) H) ∨ (J.go i H ∧ ∃ Nx : Hp → Prop, (∀ H', Nx H' → ∃ m', m' < m ∧ W (i + 1) m' H') ∧ ∀ x H', J.yld i H x H' → g x (wipe σ vs) H' fun σ2 H2 => wipe σ2 vs = wipe σ vs ∧ tt σ2 H2 fun b H3 =>
    if b = true then tk σ2 H3 fun y H4 => tv σ2 H4 fun z H5 => PutD D H5 y z Nx else Nx H3)
theorem dcD_core {pins : List (Addr × Obj)} {s : Shared} {σ : L2.St} {H : Hp} {Q : VK} {kx vx tg iter : Expr} {ifs : List Expr} {scope : Scope} {own : List (Str × Nat)} {pos pos' : Pos} {wi : TI} {g : TG} {tt : TT} {tk tv : TE} {use : Option (Value → Sem Unit)} {Qf : Value → Shared → Prop}
    (hc : X.calm = true) (hN : X.N.Nodup) (I : Inv X pins σ H s) (hi : PI X tg iter wi) (ok : BlkOk X.N X.env.scope scope own)
    (hg : ∀ (s : Shared) (H : Hp) (C : Addr) (cl : List (Str × Addr)) (fp : List Addr), PG (X.blk s H scope (compEnvC scope cl C X.env) fp) tg g) (ht : ∀ (s : Shared) (H : Hp) (C : Addr) (cl : List (Str × Addr)) (fp : List Addr), PTs (X.blk s H scope (compEnvC scope cl C X.env) fp) ifs tt)
    (hk : ∀ (s : Shared) (H : Hp) (C : Addr) (cl : List (Str × Addr)) (fp : List Addr), PE (X.blk s H scope (compEnvC scope cl C X.env) fp) kx tk)
    (he : ∀ (s : Shared) (H : Hp) (C : Addr) (cl : List (Str × Addr)) (fp : List Addr), PE (X.blk s H scope (compEnvC scope cl C X.env) fp) vx tv) (hs : ∀ x, foldedSetIterable iter X.env x = pure x)
    (hu : X.A.units + 9 < cLine) (h : tDcD wi g tt tk tv (own.map (·.2)) σ H Q)
    (hRR : ∀ D C s' m H', Inv X pins σ H' s' → Q (.ref D) H' → s'.heap.Ns C m → FpOk X pins H' C → compPost (model X.prog X.w) X.A X.xe use Qf (.ref D) C (.ok .next) s') :
    wpAny (model X.prog X.w) X.A (comprehension (.DictComp kx vx [⟨tg, iter, ifs, 0⟩] scope pos) scope X.env pos' newDict false (eval iter X.env) use) Qf X.xe s := by
  have hfree : ∀ y ∈ scope.names, y.2 = .free → ∃ c, X.env.cells.lookup y.1 = some c := fun y hy e => by
    rcases ok.free y hy e with k | k
    · exact I.ok.has _ (.inl k)
    · exact I.ok.has _ (.inr k)
  refine wpAny_comprehension_free (use := use) rfl hs (closure_ok hfree) ok.kind (fun y hy e => by rw [ok.uniq y hy, e])
    (thn (hi.run pins s σ H _ I h) fun xv s1 hx => thn hx fun itv s2 h2 => ?_)
  obtain ⟨it, fp, tn, J, H2, e, I2, T, st2, f2, q⟩ := h2
  subst e
  refine wpAny_newObj_type (newEnv_comp ?_)
  generalize hD : s2.heap.objs.size = D
  have hDn : H2 D = none := I2.hok.fresh (Nat.le_of_eq hD)
  obtain ⟨W, ⟨m0, w0⟩, turn⟩ := q D hDn
  -- the new list
  generalize hs3 : ({ s2 with heap := s2.heap.push { cls := .type "dict", data := .dict #[] } } : Shared) = s3
  have I3 : Inv X pins σ (upd H2 D (DO D [] 0)) s3 := by
    rw [← hs3]
    refine I2.laid (t' := s2.toks) (fun b o e => Heap.get?_push_of_some _ e) (Nat.le_of_eq hD) ?_
    rw [← hD]
    exact do_empty s2.heap I2.big
  have h3 : s3.heap = s2.heap.push { cls := .type "dict", data := .dict #[] } := by rw [← hs3]
  have sz : ∀ b ∈ fp, b < s2.heap.objs.size := fun b hb => by
    obtain ⟨o, e, _⟩ := T.obj _ _ st2 b hb
    exact Heap.lt_size e
  have f3 : ∀ b ∈ fp, FpOk X pins (upd H2 D (DO D [] 0)) b ∧ b < s3.heap.objs.size := fun b hb => by
    have hlt := sz b hb
    refine ⟨⟨?_, (f2 b hb).2⟩, by rw [h3, Heap.size_push]; exact Nat.lt_succ_of_lt hlt⟩
    rw [upd_ne (by rw [← hD]; exact Nat.ne_of_lt hlt)]
    exact (f2 b hb).1
  have st3 : tn 0 s3.heap := T.keep _ _ _ st2 fun b _ o e => by rw [h3]; exact Heap.get?_push_of_some _ e
  have I4 := block_start I3 ok hN f3
  have pg := hg s3 (upd H2 D (DO D [] 0)) s3.heap.objs.size (cellsFrom (s3.heap.objs.size + 1) scope.names (cloFrom X.env.cells scope.names [])) fp
  have pt := ht s3 (upd H2 D (DO D [] 0)) s3.heap.objs.size (cellsFrom (s3.heap.objs.size + 1) scope.names (cloFrom X.env.cells scope.names [])) fp
  have pk := hk s3 (upd H2 D (DO D [] 0)) s3.heap.objs.size (cellsFrom (s3.heap.objs.size + 1) scope.names (cloFrom X.env.cells scope.names [])) fp
  have pe := he s3 (upd H2 D (DO D [] 0)) s3.heap.objs.size (cellsFrom (s3.heap.objs.size + 1) scope.names (cloFrom X.env.cells scope.names [])) fp
  show codeAny _ _ (.compStart (.DictComp kx vx [⟨tg, iter, ifs, 0⟩] scope pos) 0 (.ref it) (.ref D) (compEnvC scope (cellsFrom (s3.heap.objs.size + 1) scope.names (cloFrom X.env.cells scope.names [])) s3.heap.objs.size X.env)) (compPost (model X.prog X.w) X.A X.xe use Qf (.ref D) s3.heap.objs.size) { s3 with heap := pushCells (s3.heap.push { cls := .type "dict", data := .dict #[] }) scope.names }
  have nfp : ∀ b ∈ fp, (upd H2 D (DO D [] 0)) b = none := fun b hb => (f3 b hb).1.1
  generalize hce : compEnvC scope (cellsFrom (s3.heap.objs.size + 1) scope.names (cloFrom X.env.cells scope.names [])) s3.heap.objs.size X.env = ce at I4 pg pt pk pe ⊢
  have cL : ce.locals = s3.heap.objs.size := by subst hce; rfl
  generalize hH3 : upd H2 D (DO D [] 0) = H3 at I3 I4 pg pt pk pe w0 nfp f3
  generalize hs4 : ({ s3 with heap := pushCells (s3.heap.push { cls := .type "dict", data := .dict #[] }) scope.names } : Shared) = s4 at I4 ⊢
  have st4 : tn 0 s4.heap := T.keep _ _ _ st3 fun b _ o e => by rw [← hs4]; exact pushCells_keeps _ _ _ _ (Heap.get?_push_of_some _ e)
  have stat : ∀ {σ' : L2.St} {H' : Hp} {s' : Shared}, Inv (X.blk s3 H3 scope ce fp) [] σ' H' s' → (∀ b ∈ fp, H' b = none) → ∀ b ∈ fp, FpOk (X.blk s3 H3 scope ce fp) [] H' b := fun {σ' H' s'} I' hn b hb =>
    ⟨hn b hb, (I'.ok.exf b hb).1, I'.ok.exfs b hb, .inl hb, fun x c e => (I'.ok.exf b hb).2 x c e, fun p hp => absurd (show p ∈ ([] : List (Addr × Obj)) ++ [] from hp) (by simp)⟩
  have loop : codeAny (model X.prog X.w) X.A (.compLoop (.DictComp kx vx [⟨tg, iter, ifs, 0⟩] scope pos) 0 (.ref it) (.ref D) ce) (compPost (model X.prog X.w) X.A X.xe use Qf (.ref D) s3.heap.objs.size) s4 := by
    refine compLoop_anyD (fun n s' => ∃ i H', Inv (X.blk s3 H3 scope ce fp) [] (wipe σ (own.map (·.2))) H' s' ∧ tn i s'.heap ∧ (∀ b ∈ fp, H' b = none) ∧ W i n H') ?_ m0 ⟨0, H3, I4, st4, nfp, w0⟩
    rintro n s5 ⟨i, H5, I5, st5, n5, w5⟩
    rcases turn i n H5 w5 with ⟨stop, qq⟩ | ⟨go, Nx, hNx, step⟩
    · have td := T.done (X.blk s3 H3 scope ce fp) rfl rfl rfl hc i [] s5 _ H5 (fun _ _ => False) I5 (stat I5 n5) st5 stop
      refine thnF td fun r s6 ⟨hr, I6⟩ => ?_
      subst hr
      -- back in the def's context
      have I7 : Inv X pins σ H5 s6 := I3.call' (ch := fp) I6.os I6.base I6.hok I6.bare fun b hb => ⟨(f3 b hb).1.2.2.2.1, (f3 b hb).1.2.1, (f3 b hb).1.2.2.2.2.1, (f3 b hb).1.2.2.2.2.2⟩
      have nC : H5 s3.heap.objs.size = none := by
        have z : H5 ce.locals = none := I6.free
        rw [cL] at z
        exact z
      obtain ⟨m, hn, _⟩ := I6.loc
      have hn : s6.heap.Ns ce.locals m := hn
      rw [cL] at hn
      exact hRR D s3.heap.objs.size s6 m H5 I7 qq hn (I3.fpOk (Nat.le_refl _) nC)
    · have ti := T.item (X.blk s3 H3 scope ce fp) rfl rfl rfl hc i [] s5 _ H5 (fun _ _ => False) I5 (stat I5 n5) st5 go
      refine thnF ti fun r s6 ⟨u, hr, h6⟩ => ?_
      subst hr
      refine thnF h6 fun _ s7 ⟨x, H7, I7, r7, y7, st7, n7⟩ => ?_
      have I7' := I7.pinned (stat I7 n7) (T.obj _ _ st7)
      refine thnF (pg.run _ s7 _ H7 x u _ I7' r7 (step x H7 y7)) fun _ s8 ⟨σ8, H8, I8, hw8, q8⟩ => ?_
      refine thnF (pt.run _ s8 σ8 H8 _ I8 q8) fun b s9 ⟨H9, I9, q9⟩ => ?_
      -- the turn's end
      have fin : ∀ {s' : Shared} {H' : Hp}, Inv (X.blk s3 H3 scope ce fp) ([] ++ pinsAt fp s7.heap) σ8 H' s' → Nx H' → ∃ m, m < n ∧ ∃ i H', Inv (X.blk s3 H3 scope ce fp) [] (wipe σ (own.map (·.2))) H' s' ∧ tn i s'.heap ∧ (∀ b ∈ fp, H' b = none) ∧ W i m H' := fun {s' H'} I' nx => by
        obtain ⟨m', hm, w'⟩ := hNx H' nx
        have pin' : ∀ b ∈ fp, ∀ o, s7.heap.get? b = some o → s'.heap.get? b = some o ∧ H' b = none := fun b hb o e =>
          let z := I'.pin (b, o) (List.mem_append_right _ (List.mem_append_right _ (mem_pinsAt hb e)))
          ⟨z.1, z.2.1⟩
        have hl : (wipe σ (own.map (·.2))).length = σ8.length := by rw [← hw8, wipe_length]
        refine ⟨m', hm, i + 1, H', (I'.unpinned (pins := [])).weak hl (fun j v e => ?_), T.keep _ _ _ st7 fun b hb o e => (pin' b hb o e).1, fun b hb => ?_, w'⟩
        · rw [← hw8] at e
          exact (wipe_some e).1
        · obtain ⟨o, e, _⟩ := T.obj _ _ st7 b hb
          exact (pin' b hb o e).2
      cases b with
      | false =>
        simp only [Bool.false_eq_true, if_false] at q9 ⊢
        exact fin I9 q9
      | true =>
        simp only [if_true] at q9 ⊢
        refine thnF (pk.run _ s9 σ8 H9 _ I9 q9) fun z s10 ⟨yk, H10, I10, r10, q10⟩ => ?_
        refine thnF (pe.run _ s10 σ8 H10 _ I10 q10) fun z2 s11 ⟨yv, H11, I11, r11, nx⟩ => ?_
        exact do_put (X := X.blk s3 H3 scope ce fp) hu I11 r10 r11 nx fun s12 H12 I12 nx' => fin I12 nx'
  exact codeAny_compStart_dict loop (T.self X.A 0 _ _ _ st4 loop)
/-- as a value -/
theorem pe_dcD0 {kx vx tg iter : Expr} {ifs : List Expr} {scope : Scope} {own : List (Str × Nat)} {pos : Pos} {wi : TI} {g : TG} {tt : TT} {tk tv : TE} (hc : X.calm = true) (hN : X.N.Nodup) (hi : PI X tg iter wi) (ok : BlkOk X.N X.env.scope scope own)
    (hg : ∀ (s : Shared) (H : Hp) (C : Addr) (cl : List (Str × Addr)) (fp : List Addr), PG (X.blk s H scope (compEnvC scope cl C X.env) fp) tg g) (ht : ∀ (s : Shared) (H : Hp) (C : Addr) (cl : List (Str × Addr)) (fp : List Addr), PTs (X.blk s H scope (compEnvC scope cl C X.env) fp) ifs tt)
    (hk : ∀ (s : Shared) (H : Hp) (C : Addr) (cl : List (Str × Addr)) (fp : List Addr), PE (X.blk s H scope (compEnvC scope cl C X.env) fp) kx tk)
    (he : ∀ (s : Shared) (H : Hp) (C : Addr) (cl : List (Str × Addr)) (fp : List Addr), PE (X.blk s H scope (compEnvC scope cl C X.env) fp) vx tv) (hu : X.A.units + 9 < cLine) (hs : ∀ x, foldedSetIterable iter X.env x = pure x := by intro _; rfl) :
    PE X (.DictComp kx vx [⟨tg, iter, ifs, 0⟩] scope pos) (tDcD wi g tt tk tv (own.map (·.2))) := by
  refine ⟨fun pins s σ H Q I h => ?_⟩
  rw [arm_eval_DictComp]
  refine dcD_core hc hN I hi ok hg ht hk he hs hu h fun D C s' m H' I' q hn f => ⟨m, hn, fun h'' sb => ?_⟩
  obtain ⟨f0, f1, f2, f3, f4, f5⟩ := f
  exact ⟨.ref D, H', I'.turned (t' := s'.toks) (fun b o hb e => (sb.2 b hb).trans e) f0 f1 f3 f4 f5, rfl, q⟩
end
/-! ### dict comprehensions, keys tuples -/
def dcDGo (g : DG) (ifs : DT) (key val : DE) (env : Env) : List Dat → List (Dat × Dat) → Sto → R (List (Dat × Dat))
  | [], acc, s => .ok acc s
  | x :: xs, acc, s => match g env x with
    | some env1 => (ifs env1 s).bind fun b s1 => if b = true then (key env1 s1).bind fun k s2 => (val env1 s2).bind fun y s3 => match k, y with
        | .dat kd, .dat d => if acc.length < sizeLine ∧ tkD kd = true then dcDGo g ifs key val env xs (putN acc kd d) s3 else .fail
        | _, _ => .fail
      else dcDGo g ifs key val env xs acc s1
    | none => .fail
def eDcD (src : DI) (own : List Nat) (g : DG) (ifs : DT) (key val : DE) : DE := fun env s => (src env s).bind fun items s1 => (dcDGo g ifs key val (wipeE env own) items [] s1).bind fun kvs s2 => .ok (.ref s2.length) (s2 ++ [.dD kvs])
section
variable {X : Cx} {EQ : EK} {σ : L2.St} {H : Hp}
theorem t_dcD {src : DI} {own : List Nat} {g : DG} {ifs : DT} {key val : DE} {Q : VK} : T X.K EQ (eDcD src own g ifs key val) σ H Q → tDcD (Ti X.K EQ src) (Tg g own) (Tt X.K EQ ifs) (T X.K EQ key) (T X.K EQ val) own σ H Q := by
  rintro ⟨ex, μ, env, sto, S, V, h⟩
  refine ⟨ex, μ, env, sto, S, V, R.wp_mono (fun items s0 h0 J μ1 H1 F1 S1 sr => ?_) (fun _ _ z => z) _ ((R.wp_bind _).mp h)⟩
  intro D hD
  have hD0 : H D = none := F1.back S1 hD
  have nDex : D ∉ ex := out_ex S hD0
  let W : Nat → Nat → Hp → Prop := fun i k H' => ∃ μ' s' acc vs ep, i + k = items.length ∧ FwdE μ H μ' H' ∧ Sub (hf ex μ1 H1) (hf (D :: ex) μ' H') ∧ StoR X.K (D :: ex) μ' H' s' ∧ EnvR (hf (D :: ex) μ' H') μ' (wipe σ own) (wipeE env own) ∧ H' D = some (DO D vs ep) ∧ vs.length ≤ sizeLine ∧ DOk acc ∧ RpE (hf (D :: ex) μ' H') vs acc ∧
    ((dcDGo g ifs key val (wipeE env own) (items.drop i) acc s').bind fun kvs s2 => R.ok (EV.ref s2.length) (s2 ++ [.dD kvs])).wp (fun d s' => ∀ v μ' H', FwdE μ H μ' H' → StoR X.K ex μ' H' s' → EvR (hf ex μ' H') μ' v d → Q v H') (ePost X.K EQ ex μ H)
  refine ⟨W, ⟨items.length, μ1, s0, [], [], 0, by omega, F1.trans (S1.laid hD).2, ?_, S1.laidX hD, (V.fwdX (F1.trans (S1.laid hD).2) hD0).wipe own, upd_same, Nat.zero_le _, dok_nil, .nil, ?_⟩, fun i k H' hW => ?_⟩
  · exact (S1.laid (o := DO D [] 0) hD).2.fwd.subX hD
  · rw [List.drop_zero]
    exact h0
  · obtain ⟨μ', s', acc, vs, ep, hk, F, sub, S', V', hl, lz, ko, rr, hw⟩ := hW
    have subH : Sub (hf ex μ1 H1) H' := sub.trans (off_sub _ _)
    by_cases hi : i < items.length
    · refine .inr ⟨sr.goes i H' hi subH, fun H2 => W (i + 1) (k - 1) H2, fun H2 q => ⟨k - 1, by omega, q⟩, fun x H2 hy => ?_⟩
      have hw := (R.wp_bind _).mp hw
      rw [List.drop_eq_getElem_cons hi] at hw
      unfold dcDGo at hw
      split at hw
      · rename_i env1 he1
        have item : ∃ (μ2 : Mu), FwdE μ' H' μ2 H2 ∧ StoR X.K (D :: ex) μ2 H2 s' ∧ Rp (hf (D :: ex) μ2 H2) x items[i] ∧ H2 D = some (DO D vs ep) := by
          rcases sr.yields i H' x H2 _ (List.getElem?_eq_getElem hi) subH hy with ⟨rfl, rx⟩ | ⟨t, ws, ds, rfl, ht, rfl, hd, lw, rw'⟩
          · exact ⟨μ', .refl _ _, S', rx.mono sub, hl⟩
          · have L := S'.laid (o := .tup ws) ht
            refine ⟨μ', L.2, L.1, ?_, by rw [upd_ne (ne_of_none hl ht)]; exact hl⟩
            rw [hd]
            exact .tup (S'.at_new ht) lw ((rw'.mono sub).mono L.2.fwd.sub)
        obtain ⟨μ2, F2, S2, rx, hl2⟩ := item
        have V2 := V'.fwd F2
        refine ⟨D :: ex, μ2, wipeE env own, items[i], V2, rx, env1, he1, fun σ2 V3 hwp => ⟨hwp.trans (wipe_wipe _ _), ?_⟩⟩
        refine ⟨D :: ex, μ2, env1, s', S2, V3, R.wp_mono (fun b s3 q μ3 H3 F3 S3 => ?_) (fun e s q μ3 H3 F3 S3 => q μ3 H3 ((F.trans F2).fwd.trans F3) S3.less) _ ((R.wp_bind _).mp hw)⟩
        have hl3 : H3 D = some (DO D vs ep) := F3.keep D _ (S2.dis D List.mem_cons_self) hl2
        have rr3 := (rr.mono F2.fwd.sub).mono F3.fwd.sub
        have F03 : FwdE μ H μ3 H3 := (F.trans F2).trans F3
        have sub3 : Sub (hf ex μ1 H1) (hf (D :: ex) μ3 H3) := (sub.trans F2.fwd.sub).trans F3.fwd.sub
        cases b with
        | false => exact iteF ⟨μ3, s3, acc, vs, ep, by omega, F03, sub3, S3, V2.fwd F3, hl3, lz, ko, rr3, (R.wp_bind _).mpr q⟩
        | true =>
          rw [if_pos rfl] at q
          refine iteT ⟨D :: ex, μ3, env1, s3, S3, V3.fwd F3, R.wp_mono (fun kd s4 q kv μ4 H4 F4 S4 r4 => ?_) (fun e s q μ4 H4 F4 S4 => q μ4 H4 (F03.fwd.trans F4) S4.less) _ ((R.wp_bind _).mp q)⟩
          refine ⟨D :: ex, μ4, env1, s4, S4, (V3.fwd F3).fwd F4, R.wp_mono (fun y s5 q yv μ5 H5 F5 S5 r5 => ?_) (fun e s q μ5 H5 F5 S5 => q μ5 H5 ((F03.trans F4).fwd.trans F5) S5.less) _ ((R.wp_bind _).mp q)⟩
          have hl5 : H5 D = some (DO D vs ep) := F5.keep D _ (S4.dis D List.mem_cons_self) (F4.keep D _ (S3.dis D List.mem_cons_self) hl3)
          cases kd with
          | ref _ => exact q.elim
          | dat kdd =>
           cases y with
           | ref _ => exact q.elim
           | dat d =>
            simp only at q
            split at q
            · rename_i hlen
              have O := S5.over (o := DO D vs ep) (D := D) List.mem_cons_self
              have F05 : FwdE μ H μ5 H5 := (F03.trans F4).trans F5
              have rr5 := (rr3.mono F4.fwd.sub).mono F5.fwd.sub
              have hlv : vs.length < sizeLine := by rw [rr5.length]; exact hlen.1
              refine ⟨hf (D :: ex) μ5 H5, vs, ep, acc, kdd, d, off_sub _ _, ?_, hl5, ko, hlv, rr5, hlen.2, (show Rp (hf (D :: ex) μ4 H4) kv kdd from r4).mono F5.fwd.sub, r5, fun es' ep' hes re => ?_⟩
              · unfold hf off
                rw [if_pos (by simp)]
              · have O := S5.over (o := DO D es' ep') (D := D) List.mem_cons_self
                refine ⟨μ5, s5, putN acc kdd d, es', ep', by omega, ?_, ?_, O.1, ?_, upd_same, hes, putN_ok d ko hlen.2, ?_, (R.wp_bind _).mpr q⟩
                · refine ⟨fun a o n e => ?_, F05.fresh, F05.ext⟩
                  rw [upd_ne (ne_of_none e hD0)]
                  exact F05.keep a o n e
                · rw [O.2]
                  exact (sub3.trans F4.fwd.sub).trans F5.fwd.sub
                · rw [O.2]
                  exact ((V2.fwd F3).fwd F4).fwd F5
                · rw [O.2]
                  exact re
            · exact q.elim
      · exact hw.elim
    · have hi' : i = items.length := by omega
      subst hi'
      refine .inl ⟨sr.stops H' subH, ?_⟩
      rw [List.drop_length] at hw
      exact hw _ (μ' ++ [[D]]) H' (F.add hD0) (S'.add nDex ⟨D, vs, ep, rfl, hl, lz, ko, rr⟩) ⟨D, [], at_last S'.len, rfl⟩
theorem pe_dcmD {kx vx tg iter : Expr} {ifs : List Expr} {scope : Scope} {own : List (Str × Nat)} {pos : Pos} {src : DI} {g : DG} {tt : DT} {mk mv : DE} (hc : X.calm = true) (hN : X.N.Nodup) (hi : PI X tg iter (Ti X.K EQ src)) (ok : BlkOk X.N X.env.scope scope own)
    (hg : ∀ (s : Shared) (H : Hp) (C : Addr) (cl : List (Str × Addr)) (fp : List Addr), PG (X.blk s H scope (compEnvC scope cl C X.env) fp) tg (Tg g (own.map (·.2)))) (ht : ∀ (s : Shared) (H : Hp) (C : Addr) (cl : List (Str × Addr)) (fp : List Addr), PTs (X.blk s H scope (compEnvC scope cl C X.env) fp) ifs (Tt X.K EQ tt))
    (hk : ∀ (s : Shared) (H : Hp) (C : Addr) (cl : List (Str × Addr)) (fp : List Addr), PE (X.blk s H scope (compEnvC scope cl C X.env) fp) kx (T X.K EQ mk))
    (he : ∀ (s : Shared) (H : Hp) (C : Addr) (cl : List (Str × Addr)) (fp : List Addr), PE (X.blk s H scope (compEnvC scope cl C X.env) fp) vx (T X.K EQ mv)) (hu : X.A.units + 9 < cLine) (hs : ∀ x, foldedSetIterable iter X.env x = pure x := by intro _; rfl) :
    PE X (.DictComp kx vx [⟨tg, iter, ifs, 0⟩] scope pos) (T X.K EQ (eDcD src (own.map (·.2)) g tt mk mv)) := (pe_dcD0 hc hN hi ok hg ht hk he hu hs).weak fun _ _ _ => t_dcD
end
section
variable {X : Cx} {EQ : EK}
theorem ps_setDcD {i : Nat} {y : Str} {py : Pos} {kx vx tg iter : Expr} {ifs : List Expr} {scope : Scope} {own : List (Str × Nat)} {pos spos : Pos} {wi : TI} {g : TG} {tt : TT} {tk tv : TE} (hc : X.calm = true) (hN : X.N.Nodup) (hy : X.N[i]? = some y) (hyl : X.env.scope.names.lookup y = some .local)
    (hsw : swapsWith (.DictComp kx vx [⟨tg, iter, ifs, 0⟩] scope pos) (some (.Name y py)) spos.line X.env = pure true) (hi : PI X tg iter wi) (ok : BlkOk X.N X.env.scope scope own)
    (hg : ∀ (s : Shared) (H : Hp) (C : Addr) (cl : List (Str × Addr)) (fp : List Addr), PG (X.blk s H scope (compEnvC scope cl C X.env) fp) tg g) (ht : ∀ (s : Shared) (H : Hp) (C : Addr) (cl : List (Str × Addr)) (fp : List Addr), PTs (X.blk s H scope (compEnvC scope cl C X.env) fp) ifs tt)
    (hk : ∀ (s : Shared) (H : Hp) (C : Addr) (cl : List (Str × Addr)) (fp : List Addr), PE (X.blk s H scope (compEnvC scope cl C X.env) fp) kx tk)
    (he : ∀ (s : Shared) (H : Hp) (C : Addr) (cl : List (Str × Addr)) (fp : List Addr), PE (X.blk s H scope (compEnvC scope cl C X.env) fp) vx tv) (hu : X.A.units + 9 < cLine) (hs : ∀ x, foldedSetIterable iter X.env x = pure x) :
    PS X (.Assign [.Name y py] (.DictComp kx vx [⟨tg, iter, ifs, 0⟩] scope pos) spos) (tAsg (tDcD wi g tt tk tv (own.map (·.2))) (gName i)) := by
  refine ⟨fun pins s σ H D I h => ?_⟩
  rw [exec_Assign_Name_used _ _ _ _ hsw]
  refine wpAny_bind (wpAny_standAt (wpAny_bind ?_))
  show wpAny _ X.A (do let _ ← comprehension (.DictComp kx vx [⟨tg, iter, ifs, 0⟩] scope pos) scope X.env (firstIterPos [⟨tg, iter, ifs, 0⟩] pos) newDict false (eval iter X.env) (some (assign (.Name y py) X.env))) _ _ s
  have h : tDcD wi g tt tk tv (own.map (·.2)) σ H (fun x H1 => gName i x σ H1 D.nx) := h
  refine wpAny_bind (thn (dcD_core (Qf := fun _ s' => SP X pins D .next s') hc hN I hi ok hg ht hk he hs hu h fun L C s' m H' I' q hn f => ?_) fun _ s' hq => wpAny_pure (wpAny_pure hq))
  show wpAny _ _ (assign (.Name y py) X.env (.ref L)) _ _ _
  refine wpAny_assign_Name (store_ok2 (v := V.ref L) I' hN hy (.inl hyl) rfl (fun s2 I2 ⟨a, sb, ha⟩ => ?_) (.inr hyl))
  obtain ⟨f0, f1, f2, f3, f4, f5⟩ := f
  have haC : C ≠ a := by
    rcases ha with z | z
    · rw [z]; exact f1
    · exact fun e => f4 y a z e.symm
  refine ⟨m, hn.sameBut sb haC, fun h3 sb3 => ?_⟩
  exact ⟨_, H', I2.turned (t' := s2.toks) (fun b o hb e => (sb3.2 b hb).trans e) f0 f1 f3 f4 f5, q⟩
theorem st_setDcD (i : Nat) {y : Str} {py : Pos} {kx vx tg iter : Expr} {ifs : List Expr} {scope : Scope} {own : List (Str × Nat)} {pos spos : Pos} {src : DI} {g : DG} {tt : DT} {mk mv : DE} (hc : X.calm = true) (hN : X.N.Nodup) (hi : PI X tg iter (Ti X.K EQ src)) (ok : BlkOk X.N X.env.scope scope own)
    (hg : ∀ (s : Shared) (H : Hp) (C : Addr) (cl : List (Str × Addr)) (fp : List Addr), PG (X.blk s H scope (compEnvC scope cl C X.env) fp) tg (Tg g (own.map (·.2)))) (ht : ∀ (s : Shared) (H : Hp) (C : Addr) (cl : List (Str × Addr)) (fp : List Addr), PTs (X.blk s H scope (compEnvC scope cl C X.env) fp) ifs (Tt X.K EQ tt))
    (hk : ∀ (s : Shared) (H : Hp) (C : Addr) (cl : List (Str × Addr)) (fp : List Addr), PE (X.blk s H scope (compEnvC scope cl C X.env) fp) kx (T X.K EQ mk))
    (he : ∀ (s : Shared) (H : Hp) (C : Addr) (cl : List (Str × Addr)) (fp : List Addr), PE (X.blk s H scope (compEnvC scope cl C X.env) fp) vx (T X.K EQ mv))
    (hu : X.A.units + 9 < cLine) (hy : X.N[i]? = some y := by rfl) (hyl : X.env.scope.names.lookup y = some .local := by rfl) (hsw : swapsWith (.DictComp kx vx [⟨tg, iter, ifs, 0⟩] scope pos) (some (.Name y py)) spos.line X.env = pure true := by exact sw_trueD rfl rfl rfl (by decide +kernel)) (hs : ∀ x, foldedSetIterable iter X.env x = pure x := by intro _; rfl) :
    PS X (.Assign [.Name y py] (.DictComp kx vx [⟨tg, iter, ifs, 0⟩] scope pos) spos) (Ts X.K EQ (sSet i (eDcD src (own.map (·.2)) g tt mk mv))) :=
  (ps_setDcD hc hN hy hyl hsw hi ok hg ht hk he hu hs).weak fun D σ H h => t_dcD (ts_set h)
end
@[simp] theorem u_eNewD x0 s : eNewD x0 s = (.ok (.ref s.length) (s ++ [.dD []])) := rfl
@[simp] theorem u_eDcD (src : DI) (own : List Nat) (g : DG) (ifs : DT) (key val : DE) env s : eDcD src own g ifs key val env s = ((src env s).bind fun items s1 => (dcDGo g ifs key val (wipeE env own) items [] s1).bind fun kvs s2 => .ok (.ref s2.length) (s2 ++ [.dD kvs])) := rfl
end Mx

set_option maxHeartbeats 4000000
namespace Mx
open PySem PySem.Spec PyProof.Rows L2
/-! ### d[k], x = a, b -/
def putKF (sto : Sto) (o i : EV) (v : EV) : Option Sto := match o, i, v with
  | .ref c, .dat k, .dat d => match sto[c]? with
    | some (.dK kvs) => if kvs.length < sizeLine then (keyD k).map fun k => sto.set c (.dK (putD kvs k d)) else none
    | _ => none
  | _, _, _ => none
def sPutSet (o i : DE) (j : Nat) (m : DA) : DS := fun env s => (m env s).bind fun vs s1 => match vs with
  | [v, w] => (o env s1).bind fun x s2 => (i env s2).bind fun y s3 => match putKF s3 x y v with
    | some s4 => .ok (.nx (env.set j (some w))) s4
    | none => .fail
  | _ => .fail
def rPutK : TSet := fun o i v H Q => ∃ a H4, o = .ref a ∧ DPut H a i v H4 ∧ Q H4
section
variable {X : Cx} {EQ : EK}
theorem set_dictK (hu : X.A.units + 1 < cLine) : PSet X rPutK := by
  intro pins s σ H o i v ov iv u Q I ro ri rv ⟨a, H4, e, g, q⟩
  subst e
  obtain rfl : ov = Value.ref a := ro
  exact d_setItem hu I g ri rv fun s4 I4 => ⟨H4, I4, q⟩
theorem st_putSet {o i : Expr} {mo mi : DE} {es : List Expr} {m : DA} (j : Nat) {y : Str} {kt k2 : Nat} {pt pt2 py tpos pos : Pos} (hu : X.A.units + 9 < cLine) (hc : X.calm = true) (hN : X.N.Nodup) (ha : PA X es (Ta X.K EQ m)) (ho : PE X o (T X.K EQ mo)) (hi : PE X i (T X.K EQ mi)) (hy : X.N[j]? = some y := by rfl) (hx : Loc X.env.scope y := by first | exact Or.inl rfl | exact Or.inr rfl)
    (hf' : X.fn y = true ∨ X.env.scope.names.lookup y = some .local := by first | exact .inl rfl | exact .inr rfl | assumption)
    (ha' : ∀ v, assign (.Subscript o i tpos) X.env v = (do
      let ov ← holding [v] (eval o X.env)
      let iv ← holding [v, ov] (eval i X.env)
      standAt tpos
      holding [v, ov, iv] (setItem ov iv v)
      release [v, ov, iv] []) := by intro _; rfl)
    (hs1 : (assignEach [.Subscript o i tpos, .Name y py] X.env).map (·.2) = assign (.Subscript o i tpos) X.env :: (assignEach [.Name y py] X.env).map (·.2) := by rfl) (hs2 : (assignEach [.Name y py] X.env).map (·.2) = assign (.Name y py) X.env :: (assignEach [] X.env).map (·.2) := by rfl)
    (hn : (assignEach [.Subscript o i tpos, .Name y py] X.env).length = 2 := by rfl) (hst : (assignEach [.Subscript o i tpos, .Name y py] X.env).findIdx? (·.1) = none := by rfl)
    (hs : swapsWithSole [.Tuple [.Subscript o i tpos, .Name y py] kt pt] (.Tuple es k2 pt2) pos.line X.env = pure false := by rfl) (hw : swappedStores [.Tuple [.Subscript o i tpos, .Name y py] kt pt] (.Tuple es k2 pt2) X.env = pure none := by rfl)
    (h1 : (assignEach [.Tuple [.Subscript o i tpos, .Name y py] kt pt] X.env).map (·.2) = [assign (.Tuple [.Subscript o i tpos, .Name y py] kt pt) X.env] := by rfl) :
    PS X (.Assign [.Tuple [.Subscript o i tpos, .Name y py] kt pt] (.Tuple es k2 pt2) pos) (Ts X.K EQ (sPutSet mo mi j m)) :=
  (ps_asg (L2.pe_tup ha) (pg_tup hc (pgs_cons (pg_sub ho hi (set_dictK (by omega)) ha') (pgs_cons (pg_name hN hy hx hf') pgs_nil hs2) hs1) hn hst) hs hw h1).weak fun D σ H => by
    rintro ⟨ex, μ, env, sto, S, V, h⟩
    refine Ta.then S V h fun xs s1 vs μ1 H1 F1 S1 V1 r h1 => ?_
    split at h1
    · rename_i v w
      cases r with
      | cons rv r2 =>
        rename_i a' vs'
        obtain ⟨b', rfl, rw'⟩ := one_of r2
        refine ⟨(show 2 ≤ sizeLine by decide), fun q hq => ?_⟩
        have L := S1.laid (o := .tup [a', b']) hq
        refine ⟨q, [a', b'], rfl, SqT.of upd_same, rfl, a', [b'], rfl, ?_⟩
        have h1' := R.wp_mono (fun _ _ z => z) (fun _ _ z => z.fwd L.2.fwd) _ h1
        refine T.then L.1 (V1.fwd L.2) h1' fun x s2 u μ2 H2 F2 S2 V2 r2 h2 => ?_
        refine T.then S2 V2 h2 fun y s3 t μ3 H3 F3 S3 V3 r3 h3 => ?_
        have rv3 := ((rv.fwd L.2).fwd F2).fwd F3
        have rw3 := ((rw'.fwd L.2).fwd F2).fwd F3
        split at h3
        · rename_i s4 ef
          unfold putKF at ef
          split at ef
          · split at ef
            · rename_i kvs hs
              split at ef
              · rename_i hl
                cases hk : keyD _ with
                | none => rw [hk] at ef; cases ef
                | some k =>
                  rw [hk] at ef
                  cases ef
                  obtain ⟨a, as, hμ, rfl⟩ := r2.fwd F3
                  obtain ⟨b, vs, e, hb, p⟩ := S3.cells _ _ _ hμ hs
                  cases e
                  have ek := keyD_v r3 hk
                  subst ek
                  have P := S3.put (o := .dK (putK vs k a')) (cell := .dK (putD kvs k _)) hμ List.mem_cons_self ⟨a, putK vs k a', rfl, upd_same, pairedK_put p rv3⟩
                  have V4 := (V3.fwd P.2).set j (rw3.fwd P.2)
                  exact ⟨a, _, rfl, DPut.k hb (by rw [pairedK_len p]; exact hl), b', [], rfl, rfl, h3 μ3 _ _ ((((F1.trans L.2).trans F2).trans F3).trans P.2).fwd P.1 V4⟩
              · cases ef
            · cases ef
          · cases ef
        · exact h3.elim
    · exact h1.elim
end
@[simp] theorem u_sPutSet (o i : DE) (j : Nat) (m : DA) env s : sPutSet o i j m env s = ((m env s).bind fun vs s1 => match vs with
  | [v, w] => (o env s1).bind fun x s2 => (i env s2).bind fun y s3 => match putKF s3 x y v with
    | some s4 => .ok (.nx (env.set j (some w))) s4
    | none => .fail
  | _ => .fail) := rfl
end Mx

set_option maxHeartbeats 4000000
namespace Mx
open PySem PySem.Spec PyProof.Rows L2
/-! ### a tuple once -/
theorem tuple_mul1 (l : Addr) (items : Array Value) (n : Nat) (dd : Option Addr) (sl : Array (Option Value)) (u : Tok) :
    PySem.Meets (Builtin.«tuple.__mul__» ⟨[.ref l, .int 1 u], []⟩) (fun _ R s => s.heap.get? l = some { cls := .type "tuple", dict := dd, data := .seq items n, slots := sl } ∧ R (.ok (.ret (Value.ref l))) s) :=
  .of_wp fun prog w A R s h => by
    obtain ⟨hp, g, d, tk, os⟩ := s
    obtain ⟨hl, h⟩ := h
    have f1 := AutoSeq1.idx_int
    have c1 : (items.isEmpty || (1 : Int) == 1) = true := by simp
    wp_walk using wpAny_loadPart' hl
    repeat (first
      | (refine wpAny_ite_false (decide_eq_false (by decide)) ?_; wp_walk using wpAny_loadPart' hl)
      | (refine wpAny_ite_true (decide_eq_true c1) ?_; wp_walk using wpAny_loadPart' hl))
    exact ⟨_, rfl, h⟩
def rMul1 (K : PySem.W.Frag) : R2 := fun x y H Q => ∃ l xs, x = .ref l ∧ y = .int 1 ∧ SqT K H l xs ∧ Q (.ref l) H
theorem op_mul1 {X : Cx} : OpR X (binaryOp .Mult) (rMul1 X.K) := by
  intro pins s σ H x y v u Q I rx ry h
  obtain ⟨l, xs, rfl, rfl, hT, q⟩ := h
  cases rx
  obtain ⟨t, rfl⟩ := ry
  obtain ⟨its, r, ⟨⟨cls, dd, data, sl⟩, ho, hc, n, hd⟩, hs⟩ := I.tuple hT
  simp only at hc hd
  subst hc hd
  refine wpAny_binaryOp_repeat_ref (T := "tuple") (U := "int") (by decide) ⟨_, ho, rfl⟩ (fun s' => typeIs_int s' 1 t) noFill_tuple_mul F.fills_int_mul F.slot_int_rmul repeat_tuple F.slot_int_index.lookup
    (call_meets F.slot_int_rmul (typeIs_int s 1 t) F.entry_int_rmul (F.args_int_rmul_2 _ _) (int_rmul_tuple 1 t l its.toArray n dd sl)
      ⟨ho, rfl, ⟨_, ho, rfl⟩, call_meets F.slot_tuple_mul ⟨_, ho, rfl⟩ F.entry_tuple_mul (F.args_tuple_mul_2 _ _) (tuple_mul1 l its.toArray n dd sl t) ⟨ho, ?_⟩⟩)
  exact ⟨.ref l, H, I, rfl, q⟩
def mulE : Sto → EV → EV → Option Dat := fun sto x y => match x, y with
  | .dat (.tuple a), .dat (.int 1) => some (.tuple a)
  | _, _ => mulD sto x y
def rMulB (K : PySem.W.Frag) : R2 := fun x y H Q => rMul1 K x y H Q ∨ rMulA K x y H Q
theorem op_mulB {X : Cx} : OpR X (binaryOp .Mult) (rMulB X.K) := OpR.or op_mul1 op_mulA
theorem od_mulB {K : PySem.W.Frag} : OpD K (rMulB K) mulE := by
  intro ex μ H sto x y v w d Q S rx ry h q
  unfold mulE at h
  split at h
  · cases h
    have ra : Rp _ _ _ := rx
    obtain ⟨pa, va, rfl, ha, la, rr⟩ := Rp.tup_inv ra
    cases ry
    exact .inl ⟨pa, va, rfl, rfl, SqT.of (off_some ha).2, q _ μ H (.refl _ _) S rx⟩
  · exact .inr (od_mul ex μ H sto x y v w d Q S rx ry h q)
end Mx

set_option maxHeartbeats 4000000
/-! {**a, **b}: dicts put together; {} as a value -/
namespace Mx
open PySem PySem.Spec PyProof.Rows L2
section
variable {prog : Program} {w : World} {κ : Type} [DecidableEq κ] {knd : KeyKind prog w κ} {A : Around} {E : Value → Shared → Prop} {s : Shared}
theorem wpAny_put1 {d : Addr} {kvs : List (κ × Value)} {k : κ} {key v : Value} {Q : Unit → Shared → Prop} (hkey : knd.is k key = true) (hm : s.heap.DictOf knd d kvs)
    (hQ : ∀ h', h'.DictOf knd d (stored kvs k v) → Heap.SameBut d s.heap h' → Q () { s with heap := h' })
    (hsz : kvs.length ≤ sizeLine) : wpAny (model prog w) A (dictPut d (knd.hash k) key v) Q E s := by
  obtain ⟨o, es, ep, ho, hc, hd, hk, hp, hn⟩ := hm
  have hes : es.size ≤ sizeLine := by
    have e1 := hp.length
    have e2 : es.toList.length = es.size := by simp
    omega
  unfold dictPut
  refine wpAny_bind (wpAny_dictFind_of hkey ho hd hk ?_)
  have hidx : (es.findIdx? fun e => knd.is k e.key) = kvs.findIdx? fun kv => decide (kv.1 = k) := by
    rw [← hp.findIdx k]
    obtain ⟨l⟩ := es
    simp
  cases hi : es.findIdx? fun e => knd.is k e.key with
  | some i =>
    refine wpAny_updateDict ho hd (hQ _ ⟨_, _, ep, Heap.get?_update_self _ ho (Obj.isFreed_of_dict (Obj.data_mapDict hd _)), hc.mapDict _, Obj.data_mapDict hd _, hk.modify _ _, ?_, ?_⟩ (Heap.SameBut.update ..))
    · rw [stored, if_pos (any_of_findIdx_some (hidx ▸ hi))]
      have hl : (es.toList.findIdx? fun e => knd.is k e.key) = some i := by
        rw [← hi]
        obtain ⟨l⟩ := es
        simp
      have := hp.modify hn hl v
      obtain ⟨l⟩ := es
      simpa using this
    · rw [stored, if_pos (any_of_findIdx_some (hidx ▸ hi)), keys_map_store]
      exact hn
  | none =>
    have hnot : k ∉ kvs.map (·.1) := not_mem_of_findIdx_none (hidx ▸ hi)
    have hany : ¬ (kvs.any fun kv => decide (kv.1 = k)) = true := by
      rw [List.any_eq_true]
      rintro ⟨kv, hkv, he⟩
      exact hnot (List.mem_map.mpr ⟨kv, hkv, of_decide_eq_true he⟩)
    refine wpAny_updateDictKeys (hz := hes) ho hd (hQ _ ⟨_, _, ep + 1, Heap.get?_update_self _ ho (Obj.isFreed_of_dict (Obj.data_mapDictKeys hd _)), hc.mapDictKeys _, Obj.data_mapDictKeys hd _, hk.push hkey _, ?_, ?_⟩ (Heap.SameBut.update ..))
    · rw [stored, if_neg hany]
      have := hp.append hkey (knd.hash k) v
      obtain ⟨l⟩ := es
      simpa using this
    · rw [stored, if_neg hany, List.map_append, List.nodup_append]
      refine ⟨hn, by simp, ?_⟩
      intro a ha b hb
      simp only [List.map_cons, List.map_nil, List.mem_singleton] at hb
      subst hb
      exact fun e => hnot (e ▸ ha)
theorem quiet_byValue {T : Type} {e : Value} {f : Addr → T} {y : T} (h : carriedByValue e = true) : (match e with | .ref a => f a | _ => y) = y := by
  cases e <;> first | rfl | cases h
theorem merge_maps {d o : Addr} {kvs more : List (κ × Value)} {Q : PUnit → Shared → Prop} (hdo : d ≠ o) (hoS : (o == sysModules) = false)
    (hd : s.heap.DictOf knd d kvs) (ho : s.heap.DictOf knd o more)
    (hQ : ∀ h', h'.DictOf knd d (merged kvs more) → Heap.SameBut d s.heap h' → Q ⟨⟩ { s with heap := h' })
    (hsz : kvs.length + more.length ≤ sizeLine) : wpAny (model prog w) A (mergeMapping d (.ref o) false) Q E s := by
  obtain ⟨od, esd, epd, hod, hcd, hdd, hkd, hpd, hnd⟩ := id hd
  obtain ⟨oo, eso, epo, hoo, hco, hdo', hko, hpo, hno⟩ := id ho
  have hlen : more.length = eso.size := by rw [← hpo.length]; simp
  unfold mergeMapping
  refine wpAny_bind (wpAny_isInstance ho.typeIs isSubtype_dict_dict ?_)
  dsimp only
  rw [if_pos rfl]
  refine wpAny_bind (wpAny_specialOf ho.typeIs PySem.F.slot_dict_iter.lookup ?_)
  refine wpAny_bind (wpAny_pure ?_)
  simp only [beq_self_eq_true]
  rw [if_neg (by rw [hoS]; exact Bool.false_ne_true)]
  refine wpAny_bind (wpAny_dictEntries hod hdd ?_)
  have loop : wpAny (model prog w) A (do
      let l ← dictEntries o
      let epoch ← dictEpoch o
      let _ ← forIn (List.range l.size) PUnit.unit fun i (_ : PUnit) => (do
        let l' ← dictEntries o
        match l'[i]? with
          | some e => do
            holding [e.key, e.val] (dictPut d e.hash e.key e.val)
            let ep' ← dictEpoch o
            if (ep' != epoch) = true then do
              (unsupported "dict.changed-during-merge" : Sem PUnit)
              pure (ForInStep.yield PUnit.unit)
            else pure (ForInStep.yield PUnit.unit)
          | _ => do
            (unsupported "dict.changed-during-merge" : Sem PUnit)
            pure (ForInStep.yield PUnit.unit) : Sem (ForInStep PUnit))
      pure ()) Q E s := by

    refine wpAny_bind (wpAny_dictEntries hoo hdo' ?_)
    refine wpAny_bind (wpAny_dictEpoch hoo hdo' ?_)
    refine wpAny_bind ?_
    rw [List.range_eq_range']
    refine wpAny_forIn_list _
      (fun rest _ s' => ∃ h' i, s' = { s with heap := h' } ∧ rest = List.range' i (eso.size - i) ∧ i ≤ eso.size ∧ h'.DictOf knd d (merged kvs (more.take i)) ∧ h'.get? o = some oo ∧ Heap.SameBut d s.heap h')
      _ ?_ ?_ _ _ ⟨s.heap, 0, rfl, by simp, Nat.zero_le _, by simpa [merged] using hd, hoo, Heap.SameBut.refl _ _⟩
    · rintro x rest b s' ⟨h', i, rfl, hr, hi, hd', hoo', hs'⟩
      have hlt : i < eso.size := by
        rcases Nat.lt_or_ge i eso.size with h | h
        · exact h
        · rw [Nat.sub_eq_zero_of_le h] at hr
          simp at hr
      obtain ⟨rfl, hrest⟩ : x = i ∧ rest = List.range' (i + 1) (eso.size - (i + 1)) := by
        have e : eso.size - i = (eso.size - (i + 1)) + 1 := by omega
        rw [e, List.range'_succ] at hr
        injection hr with h1 h2
        exact ⟨h1, h2⟩
      refine wpAny_bind (wpAny_dictEntries hoo' hdo' ?_)
      rw [Array.getElem?_eq_getElem hlt]
      obtain ⟨kv, hkv⟩ : ∃ kv, more[x]? = some kv := ⟨more[x]'(by rw [hlen]; exact hlt), List.getElem?_eq_getElem _⟩
      obtain ⟨k, v⟩ := kv
      obtain ⟨hkey, hval⟩ := hpo.get? (e := eso[x]) (by simp [hlt]) hkv
      obtain ⟨k', hkey', hhash⟩ := hko eso[x] (Array.getElem_mem hlt)
      obtain rfl : k' = k := knd.inj _ _ _ hkey' hkey
      show wpAny _ _ (holding [eso[x].key, eso[x].val] (dictPut d eso[x].hash eso[x].key eso[x].val) >>= _) _ _ _
      rw [hhash, hval]
      have hmx : (merged kvs (more.take x)).length ≤ sizeLine := by
        have e1 := merged_length_le kvs (more.take x)
        have e2 : (more.take x).length ≤ more.length := by rw [List.length_take]; omega
        omega
      refine wpAny_bind (wpAny_holding (wpAny_put1 (hsz := hmx) hkey hd' fun h'' hd'' hs'' => ?_))
      have hoo'' : h''.get? o = some oo := (hs''.2 o (Ne.symm hdo)).trans hoo'
      refine wpAny_bind (wpAny_dictEpoch hoo'' hdo' ?_)
      rw [if_neg (by simp)]
      exact wpAny_pure ⟨h'', x + 1, rfl, hrest, hlt, by rw [merged_take_succ kvs more x (k', v) hkv]; exact hd'', hoo'', hs'.trans hs''⟩
    · rintro b s' ⟨h', i, rfl, hr, hi, hd', hoo', hs'⟩
      have hin : i = eso.size := by
        rcases Nat.lt_or_ge i eso.size with h | h
        · have e : eso.size - i = (eso.size - (i + 1)) + 1 := by omega
          rw [e, List.range'_succ] at hr
          exact nomatch hr
        · exact Nat.le_antisymm hi h
      refine wpAny_pure (hQ h' ?_ hs')
      rw [hin, ← hlen, List.take_length] at hd'
      exact hd'
  split
  · refine wpAny_bind (wpAny_dictEntries hoo hdo' ?_)
    refine wpAny_bind ?_
    rw [← Array.forIn_toList]
    refine wpAny_forIn_list _ (fun rest _ s' => s' = s ∧ ∀ e ∈ rest, e ∈ eso.toList) _ ?_ ?_ _ _ ⟨rfl, fun _ h => h⟩
    · rintro e rest b s' ⟨rfl, hm⟩
      obtain ⟨k, hkey, _⟩ := hko e (Array.mem_toList_iff.mp (hm e List.mem_cons_self))
      have hv := knd.byValue k _ hkey
      obtain ⟨eh, ek, ev⟩ := e
      have q : wpAny (model prog w) A (pure (ForInStep.yield PUnit.unit) : Sem (ForInStep PUnit)) (fun r s'_1 => match r with | .yield b' => (s'_1 = s' ∧ ∀ e ∈ rest, e ∈ eso.toList) | .done b' => False) E s' := wpAny_pure ⟨rfl, fun e he => hm e (List.mem_cons_of_mem _ he)⟩
      cases ek with
      | ref a => cases hv
      | _ => exact wpAny_pure ⟨rfl, fun e he => hm e (List.mem_cons_of_mem _ he)⟩
    · rintro b s' ⟨rfl, _⟩
      exact loop
  · exact loop
/-- .. an empty one, whatever its keys were to be -/
theorem merge_none {d o : Addr} {od : Obj} {esd : Array DictEntry} {epd ep : Nat} {Q : PUnit → Shared → Prop} (hoS : (o == sysModules) = false)
    (hod : s.heap.get? d = some od) (hdd : od.data = .dict esd epd) (ho : s.heap.DictRaw o #[] ep) (hQ : Q ⟨⟩ s) : wpAny (model prog w) A (mergeMapping d (.ref o) false) Q E s := by
  obtain ⟨oo, hoo, hco, hdo'⟩ := id ho
  unfold mergeMapping
  refine wpAny_bind (wpAny_isInstance ho.typeIs isSubtype_dict_dict ?_)
  dsimp only
  rw [if_pos rfl]
  refine wpAny_bind (wpAny_specialOf ho.typeIs PySem.F.slot_dict_iter.lookup ?_)
  refine wpAny_bind (wpAny_pure ?_)
  simp only [beq_self_eq_true]
  rw [if_neg (by rw [hoS]; exact Bool.false_ne_true)]
  refine wpAny_bind (wpAny_dictEntries hod hdd ?_)
  have loop : wpAny (model prog w) A (do
      let l ← dictEntries o
      let epoch ← dictEpoch o
      let _ ← forIn (List.range l.size) PUnit.unit fun i (_ : PUnit) => (do
        let l' ← dictEntries o
        match l'[i]? with
          | some e => do
            holding [e.key, e.val] (dictPut d e.hash e.key e.val)
            let ep' ← dictEpoch o
            if (ep' != epoch) = true then do
              (unsupported "dict.changed-during-merge" : Sem PUnit)
              pure (ForInStep.yield PUnit.unit)
            else pure (ForInStep.yield PUnit.unit)
          | _ => do
            (unsupported "dict.changed-during-merge" : Sem PUnit)
            pure (ForInStep.yield PUnit.unit) : Sem (ForInStep PUnit))
      pure ()) Q E s := by
    refine wpAny_bind (wpAny_dictEntries hoo hdo' ?_)
    refine wpAny_bind (wpAny_dictEpoch hoo hdo' ?_)
    refine wpAny_bind ?_
    show wpAny _ _ (forIn [] PUnit.unit _) _ _ _
    rw [List.forIn_nil]
    exact wpAny_pure (wpAny_pure hQ)
  split
  · refine wpAny_bind (wpAny_dictEntries hoo hdo' ?_)
    refine wpAny_bind ?_
    rw [← Array.forIn_toList]
    show wpAny _ _ (forIn [] PUnit.unit _) _ _ _
    rw [List.forIn_nil]
    exact wpAny_pure loop
  · exact loop
end
section
variable {prog : Program} {w : World} {A : Around} {E : Value → Shared → Prop} {s : Shared} {env : PySem.Env}
/-- {**a, **b} -/
theorem stars2 {a b : Expr} {pos : Pos} {Q : Value → Shared → Prop}
    (h : wpAny (model prog w) A (eval a env) (fun v s1 => ∀ E', wpAny (model prog w) A (mergeMapping s.heap.objs.size v false) (fun _ s2 => wpAny (model prog w) A (eval b env) (fun v' s3 =>
      ∀ E', wpAny (model prog w) A (mergeMapping s.heap.objs.size v' false) (fun _ s4 => Q (.ref s.heap.objs.size) s4) E' s3) E s2) E' s1) E { s with heap := s.heap.push { cls := .type "dict", data := .dict #[] } }) :
    wpAny (model prog w) A (eval (.Dict [none, none] [a, b] pos) env) Q E s := by
  rw [arm_eval_Dict]
  refine wpAny_bind (wpAny_standAt ?_)
  show wpAny _ _ (dictDisplay [(none, do let x ← eval a env; standAt pos; pure x), (none, do let x ← eval b env; standAt pos; pure x)]) _ _ _
  unfold dictDisplay
  have turn : ∀ (d : Addr) (m : Sem Value) (s' : Shared) (Q' : Shared → Prop), wpAny (model prog w) A m (fun v s1 => ∀ E', wpAny (model prog w) A (mergeMapping d v false) (fun _ s2 => Q' s2) E' s1) E s' →
      wpAny (model prog w) A (do
        let m ← holding [Value.ref d] (do let x ← m; standAt pos; pure x)
        (((holding [Value.ref d, m] (mergeMapping d m false)).onRaise fun x => do
              let _ ← holding [Value.ref d, m, x] (runValue (Code.builtin "proto.let_go" { }))
              pure ()).tryCatch
            fun e => do
            let z ← isInstance e (Value.type "AttributeError")
            have jp : Unit → Sem Unit := fun r => throw e
            if z = true then do
                rule "dict.display.not-a-mapping"
                let z ← typeNameOf m
                let r ← raiseErrorMade "TypeError" (toString "'" ++ toString z ++ toString "' object is not a mapping")
                jp r
              else jp ()).onRaise
          fun x => do
          let _ ← holding [Value.ref d, x] (runValue (Code.builtin "proto.let_go" { }))
          pure ()
        pure (ForInStep.yield (some d, ([] : List (Sem Value × Sem Value))))) (fun r s2 => r = ForInStep.yield (some d, []) ∧ Q' s2) E s' := fun d m s' Q' hm => by
    refine wpAny_bind (wpAny_holding (wpAny_bind (wpAny_mono hm (fun v s1 h1 => ?_) fun _ _ z => z)))
    refine wpAny_bind (wpAny_standAt (wpAny_pure ?_))
    refine wpAny_bind (wpAny_onRaise (wpAny_tryCatch (wpAny_onRaise (wpAny_holding ?_))))
    exact wpAny_mono (h1 _) (fun _ _ z => wpAny_pure ⟨rfl, z⟩) fun _ _ z => z
  refine wpAny_bind ?_
  rw [List.forIn_cons]
  refine wpAny_bind ?_
  dsimp only [List.isEmpty_nil]
  rw [if_pos rfl]
  refine wpAny_bind (wpAny_pure ?_)
  dsimp only
  refine wpAny_bind (wpAny_alloc ?_)
  refine wpAny_mono (turn s.heap.objs.size (eval a env) _ _ (wpAny_mono h (fun v s1 h1 E' => h1 E') fun _ _ z => z)) (fun r s2 ⟨e, q⟩ => ?_) fun _ _ z => z
  subst e
  dsimp only
  rw [List.forIn_cons]
  refine wpAny_bind ?_
  dsimp only [List.isEmpty_nil]
  rw [if_pos rfl]
  refine wpAny_bind (wpAny_pure ?_)
  dsimp only
  refine wpAny_bind (wpAny_pure ?_)
  refine wpAny_mono (turn s.heap.objs.size (eval b env) _ _ (wpAny_mono q (fun v s1 h1 E' => h1 E') fun _ _ z => z)) (fun r s2 ⟨e, q⟩ => ?_) fun _ _ z => z
  subst e
  dsimp only
  rw [List.forIn_nil]
  refine wpAny_pure ?_
  dsimp only [List.isEmpty_nil]
  rw [if_pos rfl]
  refine wpAny_bind (wpAny_pure ?_)
  exact wpAny_pure q
end
end Mx

set_option maxHeartbeats 4000000
namespace Mx
open PySem PySem.Spec PyProof.Rows L2
theorem upd_self {H : Hp} {a : Addr} {o : HO} (h : H a = some o) : upd H a o = H := by
  funext b
  by_cases e : b = a
  · subst e
    rw [upd_same, h]
  · rw [upd_ne e]
section
variable {X : Cx} {pins : List (Addr × Obj)} {σ : L2.St} {H : Hp} {s : Shared} {a d : Addr} {kvs more : List (Key × V)} {A : Around} {E : Value → Shared → Prop}
theorem dk_merge {Q : PUnit → Shared → Prop} (I : Inv X pins σ H s) (ed : H d = some (.dK kvs)) (ea : H a = some (.dK more)) (hda : d ≠ a) (hz : kvs.length + more.length ≤ sizeLine)
    (h : ∀ s', Inv X pins σ (upd H d (.dK (mergeK kvs more))) s' → Q ⟨⟩ s') : wpAny (model X.prog X.w) A (mergeMapping d (.ref a) false) Q E s := by
  obtain ⟨z, hd, vs, rel, dd⟩ := dk_of I.hok ed
  obtain ⟨z2, hd2, vs2, rel2, dd2⟩ := dk_of I.hok ea
  have hl := length_mergeK more kvs
  refine merge_maps hda hd2 dd dd2 (fun h' dd' hs => h _ ?_) (by rw [← rel.length, ← rel2.length]; exact hz)
  have he : ∃ q, h'.get? d = some q := let ⟨q, _, _, hq, _⟩ := dd'; ⟨q, hq⟩
  exact d_write (t' := s.toks) I (by rw [ed]; exact True.intro) hs he (dk_new (by omega) hd (KV.merge rel2 rel) dd')
theorem do_merge {Q : PUnit → Shared → Prop} (I : Inv X pins σ H s) (ed : H d = some (.dK kvs)) {ep : Nat} (ea : H a = some (DO a [] ep)) (h : Q ⟨⟩ s) : wpAny (model X.prog X.w) A (mergeMapping d (.ref a) false) Q E s := by
  obtain ⟨z, hd, vs, rel, dd⟩ := dk_of I.hok ed
  obtain ⟨od, esd, epd, hod, hcd, hdd, _⟩ := dd
  obtain ⟨⟨ha, raw⟩, _⟩ := I.hok a _ ea
  exact merge_none ha hod hdd raw h
/-- what is put into the new dict d -/
def MrgV (H : Hp) (d : Addr) (x : V) (kvs kvs' : List (Key × V)) : Prop := ∃ a, x = .ref a ∧ d ≠ a ∧ ((∃ more, H a = some (.dK more) ∧ kvs.length + more.length ≤ sizeLine ∧ kvs' = mergeK kvs more) ∨ ((∃ ep, H a = some (DO a [] ep)) ∧ kvs' = kvs))
theorem mrg_ok {x : V} {u : Value} {kvs' : List (Key × V)} {Q : PUnit → Shared → Prop} (I : Inv X pins σ H s) (ed : H d = some (.dK kvs)) (m : MrgV H d x kvs kvs') (r : RelV x u)
    (h : ∀ s', Inv X pins σ (upd H d (.dK kvs')) s' → Q ⟨⟩ s') : wpAny (model X.prog X.w) A (mergeMapping d u false) Q E s := by
  obtain ⟨a, rfl, hda, m⟩ := m
  cases (show u = Value.ref a from r)
  rcases m with ⟨more, ea, hz, rfl⟩ | ⟨⟨ep, ea⟩, rfl⟩
  · exact dk_merge I ed ea hda hz h
  · refine do_merge I ed ea (h s ?_)
    rw [upd_self ed]
    exact I
end
def tStars2 (t1 t2 : TE) : TE := fun σ H Q => ∀ d, H d = none → t1 σ (upd H d (.dK [])) fun x H1 => ∃ k1, H1 d = some (.dK []) ∧ MrgV H1 d x [] k1 ∧ t2 σ (upd H1 d (.dK k1)) fun y H2 => ∃ k2, H2 d = some (.dK k1) ∧ MrgV H2 d y k1 k2 ∧ Q (.ref d) (upd H2 d (.dK k2))
theorem pe_stars2 {X : Cx} {a b : Expr} {pos : Pos} {t1 t2 : TE} (ha : PE X a t1) (hb : PE X b t2) : PE X (.Dict [none, none] [a, b] pos) (tStars2 t1 t2) := by
  refine ⟨fun pins s σ H Q I h => ?_⟩
  have hn := I.hok.fresh (Nat.le_refl s.heap.objs.size)
  have I1 := I.laid (a := s.heap.objs.size) (o := .dK []) (h' := s.heap.push { cls := .type "dict", data := .dict #[] }) (t' := s.toks) (fun _ _ q => Heap.get?_push_of_some _ q) (Nat.le_refl _) (dk_empty s.heap I.big)
  refine stars2 (thn (ha.run pins _ σ _ _ I1 (h _ hn)) fun u s2 ⟨x, H1, I2, rx, k1, e1, m1, q1⟩ E' => ?_)
  refine mrg_ok I2 e1 m1 rx fun s3 I3 => thn (hb.run pins _ σ _ _ I3 q1) fun u2 s4 ⟨y, H2, I4, ry, k2, e2, m2, q2⟩ E' => ?_
  exact mrg_ok I4 e2 m2 ry fun s5 I5 => ⟨.ref _, _, I5, rfl, q2⟩
/-! ### by data -/
def intKs : List (Key × Dat) → Option (List (Dat × Dat))
  | [] => some []
  | (.inl i, d) :: r => (intKs r).map ((.int i, d) :: ·)
  | (.inr _, _) :: _ => none
def isIntD : Dat → Bool
  | .int _ => true
  | _ => false
def kvsOf (s : Sto) : EV → Option (List (Dat × Dat))
  | .dat (.dict kvs) => if (kvs.all fun p => isIntD p.1) = true then some kvs else none
  | .dat _ => none
  | .ref i => match s[i]? with
    | some (.dK kvs) => intKs kvs
    | _ => none
def mergeD (kvs more : List (Dat × Dat)) : List (Dat × Dat) := more.foldl (fun acc p => putN acc p.1 p.2) kvs
def eStars2 (a b : DE) : DE := fun env s => (a env s).bind fun x s1 => match kvsOf s1 x with
  | some k1 => if k1.length ≤ sizeLine then (b env s1).bind fun y s2 => match kvsOf s2 y with
    | some k2 => if k1.length + k2.length ≤ sizeLine then .ok (.dat (.dict (mergeD (mergeD [] k1) k2))) s2 else .fail
    | none => .fail
    else .fail
  | none => .fail
theorem RpK.put {H : Hp} {k : Int} {v : V} {d : Dat} (rv : Rp H v d) : ∀ {vs : List (Key × V)} {kvs : List (Dat × Dat)}, RpK H vs kvs → RpK H (putK vs (.inl k) v) (putN kvs (.int k) d) := by
  have any : ∀ {vs : List (Key × V)} {kvs : List (Dat × Dat)}, RpK H vs kvs → (vs.any fun kv => decide (kv.1 = .inl k)) = kvs.any fun kv => decide (nkD kv.1 = nkD (.int k)) := by
    intro vs
    induction vs with
    | nil => intro kvs r; cases r; rfl
    | cons p vs ih =>
      intro kvs r
      cases r with
      | @cons i w _ e kvs r1 r2 =>
        rw [List.any_cons, List.any_cons, ih r2]
        congr 1
        show decide ((Sum.inl i : Key) = .inl k) = decide (NestedKey.num i = .num k)
        rw [decide_eq_decide]
        constructor
        · intro e; cases e; rfl
        · intro e; cases e; rfl
  have map : ∀ {vs : List (Key × V)} {kvs : List (Dat × Dat)}, RpK H vs kvs → RpK H (vs.map fun kv => if kv.1 = .inl k then (kv.1, v) else kv) (kvs.map fun kv => if nkD kv.1 = nkD (.int k) then (kv.1, d) else kv) := by
    intro vs
    induction vs with
    | nil => intro kvs r; cases r; exact .nil
    | cons p vs ih =>
      intro kvs r
      cases r with
      | @cons i w _ e kvs r1 r2 =>
        rw [List.map_cons, List.map_cons]
        by_cases q : i = k
        · subst q
          rw [if_pos rfl, if_pos rfl]
          exact .cons rv (ih r2)
        · rw [if_neg (fun z => q (by cases z; rfl)), if_neg (fun z => q (by cases z; rfl))]
          exact .cons r1 (ih r2)
  have app : ∀ {vs : List (Key × V)} {kvs : List (Dat × Dat)}, RpK H vs kvs → RpK H (vs ++ [(.inl k, v)]) (kvs ++ [(.int k, d)]) := by
    intro vs
    induction vs with
    | nil => intro kvs r; cases r; exact RpK.cons rv .nil
    | cons p vs ih =>
      intro kvs r
      cases r with
      | cons r1 r2 => exact RpK.cons r1 (ih r2)
  intro vs kvs r
  unfold putK putN
  rw [any r]
  split
  · exact map r
  · exact app r
theorem RpK.merge {H : Hp} : ∀ {ws : List (Key × V)} {more : List (Dat × Dat)} {vs : List (Key × V)} {kvs : List (Dat × Dat)}, RpK H ws more → RpK H vs kvs → RpK H (mergeK vs ws) (mergeD kvs more)
  | _, _, _, _, .nil, q => q
  | _, _, _, _, .cons (k := k) r1 r2, q => by
    have z := RpK.merge r2 (RpK.put (k := k) r1 q)
    exact z
theorem intKs_rp {Hf : Hp} : ∀ {vs : List (Key × V)} {kds : List (Key × Dat)} {kvs : List (Dat × Dat)}, Paired (kvR Hf) vs kds → intKs kds = some kvs → RpK Hf vs kvs := by
  intro vs kds kvs r
  induction r generalizing kvs with
  | nil => intro h; cases h; exact .nil
  | @cons p q ps qs h t ih =>
    obtain ⟨k, v⟩ := p
    obtain ⟨k', d⟩ := q
    obtain ⟨rfl, rv⟩ := h
    intro hk
    cases k with
    | inr x => cases hk
    | inl i =>
      unfold intKs at hk
      obtain ⟨r, e1, e2⟩ := Option.map_eq_some_iff.mp hk
      subst e2
      exact .cons rv (ih e1)
theorem kvs_rp {K : PySem.W.Frag} {ex : List Addr} {μ : Mu} {H : Hp} {sto : Sto} {v : V} {x : EV} {kvs : List (Dat × Dat)} (S : StoR K ex μ H sto) (r : EvR (hf ex μ H) μ v x) (h : kvsOf sto x = some kvs) :
    ∃ a, v = .ref a ∧ a ∉ ex ∧ ((∃ vs, H a = some (.dK vs) ∧ RpK (hf ex μ H) vs kvs) ∨ ((∃ ep, H a = some (DO a [] ep)) ∧ kvs = [])) := by
  cases x with
  | ref i =>
    obtain ⟨a, as, hμ, rfl⟩ := r
    unfold kvsOf at h
    simp only at h
    split at h
    · rename_i kds hs
      obtain ⟨b, vs, e, hb, p⟩ := S.cells i _ _ hμ hs
      cases e
      exact ⟨_, rfl, fun z => S.dis _ z (mem_flat hμ List.mem_cons_self), .inl ⟨vs, hb, intKs_rp p h⟩⟩
    · cases h
  | dat d =>
    cases d with
    | dict ks =>
      unfold kvsOf at h
      simp only at h
      split at h
      · rename_i hall
        cases h
        cases r with
        | dkk e rr =>
          obtain ⟨n, e'⟩ := off_some e
          rw [List.mem_append, not_or] at n
          exact ⟨_, rfl, n.1, .inl ⟨_, e', rr⟩⟩
        | dct e l ko rr =>
          obtain ⟨n, e'⟩ := off_some e
          rw [List.mem_append, not_or] at n
          cases kvs with
          | nil =>
            cases rr
            exact ⟨_, rfl, n.1, .inr ⟨⟨_, e'⟩, rfl⟩⟩
          | cons p ps =>
            rw [List.all_cons, Bool.and_eq_true] at hall
            have := ko.keys p List.mem_cons_self
            obtain ⟨⟨k, hk⟩, _⟩ := tk_tup this
            rw [hk] at hall
            cases hall.1
      · cases h
    | _ => cases h
theorem mergeK_nil_len (vs : List (Key × V)) : (mergeK [] vs).length ≤ vs.length := by
  have := length_mergeK vs []
  simpa using this
section
variable {X : Cx} {EQ : EK} {a b : Expr} {pos : Pos} {ma mb : DE}
theorem mrg_of {K : PySem.W.Frag} {d : Addr} {ex : List Addr} {μ : Mu} {H : Hp} {sto : Sto} {v : V} {x : EV} {kvs k0 : List (Dat × Dat)} {vs0 : List (Key × V)} {n : Nat} (S : StoR K (d :: ex) μ H sto) (r : EvR (hf (d :: ex) μ H) μ v x) (h : kvsOf sto x = some kvs)
    (r0 : RpK (hf (d :: ex) μ H) vs0 k0) (hl : vs0.length ≤ n) (hz : n + kvs.length ≤ sizeLine) : ∃ vs', MrgV H d v vs0 vs' ∧ RpK (hf (d :: ex) μ H) vs' (mergeD k0 kvs) ∧ vs'.length ≤ n + kvs.length := by
  obtain ⟨a, rfl, ha, c⟩ := kvs_rp S r h
  have hd : d ≠ a := fun z => ha (by rw [← z]; exact List.mem_cons_self)
  rcases c with ⟨ws, ea, rw'⟩ | ⟨ea, rfl⟩
  · have e1 := rw'.length
    refine ⟨mergeK vs0 ws, ⟨a, rfl, hd, .inl ⟨ws, ea, by omega, rfl⟩⟩, RpK.merge rw' r0, ?_⟩
    have := length_mergeK ws vs0
    omega
  · exact ⟨vs0, ⟨a, rfl, hd, .inr ⟨ea, rfl⟩⟩, r0, by omega⟩
theorem pe_st2 (ha : PE X a (T X.K EQ ma)) (hb : PE X b (T X.K EQ mb)) : PE X (.Dict [none, none] [a, b] pos) (T X.K EQ (eStars2 ma mb)) := (pe_stars2 ha hb).weak fun σ H Q => by
  rintro ⟨ex, μ, env, sto, S, V, h⟩ D hD
  have L := S.laid (o := .dK []) hD
  have SX := S.laidX (o := .dK []) hD
  have F0 : FwdE μ H μ (upd H D (.dK [])) := L.2
  have VX : EnvR (hf (D :: ex) μ (upd H D (.dK []))) μ σ env := V.fwdX F0 hD
  refine ⟨D :: ex, μ, env, sto, SX, VX, R.wp_mono (fun x s1 q v μ1 H1 F1 S1 r1 => ?_) (fun e s q μ1 H1 F1 S1 => q μ1 H1 (F0.fwd.trans F1) S1.less) _ ((R.wp_bind _).mp h)⟩
  have hD1 : H1 D = some (.dK []) := F1.keep D _ (SX.dis D List.mem_cons_self) upd_same
  split at q
  · rename_i k1 hk1
    split at q
    · rename_i hz0
      have q := (R.wp_bind _).mp q
      obtain ⟨vs1, M1, R1, l1⟩ := mrg_of (n := 0) S1 r1 hk1 RpK.nil (Nat.le_refl _) (by omega)
      refine ⟨vs1, hD1, M1, ?_⟩
      have O := S1.over (o := .dK vs1) (D := D) List.mem_cons_self
      have F01 : FwdE μ H μ1 (upd H1 D (.dK vs1)) := by
        refine ⟨fun a o n e => ?_, (F0.trans F1).fresh, (F0.trans F1).ext⟩
        rw [upd_ne (ne_of_none e hD)]
        exact (F0.trans F1).keep a o n e
      have V1 : EnvR (hf (D :: ex) μ1 (upd H1 D (.dK vs1))) μ1 σ env := by
        rw [O.2]
        exact VX.fwd F1
      refine ⟨D :: ex, μ1, env, s1, O.1, V1, R.wp_mono (fun y s2 q w μ2 H2 F2 S2 r2 => ?_) (fun e s q μ2 H2 F2 S2 => q μ2 H2 (F01.fwd.trans F2) S2.less) _ q⟩
      have hD2 : H2 D = some (.dK vs1) := F2.keep D _ (O.1.dis D List.mem_cons_self) upd_same
      split at q
      · rename_i k2 hk2
        split at q
        · rename_i hz
          have R1' : RpK (hf (D :: ex) μ2 H2) vs1 (mergeD [] k1) := by
            rw [← O.2] at R1
            exact R1.mono F2.fwd.sub
          obtain ⟨vs2, M2, R2, l2⟩ := mrg_of (n := k1.length) S2 r2 hk2 R1' (by omega) hz
          refine ⟨vs2, hD2, M2, ?_⟩
          have O2 := S2.over (o := .dK vs2) (D := D) List.mem_cons_self
          have F02 : FwdE μ H μ2 (upd H2 D (.dK vs2)) := by
            refine ⟨fun a o n e => ?_, (F01.trans F2).fresh, (F01.trans F2).ext⟩
            rw [upd_ne (ne_of_none e hD)]
            exact (F01.trans F2).keep a o n e
          refine q _ μ2 _ F02 O2.1.less (.dkk (vs := vs2) (off_of upd_same ?_) ?_)
          · rw [List.mem_append, not_or]
            exact ⟨out_ex S hD, S2.dis D List.mem_cons_self⟩
          · rw [← O2.2] at R2
            refine R2.mono fun a o e => ?_
            obtain ⟨n, e'⟩ := off_some e
            rw [List.cons_append, List.mem_cons, not_or] at n
            exact off_of e' n.2
        · exact q.elim
      · exact q.elim
    · exact q.elim
  · exact q.elim
/-- {} as a value -/
def eNil0 : DE := fun _ s => .ok (.dat (.dict [])) s
theorem pe_nil0 : PE X (.Dict [] [] pos) (T X.K EQ eNil0) := pe_dnewK.weak fun σ H Q => by
  rintro ⟨ex, μ, env, sto, S, V, h⟩ p hp
  have L := S.laid (o := .dK []) hp
  exact h _ μ _ L.2 L.1 (.dkk (S.at_new hp) .nil)
@[simp] theorem u_eStars2 (a b : DE) (env : Env) (s : Sto) : eStars2 a b env s = (a env s).bind fun x s1 => match kvsOf s1 x with
  | some k1 => if k1.length ≤ sizeLine then (b env s1).bind fun y s2 => match kvsOf s2 y with
    | some k2 => if k1.length + k2.length ≤ sizeLine then .ok (.dat (.dict (mergeD (mergeD [] k1) k2))) s2 else .fail
    | none => .fail
    else .fail
  | none => .fail := rfl
@[simp] theorem u_eNil0 x0 s : eNil0 x0 s = .ok (.dat (.dict [])) s := rfl
end
end Mx

set_option maxHeartbeats 4000000
/-! walks over dicts by data: keys, values, items -/
namespace Mx
open PySem PySem.Spec PyProof.Rows L2
theorem rpE_get {Hf : Hp} : ∀ {es : List DictEntry} {kvs : List (Dat × Dat)}, RpE Hf es kvs → (∀ p ∈ kvs, tkD p.1 = true) → ∀ {i : Nat} {p : Dat × Dat}, kvs[i]? = some p → ∃ e b u, es[i]? = some e ∧ e.key = .ref b ∧ Rp Hf (.ref b) p.1 ∧ RelV u e.val ∧ Rp Hf u p.2
  | _, _, .nil, _, i, p, h => by simp at h
  | _, _, .cons (e := e) (u := u) r1 r2 r3 r4 r5 t, k, i, p, h => by
    cases i with
    | zero =>
      cases h
      obtain ⟨⟨ds, hd⟩, _⟩ := tk_tup (k _ List.mem_cons_self)
      simp only at hd
      subst hd
      cases r2 with
      | tup a l q => exact ⟨e, _, u, rfl, r1, .tup a l q, r4, r5⟩
    | succ i => exact rpE_get t (fun q hq => k q (List.mem_cons_of_mem _ hq)) (by simpa using h)
section
variable {P : Program} {w : World} {K : PySem.W.Frag} {tg : Expr} {a : Addr} {es : List DictEntry} {ep : Nat}
def ItkD (a : Addr) (es : List DictEntry) (ep : Nat) : It :=
  ⟨fun i H => H a = some (DO a es ep) ∧ ∃ e b, es[i]? = some e ∧ e.key = .ref b, fun i H x H' => H' = H ∧ ∃ e b, es[i]? = some e ∧ e.key = .ref b ∧ x = .ref b, fun i H => H a = some (DO a es ep) ∧ es.length ≤ i⟩
def ItvD (a : Addr) (es : List DictEntry) (ep : Nat) (vs : List V) : It :=
  ⟨fun i H => H a = some (DO a es ep) ∧ ∃ e v, es[i]? = some e ∧ vs[i]? = some v ∧ RelV v e.val, fun i H x H' => H' = H ∧ vs[i]? = some x, fun i H => H a = some (DO a es ep) ∧ es.length ≤ i⟩
def ItiD (a : Addr) (es : List DictEntry) (ep : Nat) (vs : List V) : It :=
  ⟨fun i H => H a = some (DO a es ep) ∧ ∃ e b v, es[i]? = some e ∧ e.key = .ref b ∧ vs[i]? = some v ∧ RelV v e.val,
   fun i H x H' => ∃ t e b v, es[i]? = some e ∧ e.key = .ref b ∧ vs[i]? = some v ∧ x = .ref t ∧ H t = none ∧ H' = upd H t (.tup [.ref b, v]), fun i H => H a = some (DO a es ep) ∧ es.length ≤ i⟩
theorem do_raw {X : Cx} {pins : List (Addr × Obj)} {σ : L2.St} {H : Hp} {s : Shared} (I : Inv X pins σ H s) (h : H a = some (DO a es ep)) : (a == sysModules) = false ∧ s.heap.DictRaw a es.toArray ep := (I.hok a _ h).1
theorem es_at {i : Nat} {e : DictEntry} (h : es[i]? = some e) : ∃ hi : i < es.toArray.size, es.toArray[i] = e := by
  obtain ⟨hi, q⟩ := List.getElem?_eq_some_iff.mp h
  exact ⟨by simpa using hi, by simpa using q⟩
theorem turn_kD (it : Addr) : Turn P w K tg (ItkD a es ep) [it] it (fun i h => h.IsKeyIter it a i es.toArray.size ep) where
  mem := by simp
  obj := fun i h st b hb => by
    have e : b = it := by simpa using hb
    subst e
    obtain ⟨oi, e, c, dd⟩ := st
    exact ⟨oi, e, fun v z => by rw [dd] at z; cases z⟩
  keep := fun i h h' st k => st.at fun oi e => k it (by simp) oi e
  item := by
    intro X hP hw hK hc i pins s σ H E I hf st hg
    subst hP hw hK
    obtain ⟨ha, en, b, he, hk⟩ := hg
    obtain ⟨f0, f1, f2, f3, f4, f5⟩ := hf it (by simp)
    obtain ⟨hs, raw⟩ := do_raw I ha
    obtain ⟨hi, e1⟩ := es_at he
    refine wpAny_pyNext_keys_item_raw st raw hi fun h' st' sb => ?_
    have I1 : Inv X pins σ H { s with heap := h' } := I.turned (t' := s.toks) (fun b ob hb e => (sb.2 b hb).trans e) f0 f1 f3 f4 f5
    obtain ⟨oi, e, c, dd⟩ := id st'
    rw [e1, hk]
    exact ⟨_, rfl, go_of (s := { s with heap := h' }) e c dd (by decide) ⟨.ref b, H, I1, rfl, ⟨rfl, en, b, he, hk, rfl⟩, st', fun b hb => (hf b hb).1⟩⟩
  done := by
    intro X hP hw hK hc i pins s σ H E I hf st hg
    subst hP hw hK
    obtain ⟨ha, hi⟩ := hg
    obtain ⟨f0, f1, f2, f3, f4, f5⟩ := hf it (by simp)
    obtain ⟨hs, raw⟩ := do_raw I ha
    exact wpAny_pyNext_keys_end_raw (I.ok.hd hc) st raw (by simpa using hi) fun h' eb => ⟨rfl, I.turned (t' := s.toks) (fun b ob hb e => eb b ob hb e) f0 f1 f3 f4 f5⟩
  self := fun A i s Q E st h => wpAny_pyIter_keyiter st h
theorem turn_vD (it : Addr) (vs : List V) : Turn P w K tg (ItvD a es ep vs) [it] it (fun i h => h.IsValIter it a i es.toArray.size ep) where
  mem := by simp
  obj := fun i h st b hb => by
    have e : b = it := by simpa using hb
    subst e
    obtain ⟨oi, e, c, dd⟩ := st
    exact ⟨oi, e, fun v z => by rw [dd] at z; cases z⟩
  keep := fun i h h' st k => st.at fun oi e => k it (by simp) oi e
  item := by
    intro X hP hw hK hc i pins s σ H E I hf st hg
    subst hP hw hK
    obtain ⟨ha, en, v, he, hv, rv⟩ := hg
    obtain ⟨f0, f1, f2, f3, f4, f5⟩ := hf it (by simp)
    obtain ⟨hs, raw⟩ := do_raw I ha
    obtain ⟨hi, e1⟩ := es_at he
    refine wpAny_pyNext_values_item_raw st raw hi fun h' st' sb => ?_
    have I1 : Inv X pins σ H { s with heap := h' } := I.turned (t' := s.toks) (fun b ob hb e => (sb.2 b hb).trans e) f0 f1 f3 f4 f5
    obtain ⟨oi, e, c, dd⟩ := id st'
    rw [e1]
    exact ⟨_, rfl, go_of (s := { s with heap := h' }) e c dd (by decide) ⟨v, H, I1, rv, ⟨rfl, hv⟩, st', fun b hb => (hf b hb).1⟩⟩
  done := by
    intro X hP hw hK hc i pins s σ H E I hf st hg
    subst hP hw hK
    obtain ⟨ha, hi⟩ := hg
    obtain ⟨f0, f1, f2, f3, f4, f5⟩ := hf it (by simp)
    obtain ⟨hs, raw⟩ := do_raw I ha
    exact wpAny_pyNext_values_end_raw (I.ok.hd hc) st raw (by simpa using hi) fun h' eb => ⟨rfl, I.turned (t' := s.toks) (fun b ob hb e => eb b ob hb e) f0 f1 f3 f4 f5⟩
  self := fun A i s Q E st h => wpAny_pyIter_valiter st h
theorem turn_iD {elts : List Expr} {kk : Nat} {tpos : Pos} (it : Addr) (vs : List V) : Turn P w K (.Tuple elts kk tpos) (ItiD a es ep vs) [it] it (fun i h => ∃ ok ov, IsItemIter h it a i es.toArray.size ep ok ov) where
  mem := by simp
  obj := fun i h st b hb => by
    have e : b = it := by simpa using hb
    subst e
    obtain ⟨ok, ov, e⟩ := st
    exact ⟨_, e, fun v z => nomatch z⟩
  keep := fun i h h' st k => let ⟨ok, ov, e⟩ := st; ⟨ok, ov, k it (by simp) _ e⟩
  item := by
    intro X hP hw hK hc i pins s σ H E I hf st hg
    subst hP hw hK
    obtain ⟨ha, en, b, v, he, hk, hv, rv⟩ := hg
    obtain ⟨hs, raw⟩ := do_raw I ha
    obtain ⟨hi, e1⟩ := es_at he
    obtain ⟨ok, ov, hit⟩ := st
    have hlt : it < s.heap.objs.size := Heap.lt_size hit
    refine wpAny_pyNext_items_item_raw hit raw hi fun h' ho hT hz hk' => ?_
    refine ⟨_, rfl, wpAny_letOwnedTupleGo_items (s := { s with heap := h' }) ho fun h'' he' sb => ?_⟩
    have hT2 := (sb.2 _ (Nat.ne_of_gt hlt)).trans hT
    rw [e1, hk] at hT2
    have new : ObjOk X.prog X.w (upd H s.heap.objs.size (.tup [.ref b, v])) h'' s.heap.objs.size (.tup [.ref b, v]) :=
      ⟨by show 2 ≤ sizeLine; decide, [.ref b, en.val], .cons (show L2.RelV (.ref b) (Value.ref b) from rfl) (.cons rv .nil), ⟨_, hT2, rfl, _, rfl⟩⟩
    have I1 : Inv X pins σ (upd H s.heap.objs.size (.tup [.ref b, v])) { s with heap := h'' } :=
      I.turnedNew (t' := s.toks) (ch := [it]) (fun b ob hb e => (sb.2 b (by simpa using hb)).trans (hk' b ob (by simpa using hb) e)) hf (Nat.le_refl _) new
    refine ⟨.ref s.heap.objs.size, _, I1, rfl, ⟨_, en, b, v, he, hk, hv, rfl, I.hok.fresh (Nat.le_refl _), rfl⟩, ⟨_, _, he'⟩, fun b hb => ?_⟩
    have e : b = it := by simpa using hb
    rw [e, upd_ne (Nat.ne_of_lt hlt)]
    exact (hf it (by simp)).1
  done := by
    intro X hP hw hK hc i pins s σ H E I hf st hg
    subst hP hw hK
    obtain ⟨ha, hi⟩ := hg
    obtain ⟨f0, f1, f2, f3, f4, f5⟩ := hf it (by simp)
    obtain ⟨hs, raw⟩ := do_raw I ha
    obtain ⟨ok, ov, hit⟩ := st
    exact wpAny_pyNext_items_end_raw (I.ok.hd hc) hit raw (by simpa using hi) fun h' eb => ⟨rfl, I.turned (t' := s.toks) (fun b ob hb e => eb b ob hb e) f0 f1 f3 f4 f5⟩
  self := fun A i s Q E st h => let ⟨_, _, e⟩ := st; PySem.W.kcp_self e h
end
def ikD (td : TE) : TI := fun σ H Rr => td σ H fun x H1 => ∃ a es ep, x = .ref a ∧ H1 a = some (DO a es ep) ∧ Rr (ItkD a es ep) H1
def ivD (td : TE) : TI := fun σ H Rr => td σ H fun x H1 => ∃ a es ep vs, x = .ref a ∧ H1 a = some (DO a es ep) ∧ Rr (ItvD a es ep vs) H1
def iiD (td : TE) : TI := fun σ H Rr => td σ H fun x H1 => ∃ a es ep vs, x = .ref a ∧ H1 a = some (DO a es ep) ∧ Rr (ItiD a es ep vs) H1
section
variable {X : Cx} {tg e : Expr} {td : TE} {apos cpos : Pos}
theorem raw_noDict {s : Shared} {a : Addr} {es : Array DictEntry} {ep : Nat} (x : s.heap.DictRaw a es ep) : ∀ b, Value.ref a = .ref b → ∃ ob, s.heap.get? b = some ob ∧ ob.dict = none := fun b q => by
  cases q
  obtain ⟨o, ho, hc, _⟩ := x
  exact ⟨o, ho, hc.2.1⟩
theorem pi_kD0 (he : PE X e td) : PI X tg e (ikD td) := by
  refine ⟨fun pins s σ H R I h => ?_⟩
  refine thn (he.run pins s σ H _ I h) fun u s1 ⟨x, H1, I1, rx, a, es, ep, ex, ha, q⟩ => ?_
  subst ex
  obtain rfl : u = Value.ref a := rx
  obtain ⟨hs, raw⟩ := do_raw I1 ha
  exact wpAny_pyIter_dict_raw hs raw (pi_one (tk := s1.toks) I1 _ (turn_kD _) ⟨_, Heap.get?_push_size _ rfl, rfl, rfl⟩ q)
theorem pi_vD0 (he : PE X e td) (hbase : attributeBase e "values" X.env (eval e X.env) = eval e X.env := by rfl) (hline : (apos.endLine == cpos.line) = true := by rfl) : PI X tg (.Call (.Attribute e "values" apos) [] [] cpos) (ivD td) := by
  refine ⟨fun pins s σ H R I h => ?_⟩
  refine wpAny_Call_method (T := "dict") (id := "dict.values") hbase rfl hline F.plainAttrs_dict F.slot_dict_values F.type_dict_values (thn (he.run pins s σ H _ I h) fun u s1 ⟨x, H1, I1, rx, a, es, ep, vs, ex, ha, q⟩ => ?_)
  subst ex
  obtain rfl : u = Value.ref a := rx
  obtain ⟨hs, raw⟩ := do_raw I1 ha
  refine ⟨raw.typeIs, raw_noDict raw, ?_⟩
  have I2 : Inv X pins σ H1 { s1 with heap := s1.heap.push { cls := .type "dict_values", data := .fields #[.ref a] } } := I1.kept (t' := s1.toks) fun b ob q => Heap.get?_push_of_some _ q
  have fin : wpAny (model X.prog X.w) X.A (pyIter (.ref s1.heap.objs.size)) (PIE X pins σ tg R) X.xe { s1 with heap := s1.heap.push { cls := .type "dict_values", data := .fields #[.ref a] } } :=
    wpAny_pyIter_values_raw (d := a) ⟨_, Heap.get?_push_size _ rfl, rfl, rfl⟩ (raw.push _) (pi_one (tk := s1.toks) I2 _ (turn_vD _ vs) ⟨_, Heap.get?_push_size _ rfl, rfl, rfl⟩ q)
  show wpAny _ _ (callWith cpos (.builtin "dict.values") [.ref a] [] []) _ X.xe s1
  exact method_meetsIn F.slot_dict_values F.entry_dict_values rfl (PySem.evalArgs_none ⟨rfl, raw.typeIs, F.args_dict_values_1 _, _, meets_dict_values_raw a hs, ⟨_, _, raw⟩, fin⟩)
theorem pi_iD0 {elts : List Expr} {kk : Nat} {tpos : Pos} (he : PE X e td) (hbase : attributeBase e "items" X.env (eval e X.env) = eval e X.env := by rfl) (hline : (apos.endLine == cpos.line) = true := by rfl) :
    PI X (.Tuple elts kk tpos) (.Call (.Attribute e "items" apos) [] [] cpos) (iiD td) := by
  refine ⟨fun pins s σ H R I h => ?_⟩
  refine wpAny_Call_method (T := "dict") (id := "dict.items") hbase rfl hline F.plainAttrs_dict F.slot_dict_items F.type_dict_items (thn (he.run pins s σ H _ I h) fun u s1 ⟨x, H1, I1, rx, a, es, ep, vs, ex, ha, q⟩ => ?_)
  subst ex
  obtain rfl : u = Value.ref a := rx
  obtain ⟨hs, raw⟩ := do_raw I1 ha
  refine ⟨raw.typeIs, raw_noDict raw, ?_⟩
  have I2 : Inv X pins σ H1 { s1 with heap := s1.heap.push { cls := .type "dict_items", data := .fields #[.ref a] } } := I1.kept (t' := s1.toks) fun b ob q => Heap.get?_push_of_some _ q
  have fin : wpAny (model X.prog X.w) X.A (pyIter (.ref s1.heap.objs.size)) (PIE X pins σ (.Tuple elts kk tpos) R) X.xe { s1 with heap := s1.heap.push { cls := .type "dict_items", data := .fields #[.ref a] } } :=
    wpAny_pyIter_items_raw (d := a) ⟨_, Heap.get?_push_size _ rfl, rfl, rfl⟩ (raw.push _) (pi_one (tk := s1.toks) I2 _ (turn_iD _ vs) ⟨.none, .none, Heap.get?_push_size _ rfl⟩ q)
  show wpAny _ _ (callWith cpos (.builtin "dict.items") [.ref a] [] []) _ X.xe s1
  exact method_meetsIn F.slot_dict_items F.entry_dict_items rfl (PySem.evalArgs_none ⟨rfl, raw.typeIs, F.args_dict_items_1 _, _, meets_dict_items_raw a hs, ⟨_, _, raw⟩, fin⟩)
end
end Mx

set_option maxHeartbeats 4000000
/-! dicts by data: what is walked, lists of them, displays -/
namespace Mx
open PySem PySem.Spec PyProof.Rows L2
def tpk : List (Dat × Dat) → Bool
  | (.tuple _, _) :: _ => true
  | _ => false
def dctD : EV → Option (List (Dat × Dat))
  | .dat (.dict kvs) => if tpk kvs = true then some kvs else none
  | _ => none
def dctOf (sto : Sto) : EV → Option (List (Dat × Dat))
  | .ref i => match sto[i]? with
    | some (.dD kvs) => some kvs
    | _ => none
  | x => dctD x
theorem dctD_rp {Hf : Hp} {μ : Mu} {v : V} {x : EV} {kvs : List (Dat × Dat)} (r : EvR Hf μ v x) (h : dctD x = some kvs) : ∃ a es ep, v = .ref a ∧ Hf a = some (DO a es ep) ∧ es.length ≤ sizeLine ∧ DOk kvs ∧ RpE Hf es kvs := by
  cases x with
  | ref i => cases h
  | dat d =>
    cases d with
    | dict ks =>
      unfold dctD at h
      simp only at h
      split at h
      · rename_i ht
        cases h
        cases r with
        | dct e l ko rr => exact ⟨_, _, _, rfl, e, l, ko, rr⟩
        | dkk e rr =>
          cases rr with
          | nil => cases ht
          | cons r1 r2 => cases ht
      · cases h
    | _ => cases h
theorem dctOf_rp {K : PySem.W.Frag} {ex : List Addr} {μ : Mu} {H : Hp} {sto : Sto} {v : V} {x : EV} {kvs : List (Dat × Dat)} (S : StoR K ex μ H sto) (r : EvR (hf ex μ H) μ v x) (h : dctOf sto x = some kvs) :
    ∃ a es ep, v = .ref a ∧ H a = some (DO a es ep) ∧ es.length ≤ sizeLine ∧ DOk kvs ∧ RpE (hf ex μ H) es kvs := by
  cases x with
  | ref i =>
    obtain ⟨a, as, hμ, rfl⟩ := r
    unfold dctOf at h
    simp only at h
    split at h
    · rename_i ks hs
      cases h
      obtain ⟨b, es, ep, e, hb, z, ko, p⟩ := S.cells i _ _ hμ hs
      cases e
      exact ⟨_, es, ep, rfl, hb, z, ko, p⟩
    · cases h
  | dat d =>
    obtain ⟨a, es, ep, e, ha, l, ko, rr⟩ := dctD_rp r (show dctD (.dat d) = some kvs from h)
    exact ⟨a, es, ep, e, (off_some ha).2, l, ko, rr⟩
theorem rpE_vals {Hf : Hp} : ∀ {es : List DictEntry} {kvs : List (Dat × Dat)}, RpE Hf es kvs → ∃ vs : List V, RpL Hf vs (kvs.map (·.2)) ∧ ∀ (i : Nat) e, es[i]? = some e → ∃ v, vs[i]? = some v ∧ RelV v e.val
  | _, _, .nil => ⟨[], .nil, fun i e h => by simp at h⟩
  | _, _, .cons (u := u) r1 r2 r3 r4 r5 t => by
    obtain ⟨vs, h1, h2⟩ := rpE_vals t
    refine ⟨u :: vs, .cons r5 h1, fun i e h => ?_⟩
    cases i with
    | zero => cases h; exact ⟨u, rfl, r4⟩
    | succ i => exact h2 i e (by simpa using h)
def dKeys (m : DE) : DI := fun env s => (m env s).bind fun x s1 => match dctD x with
  | some kvs => .ok (kvs.map (·.1)) s1
  | none => .fail
def dVals (m : DE) : DI := fun env s => (m env s).bind fun x s1 => match dctD x with
  | some kvs => .ok (kvs.map (·.2)) s1
  | none => .fail
def dItems (m : DE) : DI := fun env s => (m env s).bind fun x s1 => match dctD x with
  | some kvs => .ok (kvs.map fun p => .tuple [p.1, p.2]) s1
  | none => .fail
section
variable {Hf : Hp} {a : Addr} {es : List DictEntry} {ep : Nat} {kvs : List (Dat × Dat)} (h : Hf a = some (DO a es ep)) (l : es.length ≤ sizeLine) (ko : DOk kvs) (r : RpE Hf es kvs)
include h l ko r
theorem src_kD : Src (ItkD a es ep) Hf (kvs.map (·.1)) := by
  refine ⟨by rw [List.length_map, ← r.length]; exact l, fun i H hi s => ?_, fun H s => ⟨s _ _ h, by rw [List.length_map, r.length]; exact Nat.le_refl _⟩, fun i H x H' d hd s y => ?_⟩
  · rw [List.length_map] at hi
    obtain ⟨e, b, u, h1, h2, _⟩ := rpE_get r ko.keys (List.getElem?_eq_getElem hi)
    exact ⟨s _ _ h, e, b, h1, h2⟩
  · obtain ⟨e, en, b, h1, h2, rfl⟩ := y
    rw [List.getElem?_map] at hd
    cases hp : kvs[i]? with
    | none => rw [hp] at hd; cases hd
    | some p =>
      rw [hp] at hd
      cases hd
      obtain ⟨e', b', u, g1, g2, g3, _⟩ := rpE_get r ko.keys hp
      rw [h1] at g1
      cases g1
      rw [h2] at g2
      cases g2
      exact .inl ⟨e, g3⟩
theorem src_vD {vs : List V} (hv : RpL Hf vs (kvs.map (·.2))) (hr : ∀ (i : Nat) e, es[i]? = some e → ∃ v, vs[i]? = some v ∧ RelV v e.val) : Src (ItvD a es ep vs) Hf (kvs.map (·.2)) := by
  refine ⟨by rw [List.length_map, ← r.length]; exact l, fun i H hi s => ?_, fun H s => ⟨s _ _ h, by rw [List.length_map, r.length]; exact Nat.le_refl _⟩, fun i H x H' d hd s y => ?_⟩
  · rw [List.length_map] at hi
    obtain ⟨e, b, u, h1, h2, _⟩ := rpE_get r ko.keys (List.getElem?_eq_getElem hi)
    obtain ⟨v, g1, g2⟩ := hr i e h1
    exact ⟨s _ _ h, e, v, h1, g1, g2⟩
  · obtain ⟨e, hx⟩ := y
    obtain ⟨v, g1, g2⟩ := hv.get hd
    rw [hx] at g1
    cases g1
    exact .inl ⟨e, g2⟩
theorem src_iD {vs : List V} (hv : RpL Hf vs (kvs.map (·.2))) (hr : ∀ (i : Nat) e, es[i]? = some e → ∃ v, vs[i]? = some v ∧ RelV v e.val) : Src (ItiD a es ep vs) Hf (kvs.map fun p => .tuple [p.1, p.2]) := by
  refine ⟨by rw [List.length_map, ← r.length]; exact l, fun i H hi s => ?_, fun H s => ⟨s _ _ h, by rw [List.length_map, r.length]; exact Nat.le_refl _⟩, fun i H x H' d hd s y => ?_⟩
  · rw [List.length_map] at hi
    obtain ⟨e, b, u, h1, h2, _⟩ := rpE_get r ko.keys (List.getElem?_eq_getElem hi)
    obtain ⟨v, g1, g2⟩ := hr i e h1
    exact ⟨s _ _ h, e, b, v, h1, h2, g1, g2⟩
  · obtain ⟨t, en, b, v, h1, h2, hx, rfl, ht, rfl⟩ := y
    rw [List.getElem?_map] at hd
    cases hp : kvs[i]? with
    | none => rw [hp] at hd; cases hd
    | some p =>
      rw [hp] at hd
      cases hd
      obtain ⟨e', b', u, g1, g2, g3, _⟩ := rpE_get r ko.keys hp
      rw [h1] at g1
      cases g1
      rw [h2] at g2
      cases g2
      have hd2 : (kvs.map (·.2))[i]? = some p.2 := by rw [List.getElem?_map, hp]; rfl
      obtain ⟨v', q1, q2⟩ := hv.get hd2
      rw [hx] at q1
      cases q1
      exact .inr ⟨t, _, _, rfl, ht, rfl, rfl, two_line, .cons g3 (.cons q2 .nil)⟩
end
section
variable {X : Cx} {EQ : EK} {tg e : Expr} {apos cpos : Pos} {m : DE}
theorem pi_kD (h : PE X e (T X.K EQ m)) : PI X tg e (Ti X.K EQ (dKeys m)) := PI.weak (pi_kD0 h) fun σ H Rr => by
  rintro ⟨ex, μ, env, sto, S, V, h⟩
  refine T.then S V h fun x s1 v μ1 H1 F1 S1 V1 r h1 => ?_
  split at h1
  · rename_i kvs hk
    obtain ⟨a, es, ep, rfl, ha, l, ko, rr⟩ := dctD_rp r hk
    exact ⟨a, es, ep, rfl, (off_some ha).2, h1 _ μ1 H1 F1 S1 (src_kD ha l ko rr)⟩
  · exact h1.elim
theorem pi_vD (h : PE X e (T X.K EQ m)) (hbase : attributeBase e "values" X.env (eval e X.env) = eval e X.env := by rfl) (hline : (apos.endLine == cpos.line) = true := by rfl) : PI X tg (.Call (.Attribute e "values" apos) [] [] cpos) (Ti X.K EQ (dVals m)) := PI.weak (pi_vD0 h hbase hline) fun σ H Rr => by
  rintro ⟨ex, μ, env, sto, S, V, h⟩
  refine T.then S V h fun x s1 v μ1 H1 F1 S1 V1 r h1 => ?_
  split at h1
  · rename_i kvs hk
    obtain ⟨a, es, ep, rfl, ha, l, ko, rr⟩ := dctD_rp r hk
    obtain ⟨vs, hv, hr⟩ := rpE_vals rr
    exact ⟨a, es, ep, vs, rfl, (off_some ha).2, h1 _ μ1 H1 F1 S1 (src_vD ha l ko rr hv hr)⟩
  · exact h1.elim
theorem pi_iD {elts : List Expr} {kk : Nat} {tpos : Pos} (h : PE X e (T X.K EQ m)) (hbase : attributeBase e "items" X.env (eval e X.env) = eval e X.env := by rfl) (hline : (apos.endLine == cpos.line) = true := by rfl) : PI X (.Tuple elts kk tpos) (.Call (.Attribute e "items" apos) [] [] cpos) (Ti X.K EQ (dItems m)) := PI.weak (pi_iD0 h hbase hline) fun σ H Rr => by
  rintro ⟨ex, μ, env, sto, S, V, h⟩
  refine T.then S V h fun x s1 v μ1 H1 F1 S1 V1 r h1 => ?_
  split at h1
  · rename_i kvs hk
    obtain ⟨a, es, ep, rfl, ha, l, ko, rr⟩ := dctD_rp r hk
    obtain ⟨vs, hv, hr⟩ := rpE_vals rr
    exact ⟨a, es, ep, vs, rfl, (off_some ha).2, h1 _ μ1 H1 F1 S1 (src_iD ha l ko rr hv hr)⟩
  · exact h1.elim
/-! ### list(d) -/
def rListDD : List V → Hp → VK → Prop := fun xs H Q => ∃ (a : Addr) (es : List DictEntry) (ep : Nat) (bs : List Addr), xs = [.ref a] ∧ H a = some (DO a es ep) ∧ es.length ≤ sizeLine ∧ es.map (·.key) = bs.map Value.ref ∧ ∀ q, H q = none → Q (.ref q) (upd H q (.lst (bs.map V.ref)))
theorem vals_refs1 : ∀ bs : List Addr, Vals (bs.map V.ref) (bs.map Value.ref)
  | [] => .nil
  | b :: r => .cons rfl (vals_refs1 r)
theorem call_list_DD (hc : X.calm = true) : CallR X (.type "list") rListDD := by
  intro pins s σ H xs us Q I r h
  obtain ⟨a, es, ep, bs, e, ha, l, hb, q⟩ := h
  subst e
  rw [Vals.ref1 r]
  obtain ⟨hs, raw⟩ := do_raw I ha
  refine PySem.W.kdl_call (KdlSrc.rawDict (ep := ep) (es := es.toArray) hs) (I.ok.hd hc) raw (by simpa using l) fun h' tk acc' c' hkeep hS hacc => ?_
  have ea : acc'.toList = bs.map Value.ref := by
    rw [← hb]
    apply List.ext_getElem?
    intro j
    rw [List.getElem?_map]
    cases hj : acc'.toList[j]? with
    | none =>
      have h1 := List.getElem?_eq_none_iff.mp hj
      rw [Array.length_toList, hacc.1] at h1
      rw [List.getElem?_eq_none (by simpa using h1)]
      rfl
    | some v =>
      obtain ⟨hi, e⟩ := hacc.2 j v (by rw [← Array.getElem?_toList]; exact hj)
      have hi' : j < es.length := by simpa using hi
      rw [List.getElem?_eq_getElem hi', e]
      simp
  have hl : (bs.map V.ref).length ≤ sizeLine := by
    have := congrArg List.length hb
    rw [List.length_map, List.length_map] at this
    rw [List.length_map]
    omega
  exact ⟨.ref s.heap.objs.size, upd H s.heap.objs.size (.lst (bs.map V.ref)), I.laid hkeep (Nat.le_refl _) (show ObjOk X.prog X.w _ _ _ (.lst (bs.map V.ref)) from ⟨hl, acc'.toList, c', by rw [ea]; exact vals_refs1 bs, hS⟩), rfl, q _ (I.hok.fresh (Nat.le_refl _))⟩
def lstDF : Sto → List EV → Option (List Dat) := fun sto xs => match xs with
  | [x] => (dctOf sto x).map fun kvs => kvs.map (·.1)
  | _ => none
theorem rpE_keys {Hf : Hp} : ∀ {es : List DictEntry} {kvs : List (Dat × Dat)}, RpE Hf es kvs → (∀ p ∈ kvs, tkD p.1 = true) → ∃ bs : List Addr, es.map (·.key) = bs.map Value.ref ∧ RpL Hf (bs.map V.ref) (kvs.map (·.1))
  | _, _, .nil, _ => ⟨[], rfl, .nil⟩
  | _, _, .cons (e := e) r1 r2 r3 r4 r5 t, k => by
    obtain ⟨bs, h1, h2⟩ := rpE_keys t fun q hq => k q (List.mem_cons_of_mem _ hq)
    obtain ⟨⟨ds, hd⟩, _⟩ := tk_tup (k _ List.mem_cons_self)
    simp only at hd
    subst hd
    cases r2 with
    | tup a l q =>
      refine ⟨_ :: bs, ?_, .cons (.tup a l q) h2⟩
      rw [List.map_cons, List.map_cons, h1]
      rw [show e.key = Value.ref _ from r1]
theorem cf_lstD {K : PySem.W.Frag} : CallF K rListDD lstDF := by
  intro ex μ H sto xs vs d Q S r h q
  unfold lstDF at h
  split at h
  · obtain ⟨v, rfl, rv⟩ := one_of r
    obtain ⟨kvs, hk, e⟩ := Option.map_eq_some_iff.mp h
    subst e
    obtain ⟨a, es, ep, rfl, ha, l, ko, rr⟩ := dctOf_rp S rv hk
    obtain ⟨bs, h1, h2⟩ := rpE_keys rr ko.keys
    refine ⟨a, es, ep, bs, rfl, ha, l, h1, fun p hp => ?_⟩
    have hl := congrArg List.length h1
    rw [List.length_map, List.length_map] at hl
    exact q _ (by rw [List.length_map]; omega) h2 p hp
  · cases h
/-! ### {k: v} -/
def tDisp1 (tk tv : TE) : TE := fun σ H Q => ∀ D, H D = none → tk σ (upd H D (DO D [] 0)) fun y H1 => tv σ H1 fun z H2 => PutD D H2 y z fun H' => Q (.ref D) H'
theorem pe_disp1 {k v : Expr} {pos : Pos} {tk tv : TE} (hu : X.A.units + 9 < cLine) (hk : PE X k tk) (hv : PE X v tv) : PE X (.Dict [some k] [v] pos) (tDisp1 tk tv) := by
  refine ⟨fun pins s σ H Q I h => ?_⟩
  have hn := I.hok.fresh (Nat.le_refl s.heap.objs.size)
  have I1 := I.laid (a := s.heap.objs.size) (o := DO s.heap.objs.size [] 0) (h' := s.heap.push { cls := .type "dict", data := .dict #[] }) (t' := s.toks) (fun _ _ q => Heap.get?_push_of_some _ q) (Nat.le_refl _) (do_empty s.heap I.big)
  rw [arm_eval_Dict]
  refine wpAny_bind (wpAny_standAt ?_)
  show wpAny _ _ (dictDisplay ([(eval k X.env, do let x ← eval v X.env; standAt pos; pure x)].map fun p => (some p.1, p.2))) _ _ _
  rw [dictDisplay_pairs _ (by simp) (by simp)]
  refine wpAny_bind ?_
  unfold subDict
  refine wpAny_bind (wpAny_alloc (wpAny_bind (wpAny_holding ?_)))
  rw [if_pos (by simp)]
  refine wpAny_bind (evalPairs_cons (thn (hk.run pins _ σ _ _ I1 (h _ hn)) fun u s2 ⟨y, H1, I2, ry, q1⟩ => wpAny_bind (thn (hv.run pins _ σ _ _ I2 q1) fun u2 s3 ⟨z, H2, I3, rz, q2⟩ => ?_)))
  refine wpAny_bind (wpAny_standAt (wpAny_pure (evalPairs_nil (wpAny_holding (wpAny_bind ?_)))))
  rw [List.forIn_cons]
  refine wpAny_bind (wpAny_bind (do_put hu I3 ry rz q2 fun s4 H4 I4 nx => wpAny_pure ?_))
  dsimp only
  rw [List.forIn_nil]
  exact wpAny_pure (wpAny_pure (wpAny_pure (wpAny_pure ⟨.ref s.heap.objs.size, H4, I4, rfl, nx⟩)))
def eDisp1 (k v : DE) : DE := fun env s => (k env s).bind fun x s1 => (v env s1).bind fun y s2 => match x, y with
  | .dat kd, .dat d => if tkD kd = true then .ok (.ref s2.length) (s2 ++ [.dD [(kd, d)]]) else .fail
  | _, _ => .fail
theorem pe_dp1 {k v : Expr} {pos : Pos} {mk mv : DE} (hu : X.A.units + 9 < cLine) (hk : PE X k (T X.K EQ mk)) (hv : PE X v (T X.K EQ mv)) : PE X (.Dict [some k] [v] pos) (T X.K EQ (eDisp1 mk mv)) := (pe_disp1 hu hk hv).weak fun σ H Q => by
  rintro ⟨ex, μ, env, sto, S, V, h⟩ D hD
  have L := S.laid (o := DO D [] 0) hD
  have SX := S.laidX (o := DO D [] 0) hD
  have F0 : FwdE μ H μ (upd H D (DO D [] 0)) := L.2
  have VX : EnvR (hf (D :: ex) μ (upd H D (DO D [] 0))) μ σ env := V.fwdX F0 hD
  refine ⟨D :: ex, μ, env, sto, SX, VX, R.wp_mono (fun x s1 q v μ1 H1 F1 S1 r1 => ?_) (fun e s q μ1 H1 F1 S1 => q μ1 H1 (F0.fwd.trans F1) S1.less) _ ((R.wp_bind _).mp h)⟩
  refine ⟨D :: ex, μ1, env, s1, S1, VX.fwd F1, R.wp_mono (fun y s2 q w μ2 H2 F2 S2 r2 => ?_) (fun e s q μ2 H2 F2 S2 => q μ2 H2 ((F0.trans F1).fwd.trans F2) S2.less) _ ((R.wp_bind _).mp q)⟩
  have hD2 : H2 D = some (DO D [] 0) := F2.keep D _ (S1.dis D List.mem_cons_self) (F1.keep D _ (SX.dis D List.mem_cons_self) upd_same)
  cases x with
  | ref _ => cases y <;> exact q.elim
  | dat kd =>
   cases y with
   | ref _ => exact q.elim
   | dat d =>
    simp only at q
    split at q
    · rename_i ht
      have F02 := (F0.trans F1).trans F2
      refine ⟨hf (D :: ex) μ2 H2, [], 0, [], kd, d, off_sub _ _, ?_, hD2, dok_nil, by decide, .nil, ht, r1.fwd F2, r2, fun es' ep' hes re => ?_⟩
      · unfold hf off
        rw [if_pos (by simp)]
      · have O := S2.over (o := DO D es' ep') (D := D) List.mem_cons_self
        have e1 : putN [] kd d = [(kd, d)] := rfl
        have ko := putN_ok d dok_nil ht
        rw [e1] at re ko
        have F : FwdE μ H μ2 (upd H2 D (DO D es' ep')) := by
          refine ⟨fun a o n e => ?_, F02.fresh, F02.ext⟩
          rw [upd_ne (ne_of_none e hD)]
          exact F02.keep a o n e
        refine q _ (μ2 ++ [[D]]) _ (F.add hD) (O.1.add (out_ex S hD) ⟨D, es', ep', rfl, upd_same, hes, ko, ?_⟩) ⟨D, [], at_last O.1.len, rfl⟩
        rw [O.2]
        exact re
    · exact q.elim
end
@[simp] theorem u_dKeys (m : DE) (env : Env) (s : Sto) : dKeys m env s = (m env s).bind fun x s1 => match dctD x with
  | some kvs => .ok (kvs.map (·.1)) s1
  | none => .fail := rfl
@[simp] theorem u_dVals (m : DE) (env : Env) (s : Sto) : dVals m env s = (m env s).bind fun x s1 => match dctD x with
  | some kvs => .ok (kvs.map (·.2)) s1
  | none => .fail := rfl
@[simp] theorem u_dItems (m : DE) (env : Env) (s : Sto) : dItems m env s = (m env s).bind fun x s1 => match dctD x with
  | some kvs => .ok (kvs.map fun p => .tuple [p.1, p.2]) s1
  | none => .fail := rfl
@[simp] theorem u_eDisp1 (k v : DE) (env : Env) (s : Sto) : eDisp1 k v env s = (k env s).bind fun x s1 => (v env s1).bind fun y s2 => match x, y with
  | .dat kd, .dat d => if tkD kd = true then .ok (.ref s2.length) (s2 ++ [.dD [(kd, d)]]) else .fail
  | _, _ => .fail := rfl
@[simp] theorem u_lstDF (s : Sto) (x : EV) : lstDF s [x] = (dctOf s x).map fun kvs => kvs.map (·.1) := rfl
end Mx

set_option maxHeartbeats 4000000
/-! len of dicts by data -/
namespace Mx
open PySem PySem.Spec PyProof.Rows L2
def rLenDO : List V → Hp → VK → Prop := fun xs H Q => ∃ (Hf : Hp) (a : Addr) (es : List DictEntry) (ep : Nat) (kvs : List (Dat × Dat)), xs = [.ref a] ∧ Sub Hf H ∧ H a = some (DO a es ep) ∧ DOk kvs ∧ RpE Hf es kvs ∧ es.length ≤ sizeLine ∧ Q (.int kvs.length) H
theorem cr_lenDO {X : Cx} : CallR X (.builtin "len") rLenDO := by
  intro pins s σ H xs us Q I r h
  obtain ⟨Hf, a, es, ep, kvs, rfl, sb, ha, ko, rr, l, q⟩ := h
  rw [Vals.ref1 r]
  obtain ⟨hs, ys, dd, er, ee⟩ := do_of I.hok sb ha ko rr
  have hl : kvs.length = ys.length := (Paired.length er).symm
  have hl2 : es.length = ys.length := by rw [ee, List.length_map]
  refine call_len_dictH hs dd (by rw [← hl2]; rw [sizeLine_eq] at l; omega) ?_
  rw [← hl]
  exact ⟨.int ((kvs.length : Nat) : Int), H, I.tok _, ⟨_, rfl⟩, q⟩
def lenDOD : Sto → List EV → Option Dat := fun sto xs => match xs with
  | [x] => (dctOf sto x).map fun kvs => .int (kvs.length : Nat)
  | _ => none
theorem cd_lenDO {K : PySem.W.Frag} : CallD K rLenDO lenDOD := by
  intro ex μ H sto xs vs d Q S r h q
  unfold lenDOD at h
  split at h
  · obtain ⟨v, rfl, rv⟩ := one_of r
    obtain ⟨kvs, hk, e⟩ := Option.map_eq_some_iff.mp h
    subst e
    obtain ⟨a, es, ep, rfl, ha, l, ko, rr⟩ := dctOf_rp S rv hk
    exact ⟨_, a, es, ep, kvs, rfl, off_sub _ _, ha, ko, rr, l, q _ μ H (.refl _ _) S (.int _)⟩
  · cases h
def lenBD := orD lenD lenDOD
@[simp] theorem u_lenBD (s : Sto) (xs : List EV) : lenBD s xs = (match lenD s xs with
  | some r => some r
  | none => lenDOD s xs) := rfl
@[simp] theorem u_lenDOD (s : Sto) (x : EV) : lenDOD s [x] = (dctOf s x).map fun kvs => .int (kvs.length : Nat) := rfl
end Mx

set_option maxHeartbeats 4000000
/-! ### len(set(xs)), xs a list or a tuple of fewer than 64 unlike tuples of ints -/
namespace Mx
open PySem PySem.Spec PyProof.Rows L2
section
variable {P : Program} {w : World} {A : Around} {E : Value → Shared → Prop}
/-- a set just made -/
def newSet (w : World) : Obj := { cls := .type "set", dict := none, data := .set #[] 0 (.fresh 0 0 (!w.params.followText "set-order")) }
/-- what a set holds when it has got all of ks -/
def Holds (P : Program) (w : World) (ks : List (Addr × List Int)) (s : Shared) (r : Value) (s2 : Shared) : Prop :=
  r = .none ∧ ∃ h' tk L es ep t, s2 = { s with heap := h', toks := tk } ∧ SetTR P w h' s.heap.objs.size L es ep t ∧ Got ks ks.length L ∧ ∀ b o, s.heap.get? b = some o → h'.get? b = some o
theorem no_obj {h : Heap} {b : Addr} (hb : h.objs.size ≤ b) : h.get? b = none := by
  cases q : h.get? b with
  | none => rfl
  | some o => exact absurd (Heap.lt_size q) (Nat.not_lt.mpr hb)
variable {s : Shared} {l : Addr} {items : Array Value} {ks : List (Addr × List Int)}
theorem init_tup (hh : A.handled = none) (hl : s.heap.IsTuple l items) (hit : items.toList = ks.map fun p => Value.ref p.1) (hk : ∀ p ∈ ks, IsT P w s.heap p.2 p.1) (hfew : ks.length < 64) (hu : A.units + 1 < cLine) :
    wpAny (model P w) A (Builtin.«set.__init__» ⟨[.ref s.heap.objs.size, .ref l], []⟩) (fun f s2 => ∃ r, f = .done (.ret r) ∧ Holds P w ks s r s2) E { s with heap := s.heap.push (newSet w) } := by
  obtain ⟨⟨cl, di, da, sl⟩, ho, hc, n, hd⟩ := hl
  cases hc
  cases hd
  have up : ∀ b o, s.heap.get? b = some o → (s.heap.push (newSet w)).get? b = some o := fun b o e => Heap.get?_push_of_some _ e
  have szN : (s.heap.push (newSet w)).objs.size = s.heap.objs.size + 1 := Heap.size_push ..
  have lt := Heap.lt_size ho
  have oT := up _ _ ho
  have isT : (s.heap.push (newSet w)).IsTuple l items := ⟨_, oT, rfl, n, rfl⟩
  have f1 := F.sub_tuple_set
  have f2 := F.sub_tuple_frozenset
  have f3 : (Value.type "tuple" == Value.type "dict") = false := by decide
  unfold Builtin.«set.__init__» noKeywords Builtin.Frozenset.updateFrom
  generalize hPI : pyIter = PI
  wp_walk
  subst hPI
  refine wpAny_pyIter_tuple isT ?_
  refine wpAny_bind (wpAny_runValue ?_)
  have apart1 : l ≠ (s.heap.push (newSet w)).objs.size := by rw [szN]; exact Nat.ne_of_lt (Nat.lt_succ_of_lt lt)
  have apart2 : s.heap.objs.size ∉ [(s.heap.push (newSet w)).objs.size, l] := by
    intro m
    rcases List.mem_cons.mp m with e | m
    · rw [szN] at e
      exact absurd e (Nat.ne_of_lt (Nat.lt_succ_self _))
    · rw [List.mem_singleton] at m
      exact absurd m (Nat.ne_of_gt lt)
  have hsz : items.size = ks.length := by
    have q := congrArg List.length hit
    rw [List.length_map] at q
    exact q
  have vals : ∀ (i : Nat) (v : Value), items[i]? = some v → ∃ p, ks[i]? = some p ∧ v = .ref p.1 := fun i v e => by
    rw [← Array.getElem?_toList, hit, List.getElem?_map] at e
    obtain ⟨p, h1, h2⟩ := Option.map_eq_some_iff.mp e
    exact ⟨p, h1, h2.symm⟩
  refine set_update_tups ((Walks.tuple (by simp [hh]) _ l apart1 items).toS) s.heap.objs.size apart2 ks hsz hfew vals s.heap hk (no_obj (Nat.le_refl _))
    (fun b hb => no_obj (by rw [List.mem_singleton.mp hb, szN]; omega)) hu (items.size - 0) 0 _ (by omega) (Nat.zero_le _)
    ⟨⟨_, Heap.get?_push_size _ rfl, rfl, rfl⟩, isT.push _⟩ (fun b o e => Heap.get?_push_of_some _ (up b o e)) ?_ ?_
  · exact ⟨[], #[], 0, _, setTR_fresh (Heap.get?_push_of_some _ (Heap.get?_push_size _ rfl)), Got.zero ks⟩
  · rintro ⟨h2, g2, d2, t2, o2⟩ L es ep t m R g k
    cases m.gens
    cases m.drawn
    cases m.os
    rw [hsz] at g
    exact wpAny_pure (wpAny_pure ⟨_, rfl, rfl, h2, t2, L, es, ep, t, rfl, R, g, k⟩)
theorem call_set_tupT {Q : Value → Shared → Prop} (hh : A.handled = none) (hl : s.heap.IsTuple l items) (hit : items.toList = ks.map fun p => Value.ref p.1) (hk : ∀ p ∈ ks, IsT P w s.heap p.2 p.1) (hfew : ks.length < 64) (hu : A.units + 3 < cLine)
    (h : ∀ s2, Holds P w ks s .none s2 → Q (.ref s.heap.objs.size) s2) : wpAny (model P w) A (call (.type "set") [.ref l]) Q E s := by
  obtain ⟨c, tl, hmro⟩ := F.called_set.mro
  have g1 := F.called_set.made
  have g2 := F.called_set.sub
  have g3 := F.called_set.notType
  have g4 := F.called_set.canCreate
  have g5 := F.typeCall_set_1 (.ref l)
  refine wpAny_call (codeAny_of_tree ?_)
  show wpAny _ _ (callAny (.type "set") _) _ _ _
  refine wpAny_pure ⟨Code.quiet_builtin _ (by decide +kernel), codeAny_builtin F.entry_type_call ?_⟩
  rw [Around.under_plain (weight_type_call_type "set" [.ref l] []) rfl]
  repeat (any_goals (first | assumption | wp_step))
  refine codeAny_mono (code_set_led1 (.ref l) (E := E) (Q₁ := fun obj s₁ => obj = .ref s.heap.objs.size ∧ s₁ = { s with heap := s.heap.push (newSet w) }) ⟨rfl, rfl⟩) fun r s₁ hr => ?_
  rcases r with e | fl
  · exact hr
  cases fl with
  | ret obj =>
    obtain ⟨rfl, rfl⟩ := hr
    have isS : Shared.TypeIs { s with heap := s.heap.push (newSet w) } (.ref s.heap.objs.size) "set" := ⟨_, Heap.get?_push_size _ rfl, rfl⟩
    have g6 := F.called_set.init.lookup
    have g7 := F.called_set.init.bind (.ref s.heap.objs.size)
    repeat (any_goals (first | assumption | wp_step))
    refine codeAny_mono (codeAny_call_builtin (R := wants (fun r s2 => Holds P w ks s r s2) E) F.called_set.init.plain F.entry_set_init (check_set_init_1 isS ?_)) fun r2 s2 hr2 => ?_
    · refine wpAny_mono (init_tup (by simp [hh]) hl hit hk hfew hu) (fun f s2 z => ?_) fun _ _ z => z
      obtain ⟨r, rfl, q⟩ := z
      exact q
    · rcases r2 with e | fl
      · exact hr2
      cases fl with
      | ret r =>
        obtain ⟨rfl, q⟩ := hr2
        repeat (any_goals (first | assumption | wp_step))
        exact h _ ⟨rfl, q⟩
      | _ => exact hr2.elim
  | _ => exact hr.elim
end
section
variable {X : Cx}
theorem sqT_new {K : PySem.W.Frag} {H : Hp} {a b : Addr} {o : HO} {xs : List V} (h : SqT K H b xs) (hn : H a = none) : SqT K (upd H a o) b xs := by
  have e : ∀ c p, H c = some p → upd H a o c = some p := fun c p z => by
    rw [upd_ne (fun y => by rw [y, hn] at z; cases z)]
    exact z
  exact h.elim (fun h => .inl (h.elim (fun h => .inl (e _ _ h)) fun ⟨o, h⟩ => .inr ⟨o, e _ _ h⟩)) .inr
/-- set(xs), xs a list or a tuple of tuples of ints -/
def rSetTT (K : PySem.W.Frag) (P : Program) (w : World) : List V → Hp → VK → Prop := fun xs H Q => ∃ (l : Addr) (ks : List (Addr × List Int)), xs = [V.ref l] ∧ (SqL K H l (ks.map fun p => V.ref p.1) ∨ SqT K H l (ks.map fun p => V.ref p.1)) ∧ (∀ p ∈ ks, SqT K H p.1 (p.2.map V.int)) ∧ ks.length < 64 ∧
  ∀ a L, H a = none → (L.map (·.2)).Nodup → (∀ p ∈ L, p ∈ ks) → (∀ p ∈ ks, p.2 ∈ L.map (·.2)) → Q (.ref a) (upd H a (SetTO P w a L))
theorem cr_setTT (hc : X.calm = true) (hu : X.A.units + 65 < cLine) : CallR X (.type "set") (rSetTT X.K X.prog X.w) := by
  intro pins s σ H xs us Q I r h
  obtain ⟨l, ks, rfl, hl, hk, hf, q⟩ := h
  rw [Vals.ref1 r]
  have hn : H s.heap.objs.size = none := I.hok.fresh (Nat.le_refl _)
  have fin : ∀ (h' : Heap) (tk : Nat) L es ep t, SetTR X.prog X.w h' s.heap.objs.size L es ep t → Got ks ks.length L → (∀ b o, s.heap.get? b = some o → h'.get? b = some o) →
      ∃ (v : V) (H' : Hp), Inv X pins σ H' { s with heap := h', toks := tk } ∧ RelV v (.ref s.heap.objs.size) ∧ Q v H' := fun h' tk L es ep t R g k =>
    ⟨.ref s.heap.objs.size, _, I.laid (t' := tk) k (Nat.le_refl _) (setTO_new R.t0), rfl, q _ L hn R.nd (fun p hp => List.mem_of_mem_take (g.sub p hp)) fun p hp => g.all p (by rw [List.take_length]; exact hp)⟩
  rcases hl with hl | hl
  · obtain ⟨its, rv, pl, hz⟩ := I.list hl
    exact call_set_tups (P := X.prog) (w := X.w) ks (I.ok.hd hc) pl.isList (by simpa using refs_of_vals rv) (fun p hp => I.isT (hk p hp)) hf (by omega) fin
  · obtain ⟨its, rv, pl, hz⟩ := I.tuple hl
    refine call_set_tupT (P := X.prog) (w := X.w) (ks := ks) (I.ok.hd hc) pl (by simpa using refs_of_vals rv) (fun p hp => I.isT (hk p hp)) hf (by omega) fun s2 hs2 => ?_
    obtain ⟨_, h', tk, L, es, ep, t, rfl, R, g, k⟩ := hs2
    exact fin h' tk L es ep t R g k
def rLenTT (K : PySem.W.Frag) (P : Program) (w : World) : List V → Hp → VK → Prop := fun xs H Q => ∃ (a : Addr) (L : List (Addr × List Int)), xs = [.ref a] ∧ H a = some (SetTO P w a L) ∧ (∀ p ∈ L, SqT K H p.1 (p.2.map V.int)) ∧ Q (.int (L.length : Nat)) H
theorem cr_lenTT : CallR X (.builtin "len") (rLenTT X.K X.prog X.w) := by
  intro pins s σ H xs us Q I r h
  obtain ⟨a, L, rfl, ha, hk, q⟩ := h
  rw [Vals.ref1 r]
  have R0 : SetT0 X.prog X.w s.heap a L := (I.hok a _ ha).1
  obtain ⟨es, ep, t, R⟩ := R0.full fun p hp => I.isT (hk p hp)
  obtain ⟨o, ho, hex, hd⟩ := R.ob
  have hs := R.size
  have hf := R.few
  exact call_len_set ho hex hd R.fits (by omega) ⟨.int (L.length : Nat), H, I.tok _, ⟨s.toks + 1, by rw [hs]⟩, q⟩
end
/-- a list of tuples of ints -/
def tupsD : List Dat → Option (List (List Int))
  | [] => some []
  | .tuple xs :: r => match intsD xs, tupsD r with
    | some a, some b => some (a :: b)
    | _, _ => none
  | _ => none
def tupsB (sto : Sto) (xs : List EV) : Option (List (List Int)) := match xs with
  | [x] => match view sto x with
    | some (.list ds) => if ds.length < 64 then (tupsD ds).bind fun l => if l.Nodup then some l else none else none
    | some (.tuple ds) => if ds.length < 64 then (tupsD ds).bind fun l => if l.Nodup then some l else none else none
    | _ => none
  | _ => none
def eLenSetT (m : DA) : DE := eB (fun sto xs => (tupsB sto xs).map fun l => .int (l.length : Nat)) m
theorem tups_v {K : PySem.W.Frag} {ls : List Addr} {H : Hp} : ∀ {vs : List V} {ds : List Dat} {l : List (List Int)}, RpL (off ls H) vs ds → tupsD ds = some l → ∃ ks : List (Addr × List Int), vs = (ks.map fun p => V.ref p.1) ∧ ks.map (·.2) = l ∧ ∀ p ∈ ks, SqT K H p.1 (p.2.map V.int)
  | _, [], _, r, h => by
    cases r
    cases h
    exact ⟨[], rfl, rfl, fun p hp => absurd hp List.not_mem_nil⟩
  | _, d :: ds, l, r, h => by
    cases r with
    | cons r t =>
    cases d with
    | tuple xs =>
      unfold tupsD at h
      cases e1 : intsD xs with
      | none => rw [e1] at h; cases h
      | some a =>
        cases e2 : tupsD ds with
        | none => rw [e1, e2] at h; cases h
        | some b =>
          rw [e1, e2] at h
          cases h
          obtain ⟨ks, h1, h2, h3⟩ := tups_v (K := K) t e2
          obtain ⟨p, ws, rfl, hp, _, rr⟩ := Rp.tup_inv r
          have := ints_v rr e1
          subst this
          refine ⟨(p, a) :: ks, by rw [h1]; rfl, by rw [List.map_cons, h2], fun q hq => ?_⟩
          rcases List.mem_cons.mp hq with rfl | hq
          · exact SqT.of (off_some hp).2
          · exact h3 q hq
    | _ => cases h
theorem tupsB_ok {K : PySem.W.Frag} {ex : List Addr} {μ : Mu} {H : Hp} {sto : Sto} {xs : List EV} {vs : List V} {l : List (List Int)} (S : StoR K ex μ H sto) (r : Paired (EvR (hf ex μ H) μ) vs xs) (h : tupsB sto xs = some l) :
    ∃ (p : Addr) (ks : List (Addr × List Int)), vs = [.ref p] ∧ (SqL K H p (ks.map fun p => V.ref p.1) ∨ SqT K H p (ks.map fun p => V.ref p.1)) ∧ ks.map (·.2) = l ∧ (∀ p ∈ ks, SqT K H p.1 (p.2.map V.int)) ∧ ks.length < 64 ∧ l.Nodup := by
  unfold tupsB at h
  split at h
  · obtain ⟨v, rfl, rv⟩ := one_of r
    have go : ∀ {ds : List Dat} {ws : List V}, RpL (hf ex μ H) ws ds → (if ds.length < 64 then (tupsD ds).bind fun l => if l.Nodup then some l else none else none) = some l →
        ∃ ks : List (Addr × List Int), ws = (ks.map fun p => V.ref p.1) ∧ ks.map (·.2) = l ∧ (∀ p ∈ ks, SqT K H p.1 (p.2.map V.int)) ∧ ks.length < 64 ∧ l.Nodup := fun {ds ws} rr h => by
      split at h
      · rename_i hl
        obtain ⟨l2, e, h⟩ := Option.bind_eq_some_iff.mp h
        split at h
        · rename_i nd
          cases h
          obtain ⟨ks, h1, h2, h3⟩ := tups_v (K := K) rr e
          refine ⟨ks, h1, h2, h3, ?_, nd⟩
          have e1 := rr.length
          rw [h1, List.length_map] at e1
          omega
        · cases h
      · cases h
    split at h
    · rename_i ds e
      obtain ⟨p, ws, rfl, hp, l, rr⟩ := view_items S rv e
      obtain ⟨ks, rfl, h2, h3, h4, h5⟩ := go rr h
      exact ⟨p, ks, rfl, .inl (SqL.of hp), h2, h3, h4, h5⟩
    · rename_i ds e
      obtain ⟨p, ws, rfl, hp, l, rr⟩ := view_tup S rv e
      obtain ⟨ks, rfl, h2, h3, h4, h5⟩ := go rr h
      exact ⟨p, ks, rfl, .inr (SqT.of hp), h2, h3, h4, h5⟩
    · cases h
  · cases h
section
variable {X : Cx} {EQ : EK} {σ : L2.St} {H : Hp} {a : Expr} {m : DA} {p p2 q pos : Pos}
theorem pe_lenSetT (hc : X.calm = true) (hu : X.A.units + 65 < cLine) (hg : Gl X "len") (hm : X.mg "len" = none) (hg2 : Gl X "set") (hm2 : X.mg "set" = none) (ha : PA X [a] (Ta X.K EQ m))
    (na : starEach [a] X.env = (false, eval a X.env) :: starEach [] X.env := by rfl) (nb : starEach [.Call (.Name "set" p2) [a] [] q] X.env = (false, eval (.Call (.Name "set" p2) [a] [] q) X.env) :: starEach [] X.env := by rfl) (h1 : (backTo q (starEach [] X.env)).any (·.1) = false := by rfl) (h2 : (backTo pos (starEach [] X.env)).any (·.1) = false := by rfl) :
    PE X (.Call (.Name "len" p) [.Call (.Name "set" p2) [a] [] q] [] pos) (T X.K EQ (eLenSetT m)) := by
  have i1 := pe_callTy (x := "set") (p := p2) (pos := q) (cr_setTT hc hu) hg2 hm2 (by decide +kernel) ha (by decide) (by decide) na h1
  have i2 := pe_callB (x := "len") (p := p) (pos := pos) cr_lenTT hg hm (by decide +kernel) (pa_cons i1 pa_nil nb) (by decide) (by decide) nb h2
  refine i2.weak fun σ H Q => ?_
  rintro ⟨ex, μ, env, sto, S, V, h⟩
  refine Ta.then S V h fun xs s1 vs μ1 H1 F1 S1 V1 r1 hh => ?_
  obtain ⟨d, e, qq⟩ := wp_liftD hh
  have e' : (tupsB s1 xs).map (fun l => PyData.int (l.length : Nat)) = some d := e
  cases ei : tupsB s1 xs with
  | none => rw [ei] at e'; cases e'
  | some l =>
    rw [ei] at e'
    cases e'
    obtain ⟨pp, ks, rfl, hs, hl, hk, h64, nd⟩ := tupsB_ok S1 r1 ei
    refine ⟨pp, ks, rfl, hs, hk, h64, fun b L hb ndL hsub hall => ?_⟩
    have Ly := S1.laid (o := SetTO X.prog X.w b L) hb
    have hlen : L.length = l.length := by
      have pm : (L.map (·.2)).Perm l := (List.perm_ext_iff_of_nodup ndL nd).mpr fun k => by
        rw [← hl]
        constructor
        · intro z
          obtain ⟨p, hp, rfl⟩ := List.mem_map.mp z
          exact List.mem_map.mpr ⟨p, hsub p hp, rfl⟩
        · intro z
          obtain ⟨p, hp, rfl⟩ := List.mem_map.mp z
          exact hall p hp
      have := pm.length_eq
      rw [List.length_map] at this
      exact this
    refine ⟨b, L, rfl, upd_same, fun p hp => sqT_new (hk p (hsub p hp)) hb, ?_⟩
    rw [hlen]
    exact qq _ _ _ (F1.trans Ly.2) Ly.1 (.int _)
end
@[simp] theorem u_eLenSetT (m : DA) (env : Env) (s : Sto) : eLenSetT m env s = (m env s).bind fun xs s1 => liftD ((tupsB s1 xs).map fun l => .int (l.length : Nat)) s1 := rfl
end Mx

set_option maxHeartbeats 4000000
/-! ### d.get(k, v), d a dict by data -/
namespace Mx
open PySem PySem.Spec PyProof.Rows L2
section
variable {X : Cx}
def rGetD : V → List V → Hp → VK → Prop := fun x xs H Q => ∃ (a : Addr) (es : List DictEntry) (ep : Nat) (kvs : List (Dat × Dat)) (k : Dat) (y z : V) (Hf : Hp), x = .ref a ∧ xs = [y, z] ∧ Sub Hf H ∧ H a = some (DO a es ep) ∧ DOk kvs ∧ RpE Hf es kvs ∧ tkD k = true ∧ Rp H y k ∧
  (∀ d v, valN kvs k = some d → Rp Hf v d → Q v H) ∧ (valN kvs k = none → Q z H)
theorem mt_getD (hu : X.A.units + 65 < cLine) : MtR X "dict.get" rGetD := by
  intro pins s σ H x xs v us Q I rx rxs h
  obtain ⟨a, es, ep, kvs, k, y, z, Hf, rfl, rfl, sb, ha, ko, r, hk, rk, q1, q2⟩ := h
  cases rx
  obtain ⟨u1, u2, rfl, r1, r2⟩ := Vals.two rxs
  obtain ⟨hs, xs, dd, er, _⟩ := do_of I.hok sb ha ko r
  obtain ⟨b, rfl, ki⟩ := key_is I.hok rk hk
  cases (show u1 = Value.ref b from r1)
  refine call_meetsIn PySem.F.slot_dict_get dd.typeIs PySem.F.entry_dict_get (PySem.F.args_dict_get_3 _ _ _) (meetsH_dict_get_default _ a b hs u2) ⟨by show X.A.units + 1 + 8 < cLine; omega, nkD k, xs, ki, dd, ?_⟩
  rcases ents_find er k with ⟨e1, e2⟩ | ⟨d', b', u', v, e1, e2, e3, e4⟩
  · rw [e2]
    exact ⟨z, H, I.tok _, r2, q2 e1⟩
  · rw [e2]
    exact ⟨v, H, I.tok _, e3, q1 _ _ e1 e4⟩
end
/-- the dict, what stands behind it, the default -/
def eGetD (o : DE) (m : DA) : DE := fun env s => (o env s).bind fun x s1 => if (dctOf s1 x).isSome = true then (m env s1).bind fun xs s2 => match xs with
    | [.dat k, .dat d] => match dctOf s2 x with
      | some kvs => if tkD k = true then .ok (.dat ((valN kvs k).getD d)) s2 else .fail
      | none => .fail
    | _ => .fail
  else .fail
section
variable {X : Cx} {EQ : EK} {σ : L2.St} {H : Hp} {o e : Expr} {es : List Expr} {to : TE} {t : TA} {mo : DE} {m : DA} {apos cpos : Pos}
theorem pe_get0 (hu : X.A.units + 65 < cLine) (ho : PE X o to) (ha : PA X (e :: es) t) (hbase : attributeBase o "get" X.env (eval o X.env) = eval o X.env := by rfl)
    (hfew : ((backTo cpos (starEach (e :: es) X.env)).all (fun x => !x.1) && (backToKw cpos (keywordEach [] X.env)).all (fun x => x.1.isSome) && decide ((e :: es).length + ([] : List Keyword).length + (if ([] : List Keyword).isEmpty then 0 else 1) < 30)) = true := by rfl)
    (hline : (apos.endLine == cpos.line) = true := by rfl) (hn : starEach (e :: es) X.env = (false, eval e X.env) :: starEach es X.env := by rfl) (hpl : (backTo cpos (starEach es X.env)).any (·.1) = false := by rfl) :
    PE X (.Call (.Attribute o "get" apos) (e :: es) [] cpos) (fun σ H Q => to σ H fun x H1 => (∃ a es ep, x = .ref a ∧ H1 a = some (DO a es ep)) ∧ t σ H1 fun vs H2 => rGetD x vs H2 Q) := by
  refine ⟨fun pins s σ H Q I h => ?_⟩
  refine wpAny_Call_method_late hbase hfew hline rfl (thn (ho.run pins s σ H _ I h) fun v s1 ⟨x, H1, I1, r1, ⟨a, es', ep, ex, hd⟩, q1⟩ => ?_)
  subst ex
  cases r1
  obtain ⟨_, raw⟩ := do_raw I1 hd
  have h2 : ∀ b, Value.ref a = .ref b → ∃ ob, s1.heap.get? b = some ob ∧ ob.dict = none := fun b eb => by
    cases eb
    obtain ⟨ob, q1, q2, _⟩ := raw
    exact ⟨ob, q1, q2.2.1⟩
  refine ⟨"dict", "dict.get", PySem.F.plainAttrs_dict, PySem.F.slot_dict_get, PySem.F.type_dict_get, raw.typeIs, h2, ?_⟩
  have hA := ha.run cpos pins s1 σ H1 _ I1 q1
  rw [hn] at hA ⊢
  refine Calls.callWith_builtin (by show (false || (backTo cpos (starEach es X.env)).any (·.1)) = false; rw [hpl] <;> rfl) (Calls.evalArgs_plain ?_)
  exact thn hA fun us s2 ⟨vs, H2, I2, r2, q2⟩ => mt_getD hu pins s2 σ H2 (.ref a) vs _ us Q I2 rfl r2 q2
theorem pe_getD (hu : X.A.units + 65 < cLine) (ho : PE X o (T X.K EQ mo)) (ha : PA X (e :: es) (Ta X.K EQ m)) (hbase : attributeBase o "get" X.env (eval o X.env) = eval o X.env := by rfl)
    (hfew : ((backTo cpos (starEach (e :: es) X.env)).all (fun x => !x.1) && (backToKw cpos (keywordEach [] X.env)).all (fun x => x.1.isSome) && decide ((e :: es).length + ([] : List Keyword).length + (if ([] : List Keyword).isEmpty then 0 else 1) < 30)) = true := by rfl)
    (hline : (apos.endLine == cpos.line) = true := by rfl) (hn : starEach (e :: es) X.env = (false, eval e X.env) :: starEach es X.env := by rfl) (hpl : (backTo cpos (starEach es X.env)).any (·.1) = false := by rfl) :
    PE X (.Call (.Attribute o "get" apos) (e :: es) [] cpos) (T X.K EQ (eGetD mo m)) := by
  refine PE.weak (pe_get0 hu ho ha hbase hfew hline hn hpl) fun σ H Q => ?_
  rintro ⟨ex, μ, env, sto, S, V, h⟩
  refine T.then S V h fun x s1 v μ1 H1 F1 S1 V1 r1 h1 => ?_
  split at h1
  · rename_i hl
    obtain ⟨kv0, hk0⟩ := Option.isSome_iff_exists.mp hl
    obtain ⟨a, es', ep, rfl, hd, _⟩ := dctOf_rp S1 r1 hk0
    refine ⟨⟨a, es', ep, rfl, hd⟩, ?_⟩
    refine Ta.then S1 V1 h1 fun xs s2 vs μ2 H2 F2 S2 V2 r2 h2 => ?_
    split at h2
    · rename_i k d
      split at h2
      · rename_i kvs hk
        split at h2
        · rename_i ht
          obtain ⟨a2, es2, ep2, e2, hd2, l2, ko, rr⟩ := dctOf_rp S2 (r1.fwd F2) hk
          cases e2
          cases r2 with
          | cons ra rest =>
            cases rest with
            | cons rb nil =>
              cases nil
              refine ⟨a, es2, ep2, kvs, k, _, _, hf ex μ2 H2, rfl, rfl, off_sub _ _, hd2, ko, rr, ht, Rp.mono (off_sub _ _) ra, fun d' w e1 rw' => ?_, fun e1 => ?_⟩
              · rw [e1] at h2
                exact h2 w μ2 H2 (F1.trans F2) S2 rw'
              · rw [e1] at h2
                exact h2 _ μ2 H2 (F1.trans F2) S2 rb
        · exact h2.elim
      · exact h2.elim
    · exact h2.elim
  · exact h1.elim
end
@[simp] theorem u_eGetD (o : DE) (m : DA) (env : Env) (s : Sto) : eGetD o m env s = (o env s).bind fun x s1 => if (dctOf s1 x).isSome = true then (m env s1).bind fun xs s2 => match xs with
    | [.dat k, .dat d] => match dctOf s2 x with
      | some kvs => if tkD k = true then .ok (.dat ((valN kvs k).getD d)) s2 else .fail
      | none => .fail
    | _ => .fail
  else .fail := rfl
end Mx

set_option maxHeartbeats 4000000
/-! ### walks of reversed(xs), xs a list or a tuple as data -/
namespace Mx
open PySem PySem.Spec PyProof.Rows L2 RT
theorem rev_get {K : PySem.W.Frag} {Hf : Hp} {vs : List V} {ds : List Dat} (r : RpL Hf vs ds) {i : Nat} {d : Dat} (hd : ds.reverse[i]? = some d) : i < vs.length ∧ ∃ v, vs[vs.length - 1 - i]? = some v ∧ Rp Hf v d := by
  have hi : i < ds.length := by
    have := (List.getElem?_eq_some_iff.mp hd).1
    rw [List.length_reverse] at this
    exact this
  rw [List.getElem?_reverse hi] at hd
  obtain ⟨v, h1, h2⟩ := r.get hd
  exact ⟨by rw [r.length]; exact hi, v, by rw [r.length]; exact h1, h2⟩
theorem src_rev {K : PySem.W.Frag} {Hf : Hp} {a : Addr} {vs : List V} {ds : List Dat} (h : Hf a = some (.lst vs)) (l : vs.length ≤ sizeLine) (r : RpL Hf vs ds) : Src (Itv K a vs.length) Hf ds.reverse := by
  refine ⟨by rw [List.length_reverse, ← r.length]; exact l, fun i H hi s => ?_, fun H s => by show vs.length ≤ _; rw [List.length_reverse, r.length]; exact Nat.le_refl _, fun i H x H' d hd s y => ?_⟩
  · rw [List.length_reverse, ← r.length] at hi
    have hj : vs.length - 1 - i < vs.length := by omega
    exact ⟨hi, vs, vs[vs.length - 1 - i], SqL.of (s _ _ h), List.getElem?_eq_getElem hj⟩
  · obtain ⟨e, q⟩ := y
    obtain ⟨_, v, hv, rv⟩ := rev_get (K := K) r hd
    have := q vs (SqL.of (s _ _ h))
    rw [hv] at this
    cases this
    exact .inl ⟨e, rv⟩
theorem src_revT {K : PySem.W.Frag} {Hf : Hp} {a : Addr} {vs : List V} {ds : List Dat} (h : Hf a = some (.tup vs)) (l : vs.length ≤ sizeLine) (r : RpL Hf vs ds) : Src (ItvT K a vs.length) Hf ds.reverse := by
  refine ⟨by rw [List.length_reverse, ← r.length]; exact l, fun i H hi s => ?_, fun H s => by show vs.length ≤ _; rw [List.length_reverse, r.length]; exact Nat.le_refl _, fun i H x H' d hd s y => ?_⟩
  · rw [List.length_reverse, ← r.length] at hi
    have hj : vs.length - 1 - i < vs.length := by omega
    exact ⟨hi, vs, vs[vs.length - 1 - i], SqT.of (s _ _ h), List.getElem?_eq_getElem hj⟩
  · obtain ⟨e, q⟩ := y
    obtain ⟨_, v, hv, rv⟩ := rev_get (K := K) r hd
    have := q vs (SqT.of (s _ _ h))
    rw [hv] at this
    cases this
    exact .inl ⟨e, rv⟩
def dRev (m : DE) : DI := fun env s => (m env s).bind fun x s1 => match x with
  | .dat (.list ds) => .ok ds.reverse s1
  | .dat (.tuple ds) => .ok ds.reverse s1
  | _ => .fail
theorem pi_rv {X : Cx} {EQ : EK} {tg e : Expr} {p pos : Pos} {m : DE} (hg : Gl X "reversed") (hm : X.mg "reversed" = none) (h : PE X e (T X.K EQ m)) (hs : starEach [e] X.env = (false, eval e X.env) :: starEach [] X.env := by rfl) :
    PI X tg (.Call (.Name "reversed" p) [e] [] pos) (Ti X.K EQ (dRev m)) := PI.weak (pi_revA hg hm h hs) fun σ H Rr => by
  rintro ⟨ex, μ, env, sto, S, V, h⟩
  refine T.then S V h fun x s1 v μ1 H1 F1 S1 V1 r h1 => ?_
  split at h1
  · obtain ⟨a, vs, rfl, ha, l, rr⟩ := Rp.list_inv r
    exact ⟨a, vs, rfl, .inl ⟨SqL.of (off_some ha).2, h1 _ μ1 H1 F1 S1 (src_rev ha l rr)⟩⟩
  · obtain ⟨a, vs, rfl, ha, l, rr⟩ := Rp.tup_inv r
    exact ⟨a, vs, rfl, .inr ⟨SqT.of (off_some ha).2, h1 _ μ1 H1 F1 S1 (src_revT ha l rr)⟩⟩
  · exact h1.elim
@[simp] theorem u_dRev (m : DE) (env : Env) (s : Sto) : dRev m env s = (m env s).bind fun x s1 => match x with
  | .dat (.list ds) => .ok ds.reverse s1
  | .dat (.tuple ds) => .ok ds.reverse s1
  | _ => .fail := rfl
end Mx

set_option maxHeartbeats 4000000
/-! ### sorted(set(xs)), xs a list or a tuple of fewer than 64 pairs of ints in [0, 64) -/
namespace Mx
open PySem PySem.Spec PyProof.Rows L2
def deP (k : Int) : List Int := [k / 64, k % 64]
def okP (x : List Int) : Bool := match x with
  | [a, b] => decide (0 ≤ a ∧ a < 64 ∧ 0 ≤ b ∧ b < 64)
  | _ => false
theorem okP_de {x : List Int} (h : okP x = true) : x.length = 2 ∧ TS.Bd 64 x ∧ deP (TS.code 64 x) = x := by
  unfold okP at h
  split at h
  · rename_i a b
    obtain ⟨h1, h2, h3, h4⟩ := of_decide_eq_true h
    refine ⟨rfl, ?_, ?_⟩
    · intro y hy
      rcases List.mem_cons.mp hy with rfl | hy
      · exact ⟨h1, h2⟩
      · rw [List.mem_singleton.mp hy]
        exact ⟨h3, h4⟩
    · rw [code_pair]
      unfold deP
      have e1 : (a * 64 + b) / 64 = a := by omega
      have e2 : (a * 64 + b) % 64 = b := by omega
      rw [e1, e2]
  · cases h
def tupI (x : List Int) : Dat := .tuple (x.map .int)
def pairsB (sto : Sto) (xs : List EV) : Option (List (List Int)) := match xs with
  | [x] => match view sto x with
    | some (.list ds) => if ds.length < 64 then (tupsD ds).bind fun l => if l.all okP then some l else none else none
    | some (.tuple ds) => if ds.length < 64 then (tupsD ds).bind fun l => if l.all okP then some l else none else none
    | _ => none
  | _ => none
def sortP (l : List (List Int)) : List (List Int) := (sortU (l.map (TS.code 64))).map deP
def fSortSetP (m : DA) : DF := fB (fun sto xs => (pairsB sto xs).map fun l => (sortP l).map tupI) m
theorem tups_w {ls : List Addr} {H : Hp} : ∀ {vs : List V} {ds : List Dat} {l : List (List Int)}, RpL (off ls H) vs ds → tupsD ds = some l → ∃ ks : List (Addr × List Int), vs = (ks.map fun p => V.ref p.1) ∧ ks.map (·.2) = l ∧ ∀ p ∈ ks, off ls H p.1 = some (.tup (p.2.map V.int))
  | _, [], _, r, h => by
    cases r
    cases h
    exact ⟨[], rfl, rfl, fun p hp => absurd hp List.not_mem_nil⟩
  | _, d :: ds, l, r, h => by
    cases r with
    | cons r t =>
    cases d with
    | tuple xs =>
      unfold tupsD at h
      cases e1 : intsD xs with
      | none => rw [e1] at h; cases h
      | some a =>
        cases e2 : tupsD ds with
        | none => rw [e1, e2] at h; cases h
        | some b =>
          rw [e1, e2] at h
          cases h
          obtain ⟨ks, h1, h2, h3⟩ := tups_w t e2
          obtain ⟨p, ws, rfl, hp, _, rr⟩ := Rp.tup_inv r
          have := ints_v rr e1
          subst this
          refine ⟨(p, a) :: ks, by rw [h1]; rfl, by rw [List.map_cons, h2], fun q hq => ?_⟩
          rcases List.mem_cons.mp hq with rfl | hq
          · exact hp
          · exact h3 q hq
    | _ => cases h
theorem pairsB_ok {K : PySem.W.Frag} {ex : List Addr} {μ : Mu} {H : Hp} {sto : Sto} {xs : List EV} {vs : List V} {l : List (List Int)} (S : StoR K ex μ H sto) (r : Paired (EvR (hf ex μ H) μ) vs xs) (h : pairsB sto xs = some l) :
    ∃ (p : Addr) (ks : List (Addr × List Int)), vs = [.ref p] ∧ (SqL K H p (ks.map fun p => V.ref p.1) ∨ SqT K H p (ks.map fun p => V.ref p.1)) ∧ ks.map (·.2) = l ∧ (∀ p ∈ ks, hf ex μ H p.1 = some (.tup (p.2.map V.int))) ∧ ks.length < 64 ∧ l.all okP = true := by
  unfold pairsB at h
  split at h
  · obtain ⟨v, rfl, rv⟩ := one_of r
    have go : ∀ {ds : List Dat} {ws : List V}, RpL (hf ex μ H) ws ds → (if ds.length < 64 then (tupsD ds).bind fun l => if l.all okP then some l else none else none) = some l →
        ∃ ks : List (Addr × List Int), ws = (ks.map fun p => V.ref p.1) ∧ ks.map (·.2) = l ∧ (∀ p ∈ ks, hf ex μ H p.1 = some (.tup (p.2.map V.int))) ∧ ks.length < 64 ∧ l.all okP = true := fun {ds ws} rr h => by
      split at h
      · rename_i hl
        obtain ⟨l2, e, h⟩ := Option.bind_eq_some_iff.mp h
        split at h
        · rename_i nd
          cases h
          obtain ⟨ks, h1, h2, h3⟩ := tups_w rr e
          refine ⟨ks, h1, h2, h3, ?_, nd⟩
          have e1 := rr.length
          rw [h1, List.length_map] at e1
          omega
        · cases h
      · cases h
    split at h
    · rename_i ds e
      obtain ⟨p, ws, rfl, hp, l, rr⟩ := view_items S rv e
      obtain ⟨ks, rfl, h2, h3, h4, h5⟩ := go rr h
      exact ⟨p, ks, rfl, .inl (SqL.of hp), h2, h3, h4, h5⟩
    · rename_i ds e
      obtain ⟨p, ws, rfl, hp, l, rr⟩ := view_tup S rv e
      obtain ⟨ks, rfl, h2, h3, h4, h5⟩ := go rr h
      exact ⟨p, ks, rfl, .inr (SqT.of hp), h2, h3, h4, h5⟩
    · cases h
  · cases h
/-- what sorted leaves is sortP -/
theorem sorted_is {l : List (List Int)} {L' : List (List Int)} (ok : ∀ x ∈ l, okP x = true) (sub : ∀ x ∈ L', x ∈ l) (sup : ∀ x ∈ l, x ∈ L') (nd : L'.Nodup) (pw : L'.Pairwise fun x y => TS.code 64 x ≤ TS.code 64 y) : L' = sortP l := by
  have hd : ∀ x ∈ L', deP (TS.code 64 x) = x := fun x hx => (okP_de (ok x (sub x hx))).2.2
  have e : L'.map (TS.code 64) = sortU (l.map (TS.code 64)) := by
    refine strict_uniq ?_ (sortU_sorted _) fun k => ?_
    · refine List.pairwise_map.mpr ((List.Pairwise.and pw nd).imp_of_mem fun {x y} hx hy h => ?_)
      have hne : TS.code 64 x ≠ TS.code 64 y := fun z => h.2 (by rw [← hd x hx, z, hd y hy])
      have := h.1
      omega
    · rw [sortU_mem, List.mem_map, List.mem_map]
      constructor
      · rintro ⟨x, hx, rfl⟩
        exact ⟨x, sub x hx, rfl⟩
      · rintro ⟨x, hx, rfl⟩
        exact ⟨x, sup x hx, rfl⟩
  unfold sortP
  rw [← e, List.map_map]
  have : L'.map (deP ∘ TS.code 64) = L'.map id := List.map_congr_left fun x hx => hd x hx
  rw [this, List.map_id]
section
variable {X : Cx} {EQ : EK} {σ : L2.St} {H : Hp} {a : Expr} {m : DA} {p p2 q pos : Pos}
theorem rpl_ks {Hf : Hp} : ∀ {L : List (Addr × List Int)}, (∀ p ∈ L, Hf p.1 = some (.tup (p.2.map V.int)) ∧ p.2.length ≤ 100) → RpL Hf (L.map fun p => V.ref p.1) ((L.map (·.2)).map tupI)
  | [], _ => .nil
  | p :: L, h => .cons (.tup (h p List.mem_cons_self).1 (by
      have := (h p List.mem_cons_self).2
      have : 1000 ≤ sizeLine := by decide
      rw [List.length_map]
      omega) (RpL.ints _)) (rpl_ks fun q hq => h q (List.mem_cons_of_mem _ hq))
theorem pf_sortSetP (hc : X.calm = true) (hu : X.A.units + 65 < cLine) (hg : Gl X "sorted") (hm : X.mg "sorted" = none) (hg2 : Gl X "set") (hm2 : X.mg "set" = none) (ha : PA X [a] (Ta X.K EQ m))
    (na : starEach [a] X.env = (false, eval a X.env) :: starEach [] X.env := by rfl) (nb : starEach [.Call (.Name "set" p2) [a] [] q] X.env = (false, eval (.Call (.Name "set" p2) [a] [] q) X.env) :: starEach [] X.env := by rfl) (h1 : (backTo q (starEach [] X.env)).any (·.1) = false := by rfl) (h2 : (backTo pos (starEach [] X.env)).any (·.1) = false := by rfl) :
    PE X (.Call (.Name "sorted" p) [.Call (.Name "set" p2) [a] [] q] [] pos) (Tf X.K EQ (fSortSetP m)) := by
  have i1 := pe_callTy (x := "set") (p := p2) (pos := q) (cr_setTT hc hu) hg2 hm2 (by decide +kernel) ha (by decide) (by decide) na h1
  have i2 := pe_callB (x := "sorted") (p := p) (pos := pos) (L2.cr_sortedT hc) hg hm (by decide +kernel) (pa_cons i1 pa_nil nb) (by decide) (by decide) nb h2
  refine i2.weak fun σ H Q => ?_
  rintro ⟨ex, μ, env, sto, S, V, h⟩
  refine Ta.then S V h fun xs s1 vs μ1 H1 F1 S1 V1 r1 hh => ?_
  obtain ⟨ds, e, qq⟩ := R.wp_ofOpt hh
  have e' : (pairsB s1 xs).map (fun l => (sortP l).map tupI) = some ds := e
  cases ei : pairsB s1 xs with
  | none => rw [ei] at e'; cases e'
  | some l =>
    rw [ei] at e'
    cases e'
    obtain ⟨pp, ks, rfl, hs, hl, hk, h64, ok⟩ := pairsB_ok S1 r1 ei
    have hok : ∀ x ∈ l, okP x = true := fun x hx => List.all_eq_true.mp ok x hx
    have hkT : ∀ p ∈ ks, SqT X.K H1 p.1 (p.2.map L2.V.int) := fun p hp => SqT.of (off_some (hk p hp)).2
    have hk2 : ∀ p ∈ ks, okP p.2 = true := fun p hp => hok p.2 (by rw [← hl]; exact List.mem_map.mpr ⟨p, hp, rfl⟩)
    refine ⟨pp, ks, rfl, hs, hkT, h64, fun b L hb ndL hsub hall => ?_⟩
    have Ly := S1.laid (o := SetTO X.prog X.w b L) hb
    refine ⟨b, L, 2, 64, rfl, upd_same, fun p hp => sqT_new (hkT p (hsub p hp)) hb, by decide, fun p hp => ⟨(okP_de (hk2 p (hsub p hp))).1, (okP_de (hk2 p (hsub p hp))).2.1⟩, fun L' r pm nd' h64' pw hr => ?_⟩
    have eL : L'.map (·.2) = sortP l := sorted_is hok (fun x hx => by
        obtain ⟨p, hp, rfl⟩ := List.mem_map.mp hx
        rw [← hl]
        exact List.mem_map.mpr ⟨p, hsub p (pm.mem_iff.mp hp), rfl⟩) (fun x hx => by
        rw [← hl] at hx
        obtain ⟨p, hp, rfl⟩ := List.mem_map.mp hx
        obtain ⟨q, hq, e⟩ := List.mem_map.mp (hall p hp)
        exact List.mem_map.mpr ⟨q, pm.mem_iff.mpr hq, e⟩) nd' (List.pairwise_map.mpr pw)
    have rr : RpL (hf ex μ1 (upd H1 b (SetTO X.prog X.w b L))) (L'.map fun q => L2.V.ref q.1) ((sortP l).map tupI) := by
      rw [← eL]
      refine rpl_ks fun p hp => ?_
      have hp2 := hsub p (pm.mem_iff.mp hp)
      exact ⟨Ly.2.fwd.sub _ _ (hk p hp2), by rw [(okP_de (hk2 p hp2)).1]; decide⟩
    refine fresh_lst (F1.trans Ly.2) Ly.1 rr ?_ qq r hr
    rw [List.length_map, sizeLine_eq]
    omega
end
@[simp] theorem u_fSortSetP (m : DA) (env : Env) (s : Sto) : fSortSetP m env s = (m env s).bind fun xs s1 => R.ofOpt ((pairsB s1 xs).map fun l => (sortP l).map tupI) s1 := rfl
end Mx

set_option maxHeartbeats 4000000
/-! ### sorted over tuples of ints of which some may be () -/
namespace PySem.W
open PySem PySem.SeqAt PySem.Calls PyProof.Rows
section
variable {prog : Program} {w : World} {A : Around} {E : Value → Shared → Prop} {s : Shared}
theorem tupLt_call {Q : Value → Shared → Prop} {l b : Addr} {items items2 : Array Value} {e r : Nat → Bool} (hl : s.heap.IsTuple l items) (hb : s.heap.IsTuple b items2)
    (he : ∀ j (h1 : j < items.size) (h2 : j < items2.size), EqAt A.in1 s items[j] items2[j] (e j)) (hr : ∀ j (h1 : j < items.size) (h2 : j < items2.size), e j = false → RcLt A.in1 s items[j] items2[j] (r j))
    (h : Q (.bool (firstLt e r (decide (items.size < items2.size)) (List.range (min items.size items2.size)))) s) : wpAny (model prog w) A (call (.builtin "tuple.__lt__") [.ref l, .ref b]) Q E s := by
  obtain ⟨⟨cls, dd, data, sl⟩, ho, hc, n, hd⟩ := id hl
  obtain ⟨⟨cls2, dd2, data2, sl2⟩, ho2, hc2, n2, hd2⟩ := id hb
  simp only at hc hd hc2 hd2
  subst hc hd hc2 hd2
  exact call_meets F.slot_tuple_lt ⟨_, ho, rfl⟩ F.entry_tuple_lt (F.args_tuple_lt_2 _ _) (tuple_ltAt l b items items2 n n2 dd dd2 sl sl2 e r) ⟨ho, ho2, he, hr, h⟩
theorem oneLt_tup {xs ys : List PyData} {a b : Value} {as bs : List Addr} {Q : Bool → Shared → Prop} (ra : Reads s.heap a (.tuple xs) as) (rb : Reads s.heap b (.tuple ys) bs) (h : alike (.tuple xs) (.tuple ys) = true)
    (hu : A.units + min (PyData.tuple xs).depth (PyData.tuple ys).depth < cLine) (hq : Q (dataLt (.tuple xs) (.tuple ys)) s) : wpAny (model prog w) A (oneLt' true a b) Q E s := by
  have hal : alikeAll xs ys = true := by simpa [alike] using h
  cases ra with
  | @tuple l o vs n _ as₁ h1 h2 h3 h4 =>
    cases rb with
    | @tuple l' o' vs' n' _ bs₁ k1 k2 k3 k4 =>
      have n1 : vs.size = xs.length := by simpa using SeqAt.ReadsAll.length _ _ _ h4
      have n2 : vs'.size = ys.length := by simpa using SeqAt.ReadsAll.length _ _ _ k4
      rw [dataLt_tuple, ← firstLt_toks xs ys hal, ← n1, ← n2] at hq
      rw [oneLt'_eq]
      simp only [if_true]
      refine wpAny_bind (wpAny_cRoomFor (SeqAt.room_here hu) ?_)
      refine wpAny_bind (wpAny_callSpecialIfBound?_slot (T := "tuple") ⟨_, h1, h2⟩ F.slot_tuple_lt (tupLt_call (e := pairEq xs ys) (r := fun j => dataLt (xs.getD j .none) (ys.getD j .none)) ⟨_, h1, h2, _, h3⟩ ⟨_, k1, k2, _, k3⟩ (fun j j1 j2 => ?_) (fun j j1 j2 hj => ?_) ?_))
      · have := eqAt_alikeAll xs ys A.in1 s vs.toList vs'.toList _ _ h4 k4 hal (SeqAt.room_in hu) j (by simpa using j1) (by simpa using j2)
        simpa using this
      · have := rcLt_alikeAll xs ys A.in1 s vs.toList vs'.toList _ _ h4 k4 hal (SeqAt.room_in hu) j (by simpa using j1) (by simpa using j2) hj
        simpa using this
      · exact wpAny_truthy_bool hq
def neTp : PyData → Bool
  | .tuple [] => false
  | _ => true
theorem firsts_tups {M : Model} : ∀ {vs : List Value} {ds : List PyData}, EachIs (fun v d => ∃ as, Reads s.heap v d as) vs ds → (∀ d ∈ ds, ∃ xs, d = .tuple xs) → ∀ {Q : List (Option Value) → Shared → Prop}, (∀ fs : List (Option Value), fs.map (·.isSome) = ds.map neTp → Q fs s) → wpAny M A (vs.mapM firstOfTuple') Q E s
  | _, _, .nil, _, Q, h => by
    rw [List.mapM_nil]
    exact wpAny_pure (h [] rfl)
  | _, _, .cons (b := d) ⟨as, r⟩ t, ht, Q, h => by
    obtain ⟨xs, rfl⟩ := ht d (List.mem_cons_self ..)
    rw [List.mapM_cons]
    refine wpAny_bind ?_
    cases r with
    | @tuple a o its n _ _ ho hc hd hr =>
      rw [kas_first_eq]
      refine wpAny_bind (Looks.here (show Looks M s.heap (typeOf (.ref a)) o.cls from (Looks.ld ho).andThen .now) ?_)
      rw [hc, if_neg (by first | decide | simp)]
      refine wpAny_bind (listItems_at ho hd (wpAny_pure ?_))
      refine wpAny_bind (firsts_tups t (fun d hd => ht d (List.mem_cons_of_mem _ hd)) fun fs hf => wpAny_pure (h _ ?_))
      rw [List.map_cons, List.map_cons, hf]
      congr 1
      cases xs with
      | nil =>
        have hl := SeqAt.ReadsAll.length _ _ _ hr
        have : its.size = 0 := by simpa using hl
        rw [show its[0]? = none by simp [this]]
        rfl
      | cons x r =>
        have hl := SeqAt.ReadsAll.length _ _ _ hr
        have : its.size = r.length + 1 := by simpa using hl
        rw [show its[0]? = some its[0] from by simp [this]]
        rfl
theorem SortsAt.tups {vs : List Value} {ds : List PyData} (e : EachIs (fun v d => ∃ as, Reads s.heap v d as) vs ds) (hal : AllAlike ds) (ht : ∀ d ∈ ds, ∃ xs, d = .tuple xs) (hu : ∀ d, d ∈ ds → A.units + d.depth < cLine) : SortsAt prog w A s (dataKind s.heap ds) vs := by
  by_cases hne : ∀ d ∈ ds, neTp d = true
  · refine SortsAt.data e hal (.inl fun d hd => ?_) hu
    obtain ⟨xs, rfl⟩ := ht d hd
    have := hne _ hd
    cases xs with
    | nil => cases this
    | cons x r => exact ⟨x, r, rfl⟩
  have room : ∀ {d d' : PyData}, d ∈ ds → A.units + min d.depth d'.depth < cLine := fun {d d'} hd => Nat.lt_of_le_of_lt (Nat.add_le_add_left (Nat.min_le_left _ _) _) (hu d hd)
  refine ⟨fun v hv => ?_, ?_⟩
  · obtain ⟨d, hd, as, r⟩ := e.left v hv
    exact ⟨_, dataKind_some hal hd r⟩
  cases ds with
  | nil => exact absurd (fun d hd => absurd hd (by simp)) hne
  | cons d₀ ds₀ =>
    have hnall : ∀ fs : List (Option Value), fs.map (·.isSome) = (d₀ :: ds₀).map neTp → ¬ (fs.toArray.all fun x => x.isSome) = true := by
      intro fs hf hall
      refine hne fun d hd => ?_
      have h1 : neTp d ∈ fs.map (·.isSome) := by rw [hf]; exact List.mem_map.mpr ⟨d, hd, rfl⟩
      obtain ⟨f, hf1, hf2⟩ := List.mem_map.mp h1
      rw [← hf2]
      simp only [List.all_toArray, List.all_eq_true] at hall
      exact hall f hf1
    have hfirst : ∀ fs : List (Option Value), fs.map (·.isSome) = (d₀ :: ds₀).map neTp → (fs.toArray[0]?.bind id).isSome = neTp d₀ := by
      intro fs hf
      cases fs with
      | nil => cases hf
      | cons f fr =>
        have : f.isSome = neTp d₀ := by
          have := hf
          rw [List.map_cons, List.map_cons] at this
          exact (List.cons.inj this).1
        rw [← this]
        simp
    cases h0 : neTp d₀ with
    | false =>
      refine ⟨oneType', ?_, fun h2 E Q hq => ?_⟩
      · intro E x y a b Q ha hb hq
        obtain ⟨d, as, hd, ra, rfl⟩ := dataKind_inv ha
        obtain ⟨d', as', hd', rb, rfl⟩ := dataKind_inv hb
        rw [keyLt'_oneType]
        have hdd := hal d hd d' hd'
        have hroom := room (d' := d') hd
        obtain ⟨xs, rfl⟩ := ht d hd
        obtain ⟨ys, rfl⟩ := ht d' hd'
        exact oneLt_tup ra rb hdd hroom hq
      · rw [keyKind'_eq, List.mapM_toArray, map_eq_pure_bind]
        refine wpAny_bind (wpAny_bind (firsts_tups e ht fun fs hf => wpAny_pure ?_))
        rw [if_neg (hnall fs hf), if_neg (by rw [hfirst fs hf, h0]; exact Bool.false_ne_true)]
        rw [oneTypeOnly'_eq, List.mapM_toArray, map_eq_pure_bind]
        have hty : ∀ v ∈ vs, Looks (model prog w) s.heap (typeOf v) (Value.type "tuple") := by
          intro v hv
          obtain ⟨d, hd, as, r⟩ := e.left v hv
          obtain ⟨xs, rfl⟩ := ht d hd
          exact looks_reads r
        refine wpAny_bind (wpAny_bind (wpAny_bind (kas_mapM (r := Value.type "tuple") _ (fun v hv Q' hq => (hty v hv).here hq) (wpAny_pure ?_))))
        obtain ⟨v₁, rest, rfl⟩ : ∃ v₁ rest, vs = v₁ :: rest := by
          match vs, h2 with
          | v₁ :: rest, _ => exact ⟨v₁, rest, rfl⟩
        have hall : ((List.map (fun _ => Value.type "tuple") (v₁ :: rest)).toArray.all fun x => x == Value.type "tuple") = true := by
          simp only [List.all_toArray, List.all_map, List.all_eq_true]
          intro _ _
          exact beq_self_eq_true _
        have h0 : (List.map (fun _ => Value.type "tuple") (v₁ :: rest)).toArray[0]? = some (Value.type "tuple") := by simp
        rw [h0]
        simp only [hall, if_true]
        exact wpAny_pure (wpAny_pure hq)
    | true =>
      refine ⟨general', ?_, fun h2 E Q hq => ?_⟩
      · intro E x y a b Q ha hb hq
        obtain ⟨d, as, hd, ra, rfl⟩ := dataKind_inv ha
        obtain ⟨d', as', hd', rb, rfl⟩ := dataKind_inv hb
        have hnn : d ≠ .none := by
          obtain ⟨xs, rfl⟩ := ht d hd
          intro h
          cases h
        show wpAny (model prog w) A (oneLt' false x y) Q E s
        exact oneLt_alike (fun z => nomatch z) ra rb (hal d hd d' hd') hnn (room hd) hq
      · rw [keyKind'_eq, List.mapM_toArray, map_eq_pure_bind]
        refine wpAny_bind (wpAny_bind (firsts_tups e ht fun fs hf => wpAny_pure ?_))
        rw [if_neg (hnall fs hf), if_pos (by rw [hfirst fs hf, h0])]
        exact wpAny_pure hq
end
section
variable {prog : Program} {w : World} {A : Around} {E : Value → Shared → Prop} {s : Shared} {β : Type} {vs : List Value} {bs : List β} {enc : β → PyData} {R : Value → β → Prop}
theorem sorted_tups {l : Addr} {Q : Value → Shared → Prop} (hl : s.heap.IsList l vs.toArray) (e : EachIs R vs bs) (er : EachIs (fun v b => ∃ as, Reads s.heap v (enc b) as) vs bs) (hal : AllAlike (bs.map enc)) (hk : ∀ d ∈ bs.map enc, ∃ xs, d = .tuple xs) (hL : bs.length ≤ sizeLine)
    (hu : ∀ b, b ∈ bs → A.units + 2 + (enc b).depth < cLine) (h : ∀ out, out.length = bs.length → EachIs R out (bs.mergeSort (dataLe false enc)) → Q (.ref (s.heap.objs.size + 1)) { s with heap := sortedAll s.heap vs (List.toArray out) }) :
    wpAny (model prog w) A (call (.builtin "sorted") [.ref l]) Q E s := by
  have er' : EachIs (fun v b => ∃ as, Reads (sortingHeap (copyHeap s.heap vs) (s.heap.objs.size + 1) vs) v (enc b) as) vs bs := er.mono fun _ _ ⟨as, r⟩ => ⟨as, PyProof.Rows.Reads.keeps (fun _ _ => sorting_copy_old) r⟩
  exact sorted_vals hl (SortsAt.tups (s := { s with heap := sortingHeap (copyHeap s.heap vs) (s.heap.objs.size + 1) vs }) (each_map (R := fun v d => ∃ as, Reads (sortingHeap (copyHeap s.heap vs) (s.heap.objs.size + 1) vs) v d as) enc er') hal hk (bound_map hu)) (by rw [e.length]; exact hL)
    (h _ (by rw [sortVals_length false rfl]; exact e.length) (sortVals_data false e er' hal))
end
end PySem.W
namespace Mx
open PySem PySem.Spec PyProof.Rows L2
def flatE : Dat → Bool
  | .tuple xs => xs.all isInt
  | _ => false
def okE (ds : List Dat) : Bool := ds.all flatE
theorem okE_get {ds : List Dat} (h : okE ds = true) : PySem.W.AllAlike ds ∧ (∀ d ∈ ds, ∃ xs, d = .tuple xs) ∧ (∀ d ∈ ds, itD d = true) ∧ ∀ d ∈ ds, d.depth ≤ 60 := by
  unfold okE at h
  rw [List.all_eq_true] at h
  have sh : ∀ d ∈ ds, ∃ xs, d = .tuple xs ∧ xs.all isInt = true := fun d hd => by
    have := h d hd
    cases d with
    | tuple xs => exact ⟨xs, rfl, this⟩
    | _ => simp [flatE] at this
  refine ⟨fun d hd e he => ?_, fun d hd => ?_, fun d hd => ?_, fun d hd => ?_⟩
  · obtain ⟨x, rfl, a⟩ := sh d hd
    obtain ⟨y, rfl, b⟩ := sh e he
    rw [PySem.W.alike]
    exact all_int_alike _ _ a b
  · obtain ⟨x, rfl, a⟩ := sh d hd
    exact ⟨x, rfl⟩
  · obtain ⟨x, rfl, a⟩ := sh d hd
    rw [itD]
    exact (all_int_it _ a).1
  · obtain ⟨x, rfl, a⟩ := sh d hd
    rw [PyData.depth, (all_int_it _ a).2.1]
    omega
theorem sort_isE {β : Type} {bs : List β} {enc : β → Dat} (h : okE (bs.map enc) = true) : (bs.mergeSort (PySem.W.dataLe false enc)).map enc = sortD (bs.map enc) := by
  obtain ⟨a1, a2, a3, a4⟩ := okE_get h
  have p1 : (bs.mergeSort (PySem.W.dataLe false enc)).Perm bs := List.mergeSort_perm _ _
  refine uniq_sorted (r := fun x y => leK x y = true) ((p1.map enc).trans (sortD_perm _).symm) ?_ (sortD_sorted _ a3 a1) fun x hx y hy q1 q2 => ?_
  · have tot := PySem.W.sortLe_total (PyProof.Rows.listOrd PyProof.Rows.itemOrd) false fun b => PySem.W.keyToks (enc b)
    have := List.pairwise_mergeSort (le := PySem.W.dataLe false enc) tot.trans (fun a b => by
      have := tot.total a b
      simp only [Bool.or_eq_true] at this ⊢
      exact this) bs
    rw [List.pairwise_map]
    exact this
  · have hx' := (p1.map enc).mem_iff.mp hx
    have hy' := (p1.map enc).mem_iff.mp hy
    exact leK_anti (a3 x hx') (a1 x hx' y hy') q1 q2
def rSortedTup (K : PySem.W.Frag) : List V → Hp → VK → Prop := fun vs H Q => ∃ (a : Addr) (xs : List V) (ds : List Dat), vs = [V.ref a] ∧ SqL K H a xs ∧ DpAll K H xs ds ∧ okE ds = true ∧
  ∀ (ps : List (V × Dat)) (p : Addr), ps.Perm (xs.zip ds) → ps.map (·.2) = sortD ds → H p = none → Q (.ref p) (upd H p (.lst (ps.map (·.1))))
theorem cr_sortedTup {X : Cx} (hu : X.A.units + 65 < cLine) : CallR X (.builtin "sorted") (rSortedTup X.K) := by
  intro pins s σ H vs us Q I r h
  obtain ⟨a, xs, ds, rfl, hs, hd, ok, q⟩ := h
  obtain ⟨its, rv, hl, hz⟩ := I.list hs
  rw [Vals.ref1 r]
  have hlen := dpall_len hd
  have e := zip_reads I hd rv
  obtain ⟨a1, a2, a3, a4⟩ := okE_get ok
  have hds : (xs.zip ds).map (·.2) = ds := zip_snd hlen
  refine PySem.W.sorted_tups (β := V × Dat) (enc := fun b => b.2) (R := fun u (b : V × Dat) => RelV b.1 u ∧ ∃ as, Reads s.heap u b.2 as) hl.isList e (e.mono fun _ _ z => z.2) (by rw [hds]; exact a1) (by rw [hds]; exact a2) ?_ (fun b hb => ?_) fun out ol ho => ?_
  · rw [List.length_zip, ← hlen]
    omega
  · have : b.2 ∈ ds := by rw [← hds]; exact List.mem_map.mpr ⟨b, hb, rfl⟩
    have := a4 _ this
    omega
  · have hp : ((xs.zip ds).mergeSort (PySem.W.dataLe false fun b => b.2)).Perm (xs.zip ds) := List.mergeSort_perm _ _
    have hv := each_vals ho
    have hout : out.length ≤ sizeLine := by
      rw [ol, List.length_zip]
      omega
    obtain ⟨ep, he'⟩ := PyProof.Rows.sortedAll_at s.heap its out.toArray
    have hs2 : ((xs.zip ds).mergeSort (PySem.W.dataLe false fun b => b.2)).map (·.2) = sortD ds := by
      have := sort_isE (bs := xs.zip ds) (enc := fun b : V × Dat => b.2) (by rw [hds]; exact ok)
      rw [hds] at this
      exact this
    refine ⟨.ref _, upd H (s.heap.objs.size + 1) (.lst (((xs.zip ds).mergeSort (PySem.W.dataLe false fun b => b.2)).map (·.1))), ?_, rfl, q _ _ hp hs2 (I.hok.fresh (Nat.le_succ _))⟩
    exact I.laid (t' := s.toks) (fun _ _ => PyProof.Rows.sortedAll_old) (Nat.le_succ _) ⟨by rw [hv.length]; exact hout, out, ep, hv, he'⟩
def sortEF : Sto → List EV → Option (List Dat)
  | sto, [x] => match view sto x with
    | some (.list ds) => if okE ds = true then some (sortD ds) else none
    | _ => none
  | _, _ => none
theorem cf_sortE {K : PySem.W.Frag} : CallF K (rSortedTup K) sortEF := by
  intro ex μ H sto xs vs d Q S r h q
  unfold sortEF at h
  split at h
  · obtain ⟨v, rfl, rv⟩ := one_of r
    split at h
    · rename_i ds e
      obtain ⟨p, ws, rfl, hp, l, rr⟩ := view_items S rv e
      split at h
      · rename_i ok
        cases h
        have hlen : ws.length = ds.length := rr.length
        refine ⟨p, ws, ds, rfl, SqL.of hp, (rr.mono (off_sub _ _)).dp (nod_all (okE_get ok).2.2.1), ok, fun ps p' h1 h2 hp' => ?_⟩
        refine q _ ?_ ?_ p' hp'
        · rw [List.length_map, h1.length_eq, List.length_zip]
          omega
        · have := rpl_perm (ps := ps) (Hf := hf ex μ H) fun b hb => rpl_zip rr b (h1.mem_iff.mp hb)
          rw [h2] at this
          exact this
      · cases h
    · cases h
  · cases h
end Mx

/-! unfolding, for simp -/
namespace Mx
open PySem PySem.Spec PyProof.Rows L2
@[simp] theorem b_ok {α β : Type} (a : α) (s : Sto) (f : α → Sto → R β) : (R.ok a s).bind f = f a s := rfl
@[simp] theorem w_ok {α : Type} (a : α) (s : Sto) (Q : α → Sto → Prop) (E : Exc → Sto → Prop) : (R.ok a s).wp Q E = Q a s := rfl
@[simp] theorem w_pick {α : Type} (n : Nat) (f : Nat → R α) (Q : α → Sto → Prop) (E : Exc → Sto → Prop) : (R.pick n f).wp Q E = ∀ i, i < n → (f i).wp Q E := rfl
@[simp] theorem b_pick {α β : Type} (n : Nat) (g : Nat → R α) (f : α → Sto → R β) : (R.pick n g).bind f = .pick n fun i => (g i).bind f := rfl
@[simp] theorem l_some (d : Dat) (s : Sto) : liftD (some d) s = .ok (.dat d) s := rfl
@[simp] theorem of_some {α : Type} (d : α) (s : Sto) : R.ofOpt (some d) s = .ok d s := rfl
@[simp] theorem o_ok (g : Sto → Option Sto) (d : Dat) (s : Sto) : outR g (.ok d s) = (match g s with | some s' => .ok (.dat d) s' | none => .fail) := rfl
@[simp] theorem o_pick (g : Sto → Option Sto) (n : Nat) (f : Nat → R Dat) : outR g (.pick n f) = .pick n fun i => outR g (f i) := rfl
@[simp] theorem d_nil : dats [] = some [] := rfl
@[simp] theorem d_cons (d : Dat) (r : List EV) : dats (.dat d :: r) = (dats r).map (d :: ·) := rfl
@[simp] theorem d_map : ∀ l : List Dat, dats (l.map .dat) = some l
  | [] => rfl
  | d :: r => by rw [List.map_cons, d_cons, d_map r]; rfl
@[simp] theorem d_mapA : ∀ (l : List Dat) (r : List EV), dats (l.map .dat ++ r) = (dats r).map (l ++ ·)
  | [], r => by simp
  | d :: l, r => by rw [List.map_cons, List.cons_append, d_cons, d_mapA l r]; cases dats r <;> rfl
@[simp] theorem v_dat (s : Sto) (d : Dat) : view s (.dat d) = some d := rfl
@[simp] theorem v_ref (s : Sto) (i : Nat) : view s (.ref i) = (match s[i]? with | some (.lst xs) => some (.list xs) | _ => none) := rfl
@[simp] theorem t_none (s : Sto) : tyN s (.dat .none) = some "NoneType" := rfl
@[simp] theorem t_bool (s : Sto) (b : Bool) : tyN s (.dat (.bool b)) = some "bool" := rfl
@[simp] theorem t_int (s : Sto) (b : Int) : tyN s (.dat (.int b)) = some "int" := rfl
@[simp] theorem t_str (s : Sto) (b : Str) : tyN s (.dat (.str b)) = some "str" := rfl
@[simp] theorem t_list (s : Sto) (b : List Dat) : tyN s (.dat (.list b)) = some "list" := rfl
@[simp] theorem t_tuple (s : Sto) (b : List Dat) : tyN s (.dat (.tuple b)) = some "tuple" := rfl
@[simp] theorem len_t (s : Sto) (xs : List Dat) : lenD s [.dat (.tuple xs)] = some (.int xs.length) := rfl
@[simp] theorem len_l (s : Sto) (xs : List Dat) : lenD s [.dat (.list xs)] = some (.int xs.length) := rfl
@[simp] theorem len_r (s : Sto) (i : Nat) (xs : List Dat) (h : s[i]? = some (.lst xs)) : lenD s [.ref i] = some (.int xs.length) := by simp [lenD, h]
@[simp] theorem len_rT (s : Sto) (i : Nat) (kvs : List (List Key × Dat)) (h : s[i]? = some (.dT kvs)) : lenD s [.ref i] = some (.int kvs.length) := by simp [lenD, h]
@[simp] theorem len_rK (s : Sto) (i : Nat) (kvs : List (Key × Dat)) (h : s[i]? = some (.dK kvs)) : lenD s [.ref i] = some (.int kvs.length) := by simp [lenD, h]
@[simp] theorem tup_t (s : Sto) (xs : List Dat) : tupD s [.dat (.tuple xs)] = some (.tuple xs) := rfl
@[simp] theorem tup_l (s : Sto) (xs : List Dat) : tupD s [.dat (.list xs)] = some (.tuple xs) := rfl
@[simp] theorem tup_r (s : Sto) (i : Nat) (xs : List Dat) (h : s[i]? = some (.lst xs)) : tupD s [.ref i] = some (.tuple xs) := by simp [tupD, h]
@[simp] theorem lst_t (s : Sto) (xs : List Dat) : lstF s [.dat (.tuple xs)] = some xs := rfl
@[simp] theorem lst_l (s : Sto) (xs : List Dat) : lstF s [.dat (.list xs)] = some xs := rfl
@[simp] theorem all_l (s : Sto) (xs : List Dat) : allD s [.dat (.list xs)] = (blsD xs).map fun bs => .bool (bs.all id) := rfl
@[simp] theorem any_l (s : Sto) (xs : List Dat) : anyD s [.dat (.list xs)] = (blsD xs).map fun bs => .bool (bs.any id) := rfl
@[simp] theorem bls_map (bs : List Bool) : blsD (bs.map .bool) = some bs := by induction bs with
  | nil => rfl
  | cons b r ih => simp [blsD, ih]
@[simp] theorem bls_nil : blsD [] = some [] := rfl
@[simp] theorem bls_cons (b : Bool) (r : List Dat) : blsD (.bool b :: r) = (blsD r).map (b :: ·) := rfl
@[simp] theorem ints_map (bs : List Int) : intsD (bs.map .int) = some bs := by induction bs with
  | nil => rfl
  | cons b r ih => simp [intsD, ih]
@[simp] theorem ints_mapN (bs : List Nat) : intsD (bs.map fun i => .int (i : Nat)) = some (bs.map fun i => ((i : Nat) : Int)) := by induction bs with
  | nil => rfl
  | cons b r ih => simp [intsD, ih]
@[simp] theorem ints_nil : intsD [] = some [] := rfl
@[simp] theorem ints_cons (b : Int) (r : List Dat) : intsD (.int b :: r) = (intsD r).map (b :: ·) := rfl
@[simp] theorem int_i (s : Sto) (i : Int) : intD s [.dat (.int i)] = some (.int i) := rfl
@[simp] theorem fin0 (d : Dat) (s : Sto) : finB [] d s = .ok d [] := rfl
@[simp] theorem fin1 (d : Dat) (s : Sto) : finB [.row] d (.row :: s) = .ok d [.row] := rfl
@[simp] theorem refs_nil : refsOf [] = [] := rfl
@[simp] theorem refs_dat (d : Dat) (r : List EV) : refsOf (.dat d :: r) = refsOf r := rfl
@[simp] theorem refs_ref (i : Nat) (r : List EV) : refsOf (.ref i :: r) = i :: refsOf r := rfl
@[simp] theorem tz_dat (d : Dat) : toZero (.dat d) = .dat d := rfl
@[simp] theorem tz_ref (i : Nat) : toZero (.ref i) = .ref 0 := rfl
@[simp] theorem for_nil (g : DG) (b : DS) (env : Env) (s : Sto) : forGo g b [] env s = .ok (.nx env) s := rfl
@[simp] theorem lc_nil (g : DG) (t : DT) (m : DE) (env : Env) (s : Sto) : lcGo g t m env [] s = .ok [] s := rfl
@[simp] theorem wipe_nil (env : Env) : wipeE env [] = env := rfl
@[simp] theorem wipe_cons (env : Env) (v : Nat) (vs : List Nat) : wipeE env (v :: vs) = (wipeE env vs).set v none := rfl
@[simp] theorem key_int (i : Int) : keyD (.int i) = some (.inl i) := rfl
@[simp] theorem u_rLe (i j : Int) : rLe i j = decide (i ≤ j) := rfl
@[simp] theorem u_rLt (i j : Int) : rLt i j = decide (i < j) := rfl
@[simp] theorem u_rGe (i j : Int) : rGe i j = decide (j ≤ i) := rfl
@[simp] theorem u_rGt (i j : Int) : rGt i j = decide (j < i) := rfl
@[simp] theorem isL_list (s : Sto) (ds : List Dat) : isL s (.dat (.list ds)) = true := rfl
@[simp] theorem isL_ref (s : Sto) (i : Nat) : isL s (.ref i) = (match s[i]? with | some (.lst _) => true | _ => false) := rfl
@[simp] theorem is_int_int : isOne "int" "int" = some true := rfl
@[simp] theorem is_int_bool : isOne "int" "bool" = some false := rfl
@[simp] theorem is_int_str : isOne "int" "str" = some false := rfl
@[simp] theorem is_int_list : isOne "int" "list" = some false := rfl
@[simp] theorem is_int_tuple : isOne "int" "tuple" = some false := rfl
@[simp] theorem is_bool_int : isOne "bool" "int" = some true := rfl
@[simp] theorem is_bool_bool : isOne "bool" "bool" = some true := rfl
@[simp] theorem is_bool_str : isOne "bool" "str" = some false := rfl
@[simp] theorem is_bool_list : isOne "bool" "list" = some false := rfl
@[simp] theorem is_bool_tuple : isOne "bool" "tuple" = some false := rfl
@[simp] theorem is_str_int : isOne "str" "int" = some false := rfl
@[simp] theorem is_str_bool : isOne "str" "bool" = some false := rfl
@[simp] theorem is_str_str : isOne "str" "str" = some true := rfl
@[simp] theorem is_str_list : isOne "str" "list" = some false := rfl
@[simp] theorem is_str_tuple : isOne "str" "tuple" = some false := rfl
@[simp] theorem is_list_int : isOne "list" "int" = some false := rfl
@[simp] theorem is_list_bool : isOne "list" "bool" = some false := rfl
@[simp] theorem is_list_str : isOne "list" "str" = some false := rfl
@[simp] theorem is_list_list : isOne "list" "list" = some true := rfl
@[simp] theorem is_list_tuple : isOne "list" "tuple" = some false := rfl
@[simp] theorem is_tuple_int : isOne "tuple" "int" = some false := rfl
@[simp] theorem is_tuple_bool : isOne "tuple" "bool" = some false := rfl
@[simp] theorem is_tuple_str : isOne "tuple" "str" = some false := rfl
@[simp] theorem is_tuple_list : isOne "tuple" "list" = some false := rfl
@[simp] theorem is_tuple_tuple : isOne "tuple" "tuple" = some true := rfl
@[simp] theorem is_NoneType_int : isOne "NoneType" "int" = some false := rfl
@[simp] theorem is_NoneType_bool : isOne "NoneType" "bool" = some false := rfl
@[simp] theorem is_NoneType_str : isOne "NoneType" "str" = some false := rfl
@[simp] theorem is_NoneType_list : isOne "NoneType" "list" = some false := rfl
@[simp] theorem is_NoneType_tuple : isOne "NoneType" "tuple" = some false := rfl
@[simp] theorem rep_1 (x : Option EV) : List.replicate 1 x = [x] := rfl
@[simp] theorem rep_2 (x : Option EV) : List.replicate 2 x = [x, x] := rfl
@[simp] theorem rep_3 (x : Option EV) : List.replicate 3 x = [x, x, x] := rfl
@[simp] theorem rep_4 (x : Option EV) : List.replicate 4 x = [x, x, x, x] := rfl
@[simp] theorem rep_5 (x : Option EV) : List.replicate 5 x = [x, x, x, x, x] := rfl
@[simp] theorem rep_6 (x : Option EV) : List.replicate 6 x = [x, x, x, x, x, x] := rfl
@[simp] theorem rep_7 (x : Option EV) : List.replicate 7 x = [x, x, x, x, x, x, x] := rfl
@[simp] theorem rep_8 (x : Option EV) : List.replicate 8 x = [x, x, x, x, x, x, x, x] := rfl
@[simp] theorem rep_9 (x : Option EV) : List.replicate 9 x = [x, x, x, x, x, x, x, x, x] := rfl
@[simp] theorem rep_10 (x : Option EV) : List.replicate 10 x = [x, x, x, x, x, x, x, x, x, x] := rfl
@[simp] theorem rep_11 (x : Option EV) : List.replicate 11 x = [x, x, x, x, x, x, x, x, x, x, x] := rfl
@[simp] theorem rep_12 (x : Option EV) : List.replicate 12 x = [x, x, x, x, x, x, x, x, x, x, x, x] := rfl
@[simp] theorem rep_13 (x : Option EV) : List.replicate 13 x = [x, x, x, x, x, x, x, x, x, x, x, x, x] := rfl
@[simp] theorem rep_14 (x : Option EV) : List.replicate 14 x = [x, x, x, x, x, x, x, x, x, x, x, x, x, x] := rfl
@[simp] theorem rep_15 (x : Option EV) : List.replicate 15 x = [x, x, x, x, x, x, x, x, x, x, x, x, x, x, x] := rfl
@[simp] theorem rep_16 (x : Option EV) : List.replicate 16 x = [x, x, x, x, x, x, x, x, x, x, x, x, x, x, x, x] := rfl
@[simp] theorem lt_i (s : Sto) (i j : Int) : ltO s (.dat (.int i)) (.dat (.int j)) = some (.bool (rLt i j)) := rfl
@[simp] theorem lt_t (s : Sto) (a b : List Dat) : ltO s (.dat (.tuple a)) (.dat (.tuple b)) = (match intsD a, intsD b with | some ns, some ms => some (.bool (cmpL rLt zLt ns ms)) | _, _ => none) := rfl
@[simp] theorem le_i (s : Sto) (i j : Int) : leO s (.dat (.int i)) (.dat (.int j)) = some (.bool (rLe i j)) := rfl
@[simp] theorem le_t (s : Sto) (a b : List Dat) : leO s (.dat (.tuple a)) (.dat (.tuple b)) = (match intsD a, intsD b with | some ns, some ms => some (.bool (cmpL rLe zLe ns ms)) | _, _ => none) := rfl
@[simp] theorem gt_i (s : Sto) (i j : Int) : gtO s (.dat (.int i)) (.dat (.int j)) = some (.bool (rGt i j)) := rfl
@[simp] theorem gt_t (s : Sto) (a b : List Dat) : gtO s (.dat (.tuple a)) (.dat (.tuple b)) = (match intsD a, intsD b with | some ns, some ms => some (.bool (cmpL rGt zGt ns ms)) | _, _ => none) := rfl
@[simp] theorem ge_i (s : Sto) (i j : Int) : geO s (.dat (.int i)) (.dat (.int j)) = some (.bool (rGe i j)) := rfl
@[simp] theorem ge_t (s : Sto) (a b : List Dat) : geO s (.dat (.tuple a)) (.dat (.tuple b)) = (match intsD a, intsD b with | some ns, some ms => some (.bool (cmpL rGe zGe ns ms)) | _, _ => none) := rfl
@[simp] theorem ix_l (s : Sto) (ds : List Dat) (i : Int) : ixD s (.dat (.list ds)) (.dat (.int i)) = atI ds i := rfl
@[simp] theorem ix_t (s : Sto) (ds : List Dat) (i : Int) : ixD s (.dat (.tuple ds)) (.dat (.int i)) = atI ds i := rfl
@[simp] theorem ix_r (s : Sto) (c : Nat) (k : Dat) : ixD s (.ref c) (.dat k) = (match view s (.ref c) with
    | some (.list ds) => match k with
      | .int i => atI ds i
      | _ => none
    | some (.tuple ds) => match k with
      | .int i => atI ds i
      | _ => none
    | some (.str z) => match k with
      | .int i => if z.length ≤ sizeLine then (atI z.cps.toList i).map fun c => .str ⟨#[c]⟩ else none
      | _ => none
    | some (.dict _) => (match lookD s (.ref c) k with
      | some o => o
      | none => none)
    | some _ => none
    | none => match lookD s (.ref c) k with
      | some o => o
      | none => none) := rfl
@[simp] theorem in_l (s : Sto) (d : Dat) (ds : List Dat) : inD s (.dat d) (.dat (.list ds)) = if flatD d && ds.all flatD then some (ds.any fun z => PyData.eqv z d) else if shp 60 d && shp 60 (.list ds) then some (ds.any fun z => PyData.eqv z d) else none := rfl
@[simp] theorem in_t (s : Sto) (d : Dat) (ds : List Dat) : inD s (.dat d) (.dat (.tuple ds)) = if flatD d && ds.all flatD then some (ds.any fun z => PyData.eqv z d) else if shp 60 d && shp 60 (.tuple ds) then some (ds.any fun z => PyData.eqv z d) else none := rfl
@[simp] theorem in_r (s : Sto) (d : Dat) (c : Nat) : inD s (.dat d) (.ref c) = (match view s (.ref c) with
    | some (.list ds) => if flatD d && ds.all flatD then some (ds.any fun z => PyData.eqv z d) else if shp 60 d && shp 60 (.list ds) then some (ds.any fun z => PyData.eqv z d) else none
    | some (.tuple ds) => if flatD d && ds.all flatD then some (ds.any fun z => PyData.eqv z d) else if shp 60 d && shp 60 (.tuple ds) then some (ds.any fun z => PyData.eqv z d) else none
    | some (.dict _) => (lookD s (.ref c) d).map fun o => o.isSome
    | some _ => none
    | none => (lookD s (.ref c) d).map fun o => o.isSome) := rfl
@[simp] theorem wIn_s (m : Nat) (i : Int) : (wIn m i = true) = (-(m : Int) ≤ i ∧ i < m) := propext wIn_iff
@[simp] theorem add_i (s : Sto) (i j : Int) : addD s (.dat (.int i)) (.dat (.int j)) = some (.int (i + j)) := rfl
@[simp] theorem add_t (s : Sto) (a b : List Dat) : addD s (.dat (.tuple a)) (.dat (.tuple b)) = if a.length + b.length ≤ sizeLine then some (.tuple (a ++ b)) else none := rfl
@[simp] theorem sub_i (s : Sto) (i j : Int) : subD s (.dat (.int i)) (.dat (.int j)) = some (.int (i - j)) := rfl
@[simp] theorem mul_i (s : Sto) (i j : Int) : mulD s (.dat (.int i)) (.dat (.int j)) = if mulOk i j = true then some (.int (i * j)) else none := rfl
@[simp] theorem fdiv_i (s : Sto) (i j : Int) : fdivD s (.dat (.int i)) (.dat (.int j)) = if (decide (j ≠ 0) && decide (j.natAbs < 1073741824)) = true then some (.int (i.fdiv j)) else none := rfl
@[simp] theorem u_eV (i : Nat) env s : eV i env s = (match env[i]? with
  | some (some v) => .ok v s
  | _ => .fail) := rfl
@[simp] theorem u_eC (d : Dat) x0 s : eC d x0 s = (.ok (.dat d) s) := rfl
@[simp] theorem u_e1 (f : Sto → EV → Option Dat) (a : DE) env s : e1 f a env s = ((a env s).bind fun x s1 => liftD (f s1 x) s1) := rfl
@[simp] theorem u_e2 (f : Sto → EV → EV → Option Dat) (a b : DE) env s : e2 f a b env s = ((a env s).bind fun x s1 => (b env s1).bind fun y s2 => liftD (f s2 x y) s2) := rfl
@[simp] theorem u_aNil x0 s : aNil  x0 s = (.ok [] s) := rfl
@[simp] theorem u_aCons (a : DE) (r : DA) env s : aCons a r env s = ((a env s).bind fun x s1 => (r env s1).bind fun xs s2 => .ok (x :: xs) s2) := rfl
@[simp] theorem u_tru (m : DE) env s : tru m env s = ((m env s).bind fun x s1 => match x with
  | .dat (.bool b) => .ok b s1
  | _ => .fail) := rfl
@[simp] theorem u_tAndD (a b : DT) env s : tAndD a b env s = ((a env s).bind fun c s1 => if c = true then b env s1 else .ok false s1) := rfl
@[simp] theorem u_tOrD (a b : DT) env s : tOrD a b env s = ((a env s).bind fun c s1 => if c = true then .ok true s1 else b env s1) := rfl
@[simp] theorem u_tNotD (a : DT) env s : tNotD a env s = ((a env s).bind fun c s1 => .ok (!c) s1) := rfl
@[simp] theorem u_eAnd (a b : DE) env s : eAnd a b env s = ((a env s).bind fun x s1 => match x with
  | .dat (.bool true) => b env s1
  | .dat (.bool false) => .ok (.dat (.bool false)) s1
  | _ => .fail) := rfl
@[simp] theorem u_eOr (a b : DE) env s : eOr a b env s = ((a env s).bind fun x s1 => match x with
  | .dat (.bool false) => b env s1
  | .dat (.bool true) => .ok (.dat (.bool true)) s1
  | _ => .fail) := rfl
@[simp] theorem u_eNot (a : DE) env s : eNot a env s = ((a env s).bind fun x s1 => match x with
  | .dat (.bool c) => .ok (.dat (.bool (!c))) s1
  | _ => .fail) := rfl
@[simp] theorem u_eIf (t : DT) (a b : DE) env s : eIf t a b env s = ((t env s).bind fun c s1 => if c = true then a env s1 else b env s1) := rfl
@[simp] theorem u_eChain (f g : Sto → EV → EV → Option Dat) (a b c : DE) env s : eChain f g a b c env s = ((a env s).bind fun x s1 => (b env s1).bind fun y s2 => match f s2 x y with
  | some (.bool true) => (c env s2).bind fun z s3 => liftD (g s3 y z) s3
  | some (.bool false) => .ok (.dat (.bool false)) s2
  | _ => .fail) := rfl
@[simp] theorem u_aStar (a : DE) (r : DA) env s : aStar a r env s = ((a env s).bind fun x s1 => match x with
  | .dat (.list ds) => (r env s1).bind fun xs s2 => .ok (ds.map .dat ++ xs) s2
  | .dat (.tuple ds) => (r env s1).bind fun xs s2 => .ok (ds.map .dat ++ xs) s2
  | _ => .fail) := rfl
@[simp] theorem u_eqD sto x y : eqD  sto x y = (match view sto x, view sto y with
  | some d, some e => if shp 60 d && shp 60 e then some (.bool (PyData.eqv d e)) else none
  | _, _ => none) := rfl
@[simp] theorem u_neD sto x y : neD  sto x y = (match view sto x, view sto y with
  | some d, some e => if shp 60 d && shp 60 e then some (.bool (!PyData.eqv d e)) else none
  | _, _ => none) := rfl
@[simp] theorem u_inO sto x y : inO  sto x y = ((inD sto x y).map .bool) := rfl
@[simp] theorem u_ninO sto x y : ninO  sto x y = ((inD sto x y).map fun b => .bool (!b)) := rfl
@[simp] theorem u_isNO x0 x y : isNO  x0 x y = (match x, y with
  | .dat d, .dat .none => some (.bool (isNone d))
  | _, _ => none) := rfl
@[simp] theorem u_isnNO x0 x y : isnNO  x0 x y = (match x, y with
  | .dat d, .dat .none => some (.bool (!isNone d))
  | _, _ => none) := rfl
@[simp] theorem u_isBO x0 x y : isBO  x0 x y = (match x, y with
  | .dat (.bool a), .dat (.bool b) => some (.bool (decide (a = b)))
  | _, _ => none) := rfl
@[simp] theorem u_isnBO x0 x y : isnBO  x0 x y = (match x, y with
  | .dat (.bool a), .dat (.bool b) => some (.bool (!decide (a = b)))
  | _, _ => none) := rfl
@[simp] theorem u_eTup (m : DA) env s : eTup m env s = ((m env s).bind fun xs s1 => match dats xs with
  | some ds => if ds.length ≤ sizeLine then .ok (.dat (.tuple ds)) s1 else .fail
  | none => .fail) := rfl
@[simp] theorem u_fLst (m : DA) env s : fLst m env s = ((m env s).bind fun xs s1 => match dats xs with
  | some ds => if ds.length ≤ sizeLine then .ok ds s1 else .fail
  | none => .fail) := rfl
@[simp] theorem u_eFrz (m : DF) env s : eFrz m env s = ((m env s).bind fun ds s1 => .ok (.dat (.list ds)) s1) := rfl
@[simp] theorem u_eNew (m : DF) env s : eNew m env s = ((m env s).bind fun ds s1 => .ok (.ref s1.length) (s1 ++ [.lst ds])) := rfl
@[simp] theorem u_eB (f : Sto → List EV → Option Dat) (m : DA) env s : eB f m env s = ((m env s).bind fun xs s1 => liftD (f s1 xs) s1) := rfl
@[simp] theorem u_fB (f : Sto → List EV → Option (List Dat)) (m : DA) env s : fB f m env s = ((m env s).bind fun xs s1 => R.ofOpt (f s1 xs) s1) := rfl
@[simp] theorem u_oNone x0 s : oNone  x0 s = (.ok none s) := rfl
@[simp] theorem u_oSome (m : DE) env s : oSome m env s = ((m env s).bind fun x s1 => match x with
  | .dat (.int i) => .ok (some i) s1
  | _ => .fail) := rfl
@[simp] theorem u_eSl (a : DE) (lo hi : Env → Sto → R (Option Int)) env s : eSl a lo hi env s = ((a env s).bind fun x s1 => (lo env s1).bind fun l s2 => (hi env s2).bind fun u s3 => match view s3 x with
  | some (.list ds) => .ok (.dat (.list (cutD ds l u))) s3
  | some (.tuple ds) => .ok (.dat (.tuple (cutD ds l u))) s3
  | _ => .fail) := rfl
@[simp] theorem u_g1 (m : DE) env s : g1 m env s = ((m env s).bind fun x s1 => match x with
  | .dat (.int n) => .ok ((0 : Int), n) s1
  | _ => .fail) := rfl
@[simp] theorem u_g2 (m n : DE) env s : g2 m n env s = ((m env s).bind fun x s1 => (n env s1).bind fun y s2 => match x, y with
  | .dat (.int i), .dat (.int j) => .ok (i, j) s2
  | _, _ => .fail) := rfl
@[simp] theorem u_fRg (m : Env → Sto → R (Int × Int)) env s : fRg m env s = ((m env s).bind fun p s1 => if rgOk p.1 p.2 = true then .ok (rgD p.1 p.2) s1 else .fail) := rfl
@[simp] theorem u_eTupRg (m : Env → Sto → R (Int × Int)) env s : eTupRg m env s = ((m env s).bind fun p s1 => if rgOk p.1 p.2 = true then .ok (.dat (.tuple (rgD p.1 p.2))) s1 else .fail) := rfl
@[simp] theorem u_eIsi (ty : String) (m : DE) env s : eIsi ty m env s = ((m env s).bind fun x s1 => match tyN s1 x with
  | some t => liftD ((isOne t ty).map .bool) s1
  | none => .fail) := rfl
@[simp] theorem u_eIsi2 (ty ty2 : String) (m : DE) env s : eIsi2 ty ty2 m env s = ((m env s).bind fun x s1 => match tyN s1 x with
  | some t => match isOne t ty, isOne t ty2 with
    | some a, some b => .ok (.dat (.bool (a || b))) s1
    | _, _ => .fail
  | none => .fail) := rfl
@[simp] theorem u_dI (m : DE) env s : dI m env s = ((m env s).bind fun x s1 => match x with
  | .dat (.list ds) => .ok ds s1
  | .dat (.tuple ds) => .ok ds s1
  | _ => .fail) := rfl
@[simp] theorem u_dRg (m : Env → Sto → R (Int × Int)) env s : dRg m env s = ((m env s).bind fun p s1 => if rgOk p.1 p.2 = true then .ok (rgD p.1 p.2) s1 else .fail) := rfl
@[simp] theorem u_dEnum (m : DE) env s : dEnum m env s = ((m env s).bind fun x s1 => match x with
  | .dat (.list ds) => .ok (enumD 0 ds) s1
  | .dat (.tuple ds) => .ok (enumD 0 ds) s1
  | _ => .fail) := rfl
@[simp] theorem u_dZip (m n : DE) env s : dZip m n env s = ((m env s).bind fun x s1 => (n env s1).bind fun y s2 => match x, y with
  | .dat (.list a), .dat (.list b) => .ok (zipD a b) s2
  | .dat (.tuple a), .dat (.tuple b) => .ok (zipD a b) s2
  | _, _ => .fail) := rfl
@[simp] theorem u_gN (i : Nat) env d : gN i env d = (some (env.set i (some (.dat d)))) := rfl
@[simp] theorem u_gT (g : DGs) env d : gT g env d = (match d with
  | .tuple ds => g env ds
  | _ => none) := rfl
@[simp] theorem u_gs0 env ds : gs0  env ds = (match ds with
  | [] => some env
  | _ :: _ => none) := rfl
@[simp] theorem u_gsC (g : DG) (r : DGs) env ds : gsC g r env ds = (match ds with
  | [] => none
  | d :: t => match g env d with
    | some env' => r env' t
    | none => none) := rfl
@[simp] theorem u_tYesD x0 s : tYesD  x0 s = (.ok true s) := rfl
@[simp] theorem u_fLc (src : DI) (own : List Nat) (g : DG) (ifs : DT) (elt : DE) env s : fLc src own g ifs elt env s = ((src env s).bind fun items s1 => lcGo g ifs elt (wipeE env own) items s1) := rfl
@[simp] theorem u_sNil env s : sNil  env s = (.ok (.nx env) s) := rfl
@[simp] theorem u_sSeq (a b : DS) env s : sSeq a b env s = ((a env s).bind fun o s1 => match o with
  | .nx env1 => b env1 s1
  | o => .ok o s1) := rfl
@[simp] theorem u_sSet (i : Nat) (m : DE) env s : sSet i m env s = ((m env s).bind fun v s1 => .ok (.nx (env.set i (some v))) s1) := rfl
@[simp] theorem u_sPar (i j : Nat) (m : DA) env s : sPar i j m env s = ((m env s).bind fun vs s1 => match vs with
  | [v, w] => .ok (.nx ((env.set i (some v)).set j (some w))) s1
  | _ => .fail) := rfl
@[simp] theorem u_sTg (g : DG) (m : DE) env s : sTg g m env s = ((m env s).bind fun v s1 => match v with
  | .dat d => match g env d with
    | some env' => .ok (.nx env') s1
    | none => .fail
  | .ref _ => .fail) := rfl
@[simp] theorem u_sEx (m : DE) env s : sEx m env s = ((m env s).bind fun _ s1 => .ok (.nx env) s1) := rfl
@[simp] theorem u_sAug (i : Nat) (f : Sto → EV → EV → Option Dat) (m : DE) env s : sAug i f m env s = (match env[i]? with
  | some (some x) => (m env s).bind fun y s1 => match f s1 x y with
    | some d => .ok (.nx (env.set i (some (.dat d)))) s1
    | none => .fail
  | _ => .fail) := rfl
@[simp] theorem u_sIf (c : DT) (a b : DS) env s : sIf c a b env s = ((c env s).bind fun k s1 => if k = true then a env s1 else b env s1) := rfl
@[simp] theorem u_sRet (m : DE) env s : sRet m env s = ((m env s).bind fun v s1 => .ok (.ret v) s1) := rfl
@[simp] theorem u_sRetN x0 s : sRetN  x0 s = (.ok (.ret (.dat .none)) s) := rfl
@[simp] theorem u_sPass env s : sPass  env s = (.ok (.nx env) s) := rfl
@[simp] theorem u_sBrk env s : sBrk  env s = (.ok (.brk env) s) := rfl
@[simp] theorem u_sCnt env s : sCnt  env s = (.ok (.cnt env) s) := rfl
@[simp] theorem u_sNever x0 x1 : sNever  x0 x1 = (.fail) := rfl
@[simp] theorem u_sFor (src : DI) (g : DG) (b : DS) env s : sFor src g b env s = ((src env s).bind fun items s1 => forGo g b items env s1) := rfl
@[simp] theorem u_eMt (f : Sto → EV → List EV → Option (Dat × Sto)) (o : DE) (m : DA) env s : eMt f o m env s = ((o env s).bind fun x s1 => if isL s1 x = true then (m env s1).bind fun xs s2 => match f s2 x xs with
    | some (d, s3) => .ok (.dat d) s3
    | none => .fail
  else .fail) := rfl
@[simp] theorem u_appF sto x xs : appF  sto x xs = (match x, xs with
  | .ref c, [.dat d] => match sto[c]? with
    | some (.lst ys) => if ys.length < sizeLine then some (.none, sto.set c (.lst (ys ++ [d]))) else none
    | _ => none
  | _, _ => none) := rfl
@[simp] theorem u_extF sto x xs : extF  sto x xs = (match x, xs with
  | .ref c, [.dat (.list zs)] => match sto[c]? with
    | some (.lst ys) => if ys.length + zs.length ≤ sizeLine then some (.none, sto.set c (.lst (ys ++ zs))) else none
    | _ => none
  | _, _ => none) := rfl
@[simp] theorem u_popF sto x xs : popF  sto x xs = (match x, xs with
  | .ref c, [] => match sto[c]? with
    | some (.lst ys) => match ys[ys.length - 1]? with
      | some d => some (d, sto.set c (.lst ys.dropLast))
      | none => none
    | _ => none
  | _, _ => none) := rfl
@[simp] theorem u_popAtF sto x xs : popAtF  sto x xs = (match x, xs with
  | .ref c, [.dat (.int i)] => match sto[c]? with
    | some (.lst ys) => if wIn 9223372036854775808 i = true then match seqIndex? i ys.length with
      | some k => match ys[k]? with
        | some d => some (d, sto.set c (.lst (ys.eraseIdx k)))
        | none => none
      | none => none else none
    | _ => none
  | _, _ => none) := rfl
@[simp] theorem u_indexF sto x xs : indexF  sto x xs = (match xs with
  | [.dat d] => match view sto x with
    | some (.list ds) => if shp 60 (.list ds) && shp 60 d then (findD d 0 ds).map fun j => (.int (j : Nat), sto) else none
    | _ => none
  | _ => none) := rfl
@[simp] theorem u_sSetL (o i e : DE) env s : sSetL o i e env s = ((e env s).bind fun v s1 => (o env s1).bind fun x s2 => (i env s2).bind fun y s3 => match setLF s3 x y v with
  | some s4 => .ok (.nx env) s4
  | none => .fail) := rfl
@[simp] theorem u_sPutD (o i e : DE) env s : sPutD o i e env s = ((e env s).bind fun v s1 => (o env s1).bind fun x s2 => (i env s2).bind fun y s3 => match putDF s3 x y v with
  | some s4 => .ok (.nx env) s4
  | none => .fail) := rfl
@[simp] theorem u_eCall0 (F : Fn) (m : DA) env s : eCall0 F m env s = ((m env s).bind fun xs s1 => match dats xs with
  | some ds => outR (fun _ => some s1) (F (ds.map .dat) [])
  | none => .fail) := rfl
@[simp] theorem u_eCall1 (F : Fn) (m : DA) env s : eCall1 F m env s = ((m env s).bind fun xs s1 => match refsOf xs with
  | [c] => match s1[c]? with
    | some cell => outR (fun s' => match s' with
        | [cell'] => some (s1.set c cell')
        | _ => none) (F (xs.map toZero) [cell])
    | none => .fail
  | _ => .fail) := rfl
@[simp] theorem u_sFrz (i : Nat) env s : sFrz i env s = (match env[i]? with
  | some (some (.ref c)) => match s[c]? with
    | some (.lst xs) => .ok (.nx ((env.map (dropRef c)).set i (some (.dat (.list xs))))) (s.set c .dead)
    | some (.lsl xss) => .ok (.nx ((env.map (dropRef c)).set i (some (.dat (.list (xss.map .list)))))) (s.set c .dead)
    | some (.dD kvs) => .ok (.nx ((env.map (dropRef c)).set i (some (.dat (.dict kvs))))) (s.set c .dead)
    | some (.dK kvs) => match dkD kvs with
      | some ks => .ok (.nx ((env.map (dropRef c)).set i (some (.dat (.dict ks))))) (s.set c .dead)
      | none => .fail
    | _ => .fail
  | _ => .fail) := rfl
@[simp] theorem u_eNewK x0 s : eNewK  x0 s = (.ok (.ref s.length) (s ++ [.dK []])) := rfl
@[simp] theorem u_eNewT x0 s : eNewT  x0 s = (.ok (.ref s.length) (s ++ [.dT []])) := rfl
@[simp] theorem u_eDc (src : DI) (own : List Nat) (g : DG) (ifs : DT) (key val : DE) env s : eDc src own g ifs key val env s = ((src env s).bind fun items s1 => (dcGo g ifs key val (wipeE env own) items [] s1).bind fun kvs s2 => .ok (.ref s2.length) (s2 ++ [.dK kvs])) := rfl
@[simp] theorem u_eLsl (src : DI) (own : List Nat) (g : DG) env s : eLsl src own g env s = ((src env s).bind fun items s1 => if allG g (wipeE env own) items = true then .ok (.ref s1.length) (s1 ++ [.lsl (List.replicate items.length [])]) else .fail) := rfl
@[simp] theorem u_eAppAt (i : Nat) (idx e : DE) env s : eAppAt i idx e env s = (match env[i]? with
  | some (some (.ref c)) => (idx env s).bind fun k s1 => match k, s1[c]? with
    | .dat (.int n), some (.lsl xss) => match ixN xss.length n with
      | some j => (e env s1).bind fun y s2 => match y, s2[c]? with
        | .dat d, some (.lsl yss) => match yss[j]? with
          | some ys => if yss.length = xss.length ∧ ys.length < sizeLine then .ok (.dat .none) (s2.set c (.lsl (yss.set j (ys ++ [d])))) else .fail
          | none => .fail
        | _, _ => .fail
      | none => .fail
    | _, _ => .fail
  | _ => .fail) := rfl
@[simp] theorem u_negD x0 x : negD  x0 x = (match x with
  | .dat (.int i) => some (.int (-i))
  | _ => none) := rfl
@[simp] theorem u_f2 (f : Sto → EV → EV → Option (List Dat)) (a b : DE) env s : f2 f a b env s = ((a env s).bind fun x s1 => (b env s1).bind fun y s2 => R.ofOpt (f s2 x y) s2) := rfl
@[simp] theorem u_repF sto x y : repF  sto x y = (match y with
  | .dat (.int k) => match view sto x with
    | some (.list a) => if wIn 9223372036854775808 k = true ∧ a.length * k.toNat ≤ sizeLine then some (List.replicate k.toNat a).flatten else none
    | _ => none
  | _ => none) := rfl
@[simp] theorem u_catF sto x y : catF  sto x y = (match view sto x, view sto y with
  | some (.list a), some (.list b) => if a.length + b.length ≤ sizeLine then some (a ++ b) else none
  | _, _ => none) := rfl
@[simp] theorem u_neverF x0 x1 : neverF  x0 x1 = (.fail) := rfl
@[simp] theorem u_runB (n np : Nat) (body : DS) (evs : List EV) (sto : Sto) (h : evs.length = np) : runB n np body evs sto = (body (evs.map some ++ List.replicate (n - np) none) sto).bind fun o s' => match o with
    | .nx _ => finB sto .none s'
    | .ret (.dat d) => finB sto d s'
    | .ret (.ref c) => if c < sto.length then .fail else match s'[c]? with
      | some (.lst xs) => finB sto (.list xs) s'
      | some (.lsl xss) => finB sto (.list (xss.map .list)) s'
      | some (.dD kvs) => finB sto (.dict kvs) s'
      | some (.dK kvs) => match dkD kvs with
        | some ks => finB sto (.dict ks) s'
        | none => .fail
      | _ => .fail
    | _ => .fail := by
  unfold runB
  exact if_pos h
@[simp] theorem u_taken (n : Int) (h : 1 ≤ n) (h2 : n < 1073741824) : takenF [.ref 0, .dat (.int n)] [.row] = .pick n.toNat fun i => .ok (.int (i : Nat)) [.row] := by
  unfold takenF
  simp [h, h2]
end Mx

/-! loops, in general -/
namespace Mx
open PySem PySem.Spec PyProof.Rows L2
theorem for_wpGo {g : DG} {b : DS} {Q : Out → Sto → Prop} {E : Exc → Sto → Prop} (I : Nat → Env → Sto → Prop) : ∀ (ys : List Dat) (j : Nat) (env : Env) (s : Sto),
    (∀ i x env s, ys[i]? = some x → I (j + i) env s → ∃ env1, g env x = some env1 ∧ (b env1 s).wp (fun o s' => match o with | .nx e' => I (j + i + 1) e' s' | .cnt e' => I (j + i + 1) e' s' | .brk e' => Q (.nx e') s' | .ret v => Q (.ret v) s') E) →
    (∀ env s, I (j + ys.length) env s → Q (.nx env) s) → I j env s → (forGo g b ys env s).wp Q E
  | [], j, env, s, _, fin, h => fin env s h
  | x :: ys, j, env, s, step, fin, h => by
    obtain ⟨env1, e1, w⟩ := step 0 x env s rfl h
    unfold forGo
    rw [e1]
    show ((b env1 s).bind _).wp Q E
    rw [R.wp_bind]
    refine R.wp_mono (fun o s' q => ?_) (fun _ _ z => z) _ w
    have nxt : ∀ e', I (j + 0 + 1) e' s' → (forGo g b ys e' s').wp Q E := fun e' q => for_wpGo I ys (j + 1) e' s' (fun i x env s hx hi => by
      have := step (i + 1) x env s hx (by rw [show j + (i + 1) = j + 1 + i by omega]; exact hi)
      rw [show j + (i + 1) = j + 1 + i by omega] at this
      exact this) (fun env s hi => fin env s (by rw [List.length_cons, show j + (ys.length + 1) = j + 1 + ys.length by omega]; exact hi)) q
    cases o with
    | nx e' => exact nxt e' q
    | cnt e' => exact nxt e' q
    | brk e' => exact q
    | ret v => exact q
theorem for_wp {g : DG} {b : DS} {Q : Out → Sto → Prop} {E : Exc → Sto → Prop} (I : Nat → Env → Sto → Prop) {ys : List Dat} {env : Env} {s : Sto} (h : I 0 env s)
    (step : ∀ i x env s, ys[i]? = some x → I i env s → ∃ env1, g env x = some env1 ∧ (b env1 s).wp (fun o s' => match o with | .nx e' => I (i + 1) e' s' | .cnt e' => I (i + 1) e' s' | .brk e' => Q (.nx e') s' | .ret v => Q (.ret v) s') E)
    (fin : ∀ env s, I ys.length env s → Q (.nx env) s) : (forGo g b ys env s).wp Q E :=
  for_wpGo I ys 0 env s (fun i x env s hx hi => by
    rw [Nat.zero_add] at hi ⊢
    exact step i x env s hx hi) (fun env s hi => fin env s (by rw [Nat.zero_add] at hi; exact hi)) h
theorem for_eqGo {g : DG} {b : DS} (I : Nat → Env → Sto → Prop) : ∀ (ys : List Dat) (j : Nat) (env : Env) (s : Sto),
    (∀ i x env s, ys[i]? = some x → I (j + i) env s → ∃ env1 env2 s2, g env x = some env1 ∧ b env1 s = .ok (.nx env2) s2 ∧ I (j + i + 1) env2 s2) →
    I j env s → ∃ env' s', forGo g b ys env s = .ok (.nx env') s' ∧ I (j + ys.length) env' s'
  | [], j, env, s, _, h => ⟨env, s, rfl, h⟩
  | x :: ys, j, env, s, step, h => by
    obtain ⟨env1, env2, s2, e1, e2, q⟩ := step 0 x env s rfl h
    obtain ⟨env', s', e3, q'⟩ := for_eqGo I ys (j + 1) env2 s2 (fun i x env s hx hi => by
      have := step (i + 1) x env s hx (by rw [show j + (i + 1) = j + 1 + i by omega]; exact hi)
      rw [show j + (i + 1) = j + 1 + i by omega] at this
      exact this) q
    refine ⟨env', s', ?_, by rw [List.length_cons, show j + (ys.length + 1) = j + 1 + ys.length by omega]; exact q'⟩
    rw [forGo, e1]
    show (b env1 s).bind _ = _
    rw [e2]
    exact e3
theorem for_eq {g : DG} {b : DS} (I : Nat → Env → Sto → Prop) {ys : List Dat} {env : Env} {s : Sto} (h : I 0 env s)
    (step : ∀ i x env s, ys[i]? = some x → I i env s → ∃ env1 env2 s2, g env x = some env1 ∧ b env1 s = .ok (.nx env2) s2 ∧ I (i + 1) env2 s2) :
    ∃ env' s', forGo g b ys env s = .ok (.nx env') s' ∧ I ys.length env' s' := by
  have := for_eqGo I ys 0 env s (fun i x env s hx hi => by
    rw [Nat.zero_add] at hi ⊢
    exact step i x env s hx hi) h
  rwa [Nat.zero_add] at this
/-- a comprehension whose parts draw nothing -/
theorem lc_eq {g : DG} {t : DT} {m : DE} {env : Env} {s : Sto} (f : Dat → Option Dat) : ∀ xs : List Dat,
    (∀ x ∈ xs, ∃ env1, g env x = some env1 ∧ ((f x = none ∧ t env1 s = .ok false s) ∨ (∃ d, f x = some d ∧ t env1 s = .ok true s ∧ m env1 s = .ok (.dat d) s))) → lcGo g t m env xs s = .ok (xs.filterMap f) s
  | [], _ => rfl
  | x :: xs, h => by
    obtain ⟨env1, e1, h1⟩ := h x List.mem_cons_self
    have ih := lc_eq f xs fun y hy => h y (List.mem_cons_of_mem _ hy)
    rw [lcGo, e1]
    show (t env1 s).bind _ = _
    rcases h1 with ⟨e2, e3⟩ | ⟨d, e2, e3, e4⟩
    · rw [e3, b_ok, if_neg (by decide), ih, List.filterMap_cons, e2]
    · rw [e3, b_ok, if_pos rfl, e4, b_ok]
      show (lcGo g t m env xs s).bind _ = _
      rw [ih, b_ok, List.filterMap_cons, e2]
theorem lc_map {g : DG} {t : DT} {m : DE} {env : Env} {s : Sto} (f : Dat → Dat) (xs : List Dat)
    (h : ∀ x ∈ xs, ∃ env1, g env x = some env1 ∧ t env1 s = .ok true s ∧ m env1 s = .ok (.dat (f x)) s) : lcGo g t m env xs s = .ok (xs.map f) s := by
  rw [lc_eq (fun x => some (f x)) xs fun x hx => let ⟨e, a, b, c⟩ := h x hx; ⟨e, a, .inr ⟨_, rfl, b, c⟩⟩]
  congr 1
  exact congrFun List.filterMap_eq_map xs
/-- a comprehension whose parts draw -/
theorem lc_wp {g : DG} {t : DT} {m : DE} {env : Env} {E : Exc → Sto → Prop} (I : Nat → List Dat → Sto → Prop) : ∀ (ys : List Dat) (j : Nat) (acc : List Dat) (s : Sto) (Q : List Dat → Sto → Prop),
    (∀ i x acc s, ys[i]? = some x → I (j + i) acc s → ∃ env1, g env x = some env1 ∧ (t env1 s).wp (fun k s1 => if k = true then (m env1 s1).wp (fun y s2 => ∃ d, y = .dat d ∧ I (j + i + 1) (acc ++ [d]) s2) E else I (j + i + 1) acc s1) E) →
    (∀ acc s, I (j + ys.length) acc s → Q acc s) → I j acc s → (lcGo g t m env ys s).wp (fun r s' => Q (acc ++ r) s') E
  | [], j, acc, s, Q, _, fin, h => by
    show Q (acc ++ []) s
    rw [List.append_nil]
    exact fin acc s h
  | x :: ys, j, acc, s, Q, step, fin, h => by
    obtain ⟨env1, e1, w⟩ := step 0 x acc s rfl h
    have nxt : ∀ acc' s', I (j + 0 + 1) acc' s' → (lcGo g t m env ys s').wp (fun r s' => Q (acc' ++ r) s') E := fun acc' s' q => lc_wp I ys (j + 1) acc' s' Q (fun i x acc s hx hi => by
      have := step (i + 1) x acc s hx (by rw [show j + (i + 1) = j + 1 + i by omega]; exact hi)
      rw [show j + (i + 1) = j + 1 + i by omega] at this
      exact this) (fun acc s hi => fin acc s (by rw [List.length_cons, show j + (ys.length + 1) = j + 1 + ys.length by omega]; exact hi)) q
    rw [lcGo, e1]
    show ((t env1 s).bind _).wp _ E
    rw [R.wp_bind]
    refine R.wp_mono (fun k s1 q => ?_) (fun _ _ z => z) _ w
    cases k with
    | false =>
      rw [if_neg (by decide)] at q ⊢
      exact nxt acc s1 q
    | true =>
      rw [if_pos rfl] at q ⊢
      rw [R.wp_bind]
      refine R.wp_mono (fun y s2 q2 => ?_) (fun _ _ z => z) _ q
      obtain ⟨d, rfl, q3⟩ := q2
      show ((lcGo g t m env ys s2).bind _).wp _ E
      rw [R.wp_bind]
      refine R.wp_mono (fun r s3 q4 => ?_) (fun _ _ z => z) _ (nxt _ s2 q3)
      show Q (acc ++ d :: r) s3
      rw [List.append_assoc] at q4
      exact q4
@[simp] theorem lc_cons (g : DG) (t : DT) (m : DE) (env : Env) (x : Dat) (xs : List Dat) (s : Sto) : lcGo g t m env (x :: xs) s = (match g env x with
    | some env1 => (t env1 s).bind fun b s1 => if b = true then (m env1 s1).bind fun y s2 => match y with
        | .dat d => (lcGo g t m env xs s2).bind fun r s3 => .ok (d :: r) s3
        | .ref _ => .fail
      else lcGo g t m env xs s1
    | none => .fail) := rfl
@[simp] theorem for_cons (g : DG) (b : DS) (x : Dat) (xs : List Dat) (env : Env) (s : Sto) : forGo g b (x :: xs) env s = (match g env x with
    | some env1 => (b env1 s).bind fun o s2 => match o with
      | .nx env' => forGo g b xs env' s2
      | .cnt env' => forGo g b xs env' s2
      | .brk env' => .ok (.nx env') s2
      | .ret v => .ok (.ret v) s2
    | none => .fail) := rfl
/-- a while that counts up from k to m -/
theorem while_up {c : DT} {b : DS} (I : Nat → Env → Sto → Prop) (m : Nat) (step : ∀ k env s, k < m → I k env s → ∃ s1 env2 s2, c env s = .ok true s1 ∧ b env s1 = .ok (.nx env2) s2 ∧ I (k + 1) env2 s2)
    (fin : ∀ env s, I m env s → ∃ s1, c env s = .ok false s1 ∧ I m env s1) : ∀ (d k fuel : Nat) (env : Env) (s : Sto), k + d = m → d < fuel → I k env s → ∃ env' s', sWhile fuel c b env s = .ok (.nx env') s' ∧ I m env' s'
  | 0, k, fuel + 1, env, s, hk, _, h => by
    obtain rfl : k = m := by omega
    obtain ⟨s1, e, q⟩ := fin env s h
    refine ⟨env, s1, ?_, q⟩
    show (c env s).bind _ = _
    rw [e]
    rfl
  | d + 1, k, fuel + 1, env, s, hk, hf, h => by
    obtain ⟨s1, env2, s2, e1, e2, q⟩ := step k env s (by omega) h
    obtain ⟨env', s', e3, q'⟩ := while_up I m step fin d (k + 1) fuel env2 s2 (by omega) (by omega) q
    refine ⟨env', s', ?_, q'⟩
    show (c env s).bind _ = _
    rw [e1, b_ok, if_pos rfl, e2]
    exact e3
theorem call1 {F : Fn} {Q : EV → Sto → Prop} {E : Exc → Sto → Prop} {g : Sto → Option Sto} : ∀ r : R Dat, r.wp (fun d s => ∃ s', g s = some s' ∧ Q (.dat d) s') noE → (outR g r).wp Q E
  | .ok d s, h => by
    obtain ⟨s', e, q⟩ := h
    unfold outR
    rw [e]
    exact q
  | .ex _ _, h => h.elim
  | .fail, h => h.elim
  | .pick n f, h => fun i hi => call1 (F := F) (f i) (h i hi)
  | .any p f, h => fun d hd => call1 (F := F) (f d) (h d hd)
theorem atI_int {α : Type} {xs : List α} {i : Int} {j : Nat} {v : α} (hi : i = (j : Int)) (h : xs[j]? = some v) : atI xs i = some v := by
  subst hi
  exact atI_nat h
theorem for_bind {β : Type} {g : DG} {b : DS} {k : Out → Sto → R β} {r : R β} (I : Nat → Env → Sto → Prop) {ys : List Dat} {env : Env} {s : Sto} (h : I 0 env s)
    (step : ∀ i x env s, ys[i]? = some x → I i env s → ∃ env1 env2 s2, g env x = some env1 ∧ b env1 s = .ok (.nx env2) s2 ∧ I (i + 1) env2 s2)
    (fin : ∀ env s, I ys.length env s → k (.nx env) s = r) : (forGo g b ys env s).bind k = r := by
  obtain ⟨env', s', e, q⟩ := for_eq I h step
  rw [e]
  exact fin env' s' q
theorem lc_bind {β : Type} {g : DG} {t : DT} {m : DE} {env : Env} {s : Sto} {k : List Dat → Sto → R β} {r : R β} (f : Dat → Dat) {xs : List Dat}
    (h : ∀ x ∈ xs, ∃ env1, g env x = some env1 ∧ t env1 s = .ok true s ∧ m env1 s = .ok (.dat (f x)) s) (fin : k (xs.map f) s = r) : (lcGo g t m env xs s).bind k = r := by
  rw [lc_map f xs h]
  exact fin
theorem lc_bindF {β : Type} {g : DG} {t : DT} {m : DE} {env : Env} {s : Sto} {k : List Dat → Sto → R β} {r : R β} (f : Dat → Option Dat) {xs : List Dat}
    (h : ∀ x ∈ xs, ∃ env1, g env x = some env1 ∧ ((f x = none ∧ t env1 s = .ok false s) ∨ (∃ d, f x = some d ∧ t env1 s = .ok true s ∧ m env1 s = .ok (.dat d) s))) (fin : k (xs.filterMap f) s = r) : (lcGo g t m env xs s).bind k = r := by
  rw [lc_eq f xs h]
  exact fin
@[simp] theorem at0 {α : Type} (x : α) (xs : List α) : atI (x :: xs) 0 = some x := atI_nat (j := 0) rfl
@[simp] theorem at1 {α : Type} (x y : α) (xs : List α) : atI (x :: y :: xs) 1 = some y := atI_nat (j := 1) rfl
@[simp] theorem at2 {α : Type} (x y z : α) (xs : List α) : atI (x :: y :: z :: xs) 2 = some z := atI_nat (j := 2) rfl
theorem at_map {α : Type} {f : α → Dat} {xs : List α} {j : Nat} {v : α} (h : xs[j]? = some v) : atI (xs.map f) (j : Int) = some (f v) := atI_nat (by rw [List.getElem?_map, h]; rfl)
theorem b_assoc {α β γ : Type} {f : α → Sto → R β} {g : β → Sto → R γ} : ∀ r : R α, (r.bind f).bind g = r.bind fun a s => (f a s).bind g
  | .ok _ _ => rfl
  | .ex _ _ => rfl
  | .fail => rfl
  | .pick n h => congrArg (R.pick n) (funext fun i => b_assoc (h i))
  | .any p h => congrArg (R.any p) (funext fun i => b_assoc (h i))
theorem lc_mapM {α : Type} {g : DG} {t : DT} {m : DE} {env : Env} {s : Sto} {h : α → Dat} (f : α → Dat) {xs : List α}
    (hy : ∀ x ∈ xs, ∃ env1, g env (h x) = some env1 ∧ t env1 s = .ok true s ∧ m env1 s = .ok (.dat (f x)) s) : lcGo g t m env (xs.map h) s = .ok (xs.map f) s := by
  induction xs with
  | nil => rfl
  | cons a r ih =>
    obtain ⟨e, h1, h2, h3⟩ := hy a List.mem_cons_self
    rw [List.map_cons, lcGo, h1]
    show (t e s).bind _ = _
    rw [h2, b_ok, if_pos rfl, h3, b_ok]
    show (lcGo g t m env (r.map h) s).bind _ = _
    rw [ih fun x hx => hy x (List.mem_cons_of_mem _ hx)]
    rfl
theorem lc_filM {α : Type} {g : DG} {t : DT} {m : DE} {env : Env} {s : Sto} {h : α → Dat} (p : α → Bool) (f : α → Dat) {xs : List α}
    (hy : ∀ x ∈ xs, ∃ env1, g env (h x) = some env1 ∧ t env1 s = .ok (p x) s ∧ (p x = true → m env1 s = .ok (.dat (f x)) s)) : lcGo g t m env (xs.map h) s = .ok ((xs.filter p).map f) s := by
  induction xs with
  | nil => rfl
  | cons a r ih =>
    obtain ⟨e, h1, h2, h3⟩ := hy a List.mem_cons_self
    have ih := ih fun x hx => hy x (List.mem_cons_of_mem _ hx)
    rw [List.map_cons, lcGo, h1]
    show (t e s).bind _ = _
    rw [h2, b_ok, List.filter_cons]
    cases hp : p a with
    | false =>
      rw [if_neg (by decide), if_neg (by decide)]
      exact ih
    | true =>
      rw [if_pos rfl, if_pos rfl, h3 hp, b_ok]
      show (lcGo g t m env (r.map h) s).bind _ = _
      rw [ih]
      rfl
@[simp] theorem sz_0 : (0 ≤ sizeLine) = True := eq_true (by decide)
@[simp] theorem sl_0 : (0 < sizeLine) = True := eq_true (by decide)
@[simp] theorem sz_1 : (1 ≤ sizeLine) = True := eq_true (by decide)
@[simp] theorem sl_1 : (1 < sizeLine) = True := eq_true (by decide)
@[simp] theorem sz_2 : (2 ≤ sizeLine) = True := eq_true (by decide)
@[simp] theorem sl_2 : (2 < sizeLine) = True := eq_true (by decide)
@[simp] theorem sz_3 : (3 ≤ sizeLine) = True := eq_true (by decide)
@[simp] theorem sl_3 : (3 < sizeLine) = True := eq_true (by decide)
@[simp] theorem sz_4 : (4 ≤ sizeLine) = True := eq_true (by decide)
@[simp] theorem sl_4 : (4 < sizeLine) = True := eq_true (by decide)
@[simp] theorem sz_5 : (5 ≤ sizeLine) = True := eq_true (by decide)
@[simp] theorem sl_5 : (5 < sizeLine) = True := eq_true (by decide)
@[simp] theorem sz_6 : (6 ≤ sizeLine) = True := eq_true (by decide)
@[simp] theorem sl_6 : (6 < sizeLine) = True := eq_true (by decide)
@[simp] theorem sz_7 : (7 ≤ sizeLine) = True := eq_true (by decide)
@[simp] theorem sl_7 : (7 < sizeLine) = True := eq_true (by decide)
@[simp] theorem sz_8 : (8 ≤ sizeLine) = True := eq_true (by decide)
@[simp] theorem sl_8 : (8 < sizeLine) = True := eq_true (by decide)
@[simp] theorem sz_9 : (9 ≤ sizeLine) = True := eq_true (by decide)
@[simp] theorem sl_9 : (9 < sizeLine) = True := eq_true (by decide)
@[simp] theorem sz_10 : (10 ≤ sizeLine) = True := eq_true (by decide)
@[simp] theorem sl_10 : (10 < sizeLine) = True := eq_true (by decide)
@[simp] theorem sz_11 : (11 ≤ sizeLine) = True := eq_true (by decide)
@[simp] theorem sl_11 : (11 < sizeLine) = True := eq_true (by decide)
@[simp] theorem sz_12 : (12 ≤ sizeLine) = True := eq_true (by decide)
@[simp] theorem sl_12 : (12 < sizeLine) = True := eq_true (by decide)
end Mx

/-! unfolding, for simp; data as lists of numbers -/
namespace Mx
open PySem PySem.Spec PyProof.Rows L2
@[simp] theorem u_fLc2 (src : DI) (own : List Nat) (g : DG) (ifs : DT) (src1 : DI) (own1 : List Nat) (g1 : DG) (ifs1 : DT) (elt : DE) (env : Env) (s : Sto) : fLc2 src own g ifs src1 own1 g1 ifs1 elt env s = (src env s).bind fun items s1 => if Nat.ble items.length 4096 = true then lc2Go g ifs src1 own1 g1 ifs1 elt (wipeE env own) items s1 else .fail := rfl
@[simp] theorem u_fLcC (c : Nat) (own : List Nat) (g : DG) (ifs : DT) (elt : DE) (env : Env) (s : Sto) : fLcC c own g ifs elt env s = (match env[c]? with
  | some (some (.ref i)) => match s[i]? with
    | some (.lst xs) => lcGo g ifs elt (wipeE env own) xs s
    | _ => .fail
  | _ => .fail) := rfl
@[simp] theorem u_fSortSet (m : DA) (env : Env) (s : Sto) : fSortSet m env s = (m env s).bind fun xs s1 => R.ofOpt ((intsOf s1 xs).map fun is => (sortU is).map .int) s1 := rfl
@[simp] theorem u_eLenSet (m : DA) (env : Env) (s : Sto) : eLenSet m env s = (m env s).bind fun xs s1 => liftD ((intsOf s1 xs).map fun is => .int ((sortU is).length : Nat)) s1 := rfl
@[simp] theorem u_intsT (s : Sto) (ds : List Dat) : intsOf s [.dat (.tuple ds)] = if ds.length < 64 then intsD ds else none := rfl
@[simp] theorem u_intsL (s : Sto) (ds : List Dat) : intsOf s [.dat (.list ds)] = if ds.length < 64 then intsD ds else none := rfl
@[simp] theorem u_sortAF (s : Sto) (xs : List EV) : sortAF s xs = (match sortIF s xs with
  | some r => some r
  | none => sortDF s xs) := rfl
@[simp] theorem u_sortDF (s : Sto) (ds : List Dat) : sortDF s [.dat (.list ds)] = if okS ds = true then some (sortD ds) else none := rfl
@[simp] theorem u_minAD (s : Sto) (xs : List EV) : minAD s xs = (match minD s xs with
  | some r => some r
  | none => bestF mnD s xs) := rfl
@[simp] theorem u_maxAD (s : Sto) (xs : List EV) : maxAD s xs = (match maxD s xs with
  | some r => some r
  | none => bestF mxD s xs) := rfl
@[simp] theorem drop_dat (i : Nat) (d : Dat) : dropRef i (some (.dat d)) = some (.dat d) := rfl
@[simp] theorem drop_ref (c i : Nat) : dropRef c (some (.ref i)) = if i = c then none else some (.ref i) := rfl
@[simp] theorem drop_none (i : Nat) : dropRef i none = none := rfl
@[simp] theorem u_sTE (is : List Nat) (m : DA) (env : Env) (s : Sto) : sTE is m env s = (m env s).bind fun vs s1 => match setAll env is vs with
  | some env' => .ok (.nx env') s1
  | none => .fail := rfl
@[simp] theorem u_set0 (env : Env) : setAll env [] [] = some env := rfl
@[simp] theorem u_set1 (env : Env) (i : Nat) (is : List Nat) (e : EV) (es : List EV) : setAll env (i :: is) (e :: es) = setAll (env.set i (some e)) is es := rfl
@[simp] theorem u_maxBD (s : Sto) (xs : List EV) : maxBD s xs = (match maxAD s xs with
  | some r => some r
  | none => bestTF maxL s xs) := rfl
@[simp] theorem u_minBD (s : Sto) (xs : List EV) : minBD s xs = (match minAD s xs with
  | some r => some r
  | none => bestTF minL s xs) := rfl
/-- two fors, no draws -/
theorem lc2_map {α : Type} {g : DG} {ifs : DT} {src1 : DI} {own1 : List Nat} {g1 : DG} {ifs1 : DT} {elt : DE} {env : Env} {s : Sto} {h : α → Dat} (f : α → List Dat) {xs : List α}
    (hy : ∀ x ∈ xs, ∃ env1 items, g env (h x) = some env1 ∧ ifs env1 s = .ok true s ∧ src1 env1 s = .ok items s ∧ Nat.ble items.length 4096 = true ∧ lcGo g1 ifs1 elt (wipeE env1 own1) items s = .ok (f x) s) : lc2Go g ifs src1 own1 g1 ifs1 elt env (xs.map h) s = .ok (xs.flatMap f) s := by
  induction xs with
  | nil => rfl
  | cons a r ih =>
    obtain ⟨e, items, h1, h2, h3, h4, h5⟩ := hy a List.mem_cons_self
    rw [List.map_cons, lc2Go, h1]
    show (ifs e s).bind _ = _
    rw [h2, b_ok, if_pos rfl, h3, b_ok, if_pos h4, h5, b_ok]
    rw [ih fun x hx => hy x (List.mem_cons_of_mem _ hx)]
    rfl
end Mx

set_option maxHeartbeats 4000000
namespace Lw
open PySem PySem.Spec PyProof.Rows L2 Mx
def topS (i : Nat) : Stmt := PySem.Challenge.pw_mexrooms_k50_whole_polars.main.body.getD i (.Pass ⟨0, 0, 0, 0⟩)
abbrev s_is_integer : Stmt := topS 1
theorem sc_is_integer : FnScope ["value"] ["value"] (defScope s_is_integer) := ⟨rfl, rfl, rfl, by decide +kernel, rfl, by decide +kernel, by decide +kernel⟩

abbrev s_is_in : Stmt := topS 2
theorem sc_is_in : FnScope ["value", "least", "most"] ["value", "least", "most"] (defScope s_is_in) := ⟨rfl, rfl, rfl, by decide +kernel, rfl, by decide +kernel, by decide +kernel⟩

abbrev s_is_list : Stmt := topS 3
theorem sc_is_list : FnScope ["value", "least", "most"] ["value", "least", "most"] (defScope s_is_list) := ⟨rfl, rfl, rfl, by decide +kernel, rfl, by decide +kernel, by decide +kernel⟩

abbrev s_need_doors : Stmt := topS 10
theorem sc_need_doors : FnScope ["size", "doors", "index", "door", "room"] ["size", "doors"] (defScope s_need_doors) := ⟨rfl, rfl, rfl, by decide +kernel, rfl, by decide +kernel, by decide +kernel⟩

abbrev s_need_house : Stmt := topS 11
theorem sc_need_house : FnScope ["house"] ["house"] (defScope s_need_house) := ⟨rfl, rfl, rfl, by decide +kernel, rfl, by decide +kernel, by decide +kernel⟩

abbrev s_need_set : Stmt := topS 12
theorem sc_need_set : FnScope ["house", "rooms", "room"] ["house", "rooms"] (defScope s_need_set) := ⟨rfl, rfl, rfl, by decide +kernel, rfl, by decide +kernel, by decide +kernel⟩

abbrev s_near : Stmt := topS 13
theorem sc_near : FnScope ["house", "found", "room", "one", "other", "row"] ["house"] (defScope s_near) := ⟨rfl, rfl, rfl, by decide +kernel, rfl, by decide +kernel, by decide +kernel⟩

abbrev s_is_largest : Stmt := topS 16
theorem sc_is_largest : FnScope ["rows", "rooms", "some", "other", "room"] ["rows", "rooms", "some"] (defScope s_is_largest) := ⟨rfl, rfl, rfl, by decide +kernel, rfl, by decide +kernel, by decide +kernel⟩

abbrev s_largest_in : Stmt := topS 15
theorem sc_largest_in : FnScope ["rows", "rooms", "found", "room", "some", "other"] ["rows", "rooms"] (defScope s_largest_in) := ⟨rfl, rfl, rfl, by decide +kernel, rfl, by decide +kernel, by decide +kernel⟩

abbrev s_largest_sets : Stmt := topS 17
theorem sc_largest_sets : FnScope ["house"] ["house"] (defScope s_largest_sets) := ⟨rfl, rfl, rfl, by decide +kernel, rfl, by decide +kernel, by decide +kernel⟩

abbrev s_apart_in : Stmt := topS 19
theorem sc_apart_in : FnScope ["rows", "rooms", "room", "other"] ["rows", "rooms"] (defScope s_apart_in) := ⟨rfl, rfl, rfl, by decide +kernel, rfl, by decide +kernel, by decide +kernel⟩

abbrev s_apart : Stmt := topS 20
theorem sc_apart : FnScope ["house", "rooms"] ["house", "rooms"] (defScope s_apart) := ⟨rfl, rfl, rfl, by decide +kernel, rfl, by decide +kernel, by decide +kernel⟩

abbrev s_closed_sets : Stmt := topS 21
theorem sc_closed_sets : FnScope ["house", "rows", "found", "some", "room", "one"] ["house"] (defScope s_closed_sets) := ⟨rfl, rfl, rfl, by decide +kernel, rfl, by decide +kernel, by decide +kernel⟩

abbrev s_closing : Stmt := topS 22
theorem sc_closing : FnScope ["house", "rooms", "rows"] ["house", "rooms"] (defScope s_closing) := ⟨rfl, rfl, rfl, by decide +kernel, rfl, by decide +kernel, by decide +kernel⟩

abbrev s__law_taken : Stmt := topS 24
theorem sc__law_taken : FnScope ["_law_row", "_law_many", "_law_found", "_law_cell"] ["_law_row", "_law_many"] (defScope s__law_taken) := ⟨rfl, rfl, rfl, by decide +kernel, rfl, by decide +kernel, by decide +kernel⟩

abbrev s__law_alike : Stmt := topS 25
theorem sc__law_alike : FnScope ["_law_found", "_law_due", "_law_k"] ["_law_found", "_law_due"] (defScope s__law_alike) := ⟨rfl, rfl, rfl, by decide +kernel, rfl, by decide +kernel, by decide +kernel⟩

abbrev s__law_house : Stmt := topS 26
theorem sc__law_house : FnScope ["_law_row", "_law_most", "_law_size", "_law_part", "_law_doors", "_law_one", "_law_other"] ["_law_row", "_law_most"] (defScope s__law_house) := ⟨rfl, rfl, rfl, by decide +kernel, rfl, by decide +kernel, by decide +kernel⟩

abbrev s__law_near : Stmt := topS 27
theorem sc__law_near : FnScope ["_law_house_here", "_law_found", "_law_room", "_law_one", "_law_other"] ["_law_house_here"] (defScope s__law_near) := ⟨rfl, rfl, rfl, by decide +kernel, rfl, by decide +kernel, by decide +kernel⟩

abbrev s__law_all : Stmt := topS 28
theorem sc__law_all : FnScope ["_law_sizes", "_law_found", "_law_size", "_law_longer", "_law_part", "_law_number"] ["_law_sizes"] (defScope s__law_all) := ⟨rfl, rfl, rfl, by decide +kernel, rfl, by decide +kernel, by decide +kernel⟩

abbrev s__law_apart : Stmt := topS 29
theorem sc__law_apart : FnScope ["_law_rows", "_law_rooms", "_law_room", "_law_other"] ["_law_rows", "_law_rooms"] (defScope s__law_apart) := ⟨rfl, rfl, rfl, by decide +kernel, rfl, by decide +kernel, by decide +kernel⟩

abbrev s_law : Stmt := topS 30
theorem sc_law : FnScope ["_law_script", "_law_row", "_law_house_here", "_law_rows", "_law_one", "_law_room", "_law_other", "_law_due", "_law_marks", "_law_found", "_law_rooms"] ["_law_script"] (defScope s_law) := ⟨rfl, rfl, rfl, by decide +kernel, rfl, by decide +kernel, by decide +kernel⟩

section
variable {P : Program} {w : World} {K : PySem.W.Frag} {mg : Str → Option Value} {base : Heap}
def d_is_integer : DS :=
  (sRet (eAnd (eIsi "int" (eV 0)) (eNot (eIsi "bool" (eV 0)))))
def F_is_integer : Fn := runB 1 1 d_is_integer
theorem ok_is_integer {f : Addr} {fd : FuncData} (Z : Bt mg) (F : Fun K "is_integer" "is_integer" s_is_integer f fd) (hm : mg "is_integer" = some (.ref f)) (hb : Binds K fd ["value"] []) : DefOk P w K mg base "is_integer" 1 ["value"] F_is_integer :=
  ⟨f, fd, fn_ok (k := 0) (EQ := fun _ _ _ _ => False) F sc_is_integer (Refn.refl _) (fun cdv A outer s H E hr =>
    (st_one (st_ret (pe_a (pe_isi (pe_v 0) (by rfl) Z.isinstance (by rfl) Z.int (by decide +kernel)) (pe_1 (pe_n (pe_isi (pe_v 0) (by rfl) Z.isinstance (by rfl) Z.bool (by decide +kernel)))))))), hm, F.kp, hb⟩

def d_is_in : DS :=
  (sRet (eAnd (eCall0 F_is_integer (aCons (eV 0) aNil)) (eChain leO leO (eV 1) (eV 0) (eV 2))))
def F_is_in : Fn := runB 3 3 d_is_in
theorem ok_is_in {f : Addr} {fd : FuncData} (Z : Bt mg) (F : Fun K "is_in" "is_in" s_is_in f fd) (hm : mg "is_in" = some (.ref f)) (hb : Binds K fd ["value", "least", "most"] []) (D_is_integer : DefOk P w K mg base "is_integer" 1 ["value"] F_is_integer) : DefOk P w K mg base "is_in" 2 ["value", "least", "most"] F_is_in :=
  ⟨f, fd, fn_ok (k := 1) (EQ := fun _ _ _ _ => False) F sc_is_in (Refn.refl _) (fun cdv A outer s H E hr =>
    (st_one (st_ret (pe_a (pe_k0 D_is_integer hr (pa_1 (pe_v 0) pa_0)) (pe_1 (pe_ch (op_leO hr.units0) (op_leO hr.units0) od_ord od_ord (pe_v 1) (pe_v 0) (pe_v 2))))))), hm, F.kp, hb⟩

def d_is_list : DS :=
  (sRet (eAnd (eIsi "tuple" (eV 0)) (eChain leO leO (eV 1) (eB lenD (aCons (eV 0) aNil)) (eV 2))))
def F_is_list : Fn := runB 3 3 d_is_list
theorem ok_is_list {f : Addr} {fd : FuncData} (Z : Bt mg) (F : Fun K "is_list" "is_list" s_is_list f fd) (hm : mg "is_list" = some (.ref f)) (hb : Binds K fd ["value", "least", "most"] []) : DefOk P w K mg base "is_list" 1 ["value", "least", "most"] F_is_list :=
  ⟨f, fd, fn_ok (k := 0) (EQ := fun _ _ _ _ => False) F sc_is_list (Refn.refl _) (fun cdv A outer s H E hr =>
    (st_one (st_ret (pe_a (pe_isi (pe_v 0) (by rfl) Z.isinstance (by rfl) Z.tuple (by decide +kernel)) (pe_1 (pe_ch (op_leO hr.units0) (op_leO hr.units0) od_ord od_ord (pe_v 1) (pe_b cr_len cd_len (by rfl) Z.len (by decide +kernel) (pa_1 (pe_v 0) pa_0)) (pe_v 2))))))), hm, F.kp, hb⟩

def d_need_doors : DS :=
  (sSeq (sIf (tNotD (tru (eCall0 F_is_list (aCons (eV 1) (aCons (eC (.int 0)) (aCons (e2 fdivD (e2 mulD (eC (.int 8)) (e2 subD (eC (.int 8)) (eC (.int 1)))) (eC (.int 2))) aNil)))))) sNever sNil) (sFor (dEnum (eV 1)) (gT (gsC (gN 2) (gsC (gN 3) gs0))) (sSeq (sIf (tOrD (tNotD (tru (eCall0 F_is_list (aCons (eV 3) (aCons (eC (.int 2)) (aCons (eC (.int 2)) aNil)))))) (tOrD (tNotD (tru (eB allD (aCons (eFrz (fLc (dI (eV 3)) [4] (gN 4) tYesD (eCall0 F_is_in (aCons (eV 4) (aCons (eC (.int 0)) (aCons (e2 subD (eV 0) (eC (.int 1))) aNil)))))) aNil)))) (tru (e2 geO (e2 ixD (eV 3) (eC (.int 0))) (e2 ixD (eV 3) (eC (.int 1))))))) sNever sNil) (sIf (tAndD (tru (e2 gtO (eV 2) (eC (.int 0)))) (tru (e2 geO (e2 ixD (eV 1) (e2 subD (eV 2) (eC (.int 1)))) (eV 3)))) sNever sNil))))
def F_need_doors : Fn := runB 5 2 d_need_doors
theorem ok_need_doors {f : Addr} {fd : FuncData} (Z : Bt mg) (F : Fun K "need_doors" "need_doors" s_need_doors f fd) (hm : mg "need_doors" = some (.ref f)) (hb : Binds K fd ["size", "doors"] []) {t_MOST_ROOMS : Tok} (c_MOST_ROOMS : mg "MOST_ROOMS" = some (.int 8 t_MOST_ROOMS)) (D_is_in : DefOk P w K mg base "is_in" 2 ["value", "least", "most"] F_is_in) (D_is_list : DefOk P w K mg base "is_list" 1 ["value", "least", "most"] F_is_list) : DefOk P w K mg base "need_doors" 3 ["size", "doors"] F_need_doors :=
  ⟨f, fd, fn_ok (k := 2) (EQ := fun _ _ _ _ => False) F sc_need_doors (Refn.refl _) (fun cdv A outer s H E hr =>
    (st_cons (st_if (pt_n (pt_v (pe_k0 D_is_list hr (pa_1 (pe_v 1) (pa_1 pe_ci (pa_1 (pe_e2 op_fdivN od_fdiv (pe_e2 op_mulA od_mul (pe_gi (by rfl) c_MOST_ROOMS) (pe_e2 op_sub od_sub (pe_gi (by rfl) c_MOST_ROOMS) pe_ci)) pe_ci) pa_0)))))) (st_one st_never) st_nil) (st_one (st_for (vs := [2, 3]) PassesOwn.never rfl (pi_en (by rfl) Z.enumerate (pe_v 1)) (pg_t rfl (pgs_1 (pg_n 2 sc_need_doors.nd) (pgs_1 (pg_n 3 sc_need_doors.nd) pgs_0)) rfl rfl (gs_lenC (gs_lenC gs_len0))) (st_cons (st_if (PW.pt (pw_o (pt_n (pt_v (pe_k0 D_is_list hr (pa_1 (pe_v 3) (pa_1 pe_ci (pa_1 pe_ci pa_0)))))) (pw_o (pt_n (pt_v (pe_b (cr_all rfl) cd_all (by rfl) Z.all (by decide +kernel) (pa_1 (pe_frz (pf_lc (own := [("room", 4)]) rfl sc_need_doors.nd (pi_d (pe_v 3)) (blkOk_by (by rfl)) (fun _ _ _ _ _ => (pg_n 4 sc_need_doors.nd)) (fun _ _ _ _ _ => pts_0) (fun _ _ _ _ _ => (pe_k0 D_is_in hr (pa_1 (pe_v 4) (pa_1 pe_ci (pa_1 (pe_e2 op_sub od_sub (pe_v 0) pe_ci) pa_0))))))) pa_0)))) (pw_1o (pt_c2 (op_geO hr.units0) od_ord (pe_ix2 (u9 hr) (pe_v 3) pe_ci) (pe_ix2 (u9 hr) (pe_v 3) pe_ci) (nomark _)))))) (st_one st_never) st_nil) (st_one (st_if (PW.pt (pw_a (pt_c2 (op_gtO hr.units0) od_ord (pe_v 2) pe_ci (nomark _)) (pw_1a (pt_c2 (op_geO hr.units0) od_ord (pe_ix2 (u9 hr) (pe_v 1) (pe_e2 op_sub od_sub (pe_v 2) pe_ci)) (pe_v 3) (nomark _))))) (st_one st_never) st_nil))))))), hm, F.kp, hb⟩

def d_need_house : DS :=
  (sSeq (sIf (tNotD (tru (eCall0 F_is_list (aCons (eV 0) (aCons (eC (.int 2)) (aCons (eC (.int 2)) aNil)))))) sNever sNil) (sSeq (sIf (tNotD (tru (eCall0 F_is_in (aCons (e2 ixD (eV 0) (eC (.int 0))) (aCons (eC (.int 1)) (aCons (eC (.int 8)) aNil)))))) sNever sNil) (sEx (eCall0 F_need_doors (aCons (e2 ixD (eV 0) (eC (.int 0))) (aCons (e2 ixD (eV 0) (eC (.int 1))) aNil))))))
def F_need_house : Fn := runB 1 1 d_need_house
theorem ok_need_house {f : Addr} {fd : FuncData} (Z : Bt mg) (F : Fun K "need_house" "need_house" s_need_house f fd) (hm : mg "need_house" = some (.ref f)) (hb : Binds K fd ["house"] []) {t_MOST_ROOMS : Tok} (c_MOST_ROOMS : mg "MOST_ROOMS" = some (.int 8 t_MOST_ROOMS)) (D_is_in : DefOk P w K mg base "is_in" 2 ["value", "least", "most"] F_is_in) (D_is_list : DefOk P w K mg base "is_list" 1 ["value", "least", "most"] F_is_list) (D_need_doors : DefOk P w K mg base "need_doors" 3 ["size", "doors"] F_need_doors) : DefOk P w K mg base "need_house" 4 ["house"] F_need_house :=
  ⟨f, fd, fn_ok (k := 3) (EQ := fun _ _ _ _ => False) F sc_need_house (Refn.refl _) (fun cdv A outer s H E hr =>
    (st_cons (st_if (pt_n (pt_v (pe_k0 D_is_list hr (pa_1 (pe_v 0) (pa_1 pe_ci (pa_1 pe_ci pa_0)))))) (st_one st_never) st_nil) (st_cons (st_if (pt_n (pt_v (pe_k0 D_is_in hr (pa_1 (pe_ix2 (u9 hr) (pe_v 0) pe_ci) (pa_1 pe_ci (pa_1 (pe_gi (by rfl) c_MOST_ROOMS) pa_0)))))) (st_one st_never) st_nil) (st_one (st_ex (pe_k0 D_need_doors hr (pa_1 (pe_ix2 (u9 hr) (pe_v 0) pe_ci) (pa_1 (pe_ix2 (u9 hr) (pe_v 0) pe_ci) pa_0)))))))), hm, F.kp, hb⟩

def d_need_set : DS :=
  (sSeq (sIf (tOrD (tNotD (tru (eCall0 F_is_list (aCons (eV 1) (aCons (eC (.int 0)) (aCons (e2 ixD (eV 0) (eC (.int 0))) aNil)))))) (tNotD (tru (eB allD (aCons (eFrz (fLc (dI (eV 1)) [2] (gN 2) tYesD (eCall0 F_is_in (aCons (eV 2) (aCons (eC (.int 0)) (aCons (e2 subD (e2 ixD (eV 0) (eC (.int 0))) (eC (.int 1))) aNil)))))) aNil))))) sNever sNil) (sIf (tru (e2 neD (eFrz (fB lstF (aCons (eV 1) aNil))) (eFrz (fSortSetB (aCons (eV 1) aNil))))) sNever sNil))
def F_need_set : Fn := runB 3 2 d_need_set
theorem ok_need_set {f : Addr} {fd : FuncData} (Z : Bt mg) (F : Fun K "need_set" "need_set" s_need_set f fd) (hm : mg "need_set" = some (.ref f)) (hb : Binds K fd ["house", "rooms"] []) (D_is_in : DefOk P w K mg base "is_in" 2 ["value", "least", "most"] F_is_in) (D_is_list : DefOk P w K mg base "is_list" 1 ["value", "least", "most"] F_is_list) : DefOk P w K mg base "need_set" 3 ["house", "rooms"] F_need_set :=
  ⟨f, fd, fn_ok (k := 2) (EQ := fun _ _ _ _ => False) F sc_need_set (Refn.refl _) (fun cdv A outer s H E hr =>
    (st_cons (st_if (PW.pt (pw_o (pt_n (pt_v (pe_k0 D_is_list hr (pa_1 (pe_v 1) (pa_1 pe_ci (pa_1 (pe_ix2 (u9 hr) (pe_v 0) pe_ci) pa_0)))))) (pw_1o (pt_n (pt_v (pe_b (cr_all rfl) cd_all (by rfl) Z.all (by decide +kernel) (pa_1 (pe_frz (pf_lc (own := [("room", 2)]) rfl sc_need_set.nd (pi_d (pe_v 1)) (blkOk_by (by rfl)) (fun _ _ _ _ _ => (pg_n 2 sc_need_set.nd)) (fun _ _ _ _ _ => pts_0) (fun _ _ _ _ _ => (pe_k0 D_is_in hr (pa_1 (pe_v 2) (pa_1 pe_ci (pa_1 (pe_e2 op_sub od_sub (pe_ix2 (u9 hr) (pe_v 0) pe_ci) pe_ci) pa_0))))))) pa_0))))))) (st_one st_never) st_nil) (st_one (st_if (pt_c2 (op_neD hr.units) od_ne (pe_frz (pf_ty call_list_of cf_lst (by rfl) Z.list (by decide +kernel) (pa_1 (pe_v 1) pa_0))) (pe_frz (pf_sortSetB rfl (by rfl) Z.sorted (by rfl) Z.set (pa_1 (pe_v 1) pa_0))) (nomark _)) (st_one st_never) st_nil)))), hm, F.kp, hb⟩

def d_near : DS :=
  (sSeq (sSet 1 (eLsl (dRg (g1 (e2 ixD (eV 0) (eC (.int 0))))) [2] (gN 2))) (sSeq (sFor (dI (e2 ixD (eV 0) (eC (.int 1)))) (gT (gsC (gN 3) (gsC (gN 4) gs0))) (sSeq (sEx (eAppAt 1 (eV 3) (eV 4))) (sEx (eAppAt 1 (eV 4) (eV 3))))) (sSeq (sFrz 1) (sRet (eFrz (fLc (dI (eV 1)) [5] (gN 5) tYesD (eFrz (fB sortAF (aCons (eV 5) aNil)))))))))
def F_near : Fn := runB 6 1 d_near
theorem ok_near {f : Addr} {fd : FuncData} (Z : Bt mg) (F : Fun K "near" "near" s_near f fd) (hm : mg "near" = some (.ref f)) (hb : Binds K fd ["house"] []) : DefOk P w K mg base "near" 1 ["house"] F_near :=
  ⟨f, fd, fn_ok (k := 0) (EQ := fun _ _ _ _ => False) F sc_near (Refn.refl _) (fun cdv A outer s H E hr =>
    (st_cons (st_setLsl (own := [("room", 2)]) 1 rfl sc_near.nd (pi_r1 (by rfl) Z.range (pe_ix2 (u9 hr) (pe_v 0) pe_ci)) (blkOk_by (by rfl)) (fun _ _ _ _ _ => (pg_n 2 sc_near.nd))) (st_cons (st_for (vs := [3, 4]) PassesOwn.never rfl (pi_d (pe_ix2 (u9 hr) (pe_v 0) pe_ci)) (pg_t rfl (pgs_1 (pg_n 3 sc_near.nd) (pgs_1 (pg_n 4 sc_near.nd) pgs_0)) rfl rfl (gs_lenC (gs_lenC gs_len0))) (st_cons (st_ex (pe_appAt 1 (pe_v 3) (pe_v 4))) (st_one (st_ex (pe_appAt 1 (pe_v 4) (pe_v 3)))))) (st_frz 1 (st_one (st_ret (pe_frz (pf_lc (own := [("row", 5)]) rfl sc_near.nd (pi_d (pe_v 1)) (blkOk_by (by rfl)) (fun _ _ _ _ _ => (pg_n 5 sc_near.nd)) (fun _ _ _ _ _ => pts_0) (fun _ _ _ _ _ => (pe_frz (pf_b (cr_sortedA2 (u65 hr)) cf_sortA (by rfl) Z.sorted (by decide +kernel) (pa_1 (pe_v 5) pa_0)))))))))))), hm, F.kp, hb⟩

def d_is_largest : DS :=
  (sRet (eB allD (aCons (eFrz (fLc (dI (eV 1)) [4] (gN 4) tYesD (eOr (e2 inO (eV 4) (eV 2)) (eB anyD (aCons (eFrz (fLc (dI (e2 ixD (eV 0) (eV 4))) [3] (gN 3) tYesD (e2 inO (eV 3) (eV 2)))) aNil))))) aNil)))
def F_is_largest : Fn := runB 5 3 d_is_largest
theorem ok_is_largest {f : Addr} {fd : FuncData} (Z : Bt mg) (F : Fun K "is_largest" "is_largest" s_is_largest f fd) (hm : mg "is_largest" = some (.ref f)) (hb : Binds K fd ["rows", "rooms", "some"] []) : DefOk P w K mg base "is_largest" 1 ["rows", "rooms", "some"] F_is_largest :=
  ⟨f, fd, fn_ok (k := 0) (EQ := fun _ _ _ _ => False) F sc_is_largest (Refn.refl _) (fun cdv A outer s H E hr =>
    (st_one (st_ret (pe_b (cr_all rfl) cd_all (by rfl) Z.all (by decide +kernel) (pa_1 (pe_frz (pf_lc (own := [("room", 4)]) rfl sc_is_largest.nd (pi_d (pe_v 1)) (blkOk_by (by rfl)) (fun _ _ _ _ _ => (pg_n 4 sc_is_largest.nd)) (fun _ _ _ _ _ => pts_0) (fun _ _ _ _ _ => (pe_o (pe_c2 (op_inA (u65 hr)) od_in (pe_v 4) (pe_v 2) (by rfl)) (pe_1 (pe_b (cr_any rfl) cd_any (by rfl) Z.any (by decide +kernel) (pa_1 (pe_frz (pf_lc (own := [("other", 3)]) rfl sc_is_largest.nd (pi_d (pe_ix2 (u9 hr) (pe_v 0) (pe_v 4))) (blkOk_by (by rfl)) (fun _ _ _ _ _ => (pg_n 3 sc_is_largest.nd)) (fun _ _ _ _ _ => pts_0) (fun _ _ _ _ _ => (pe_c2 (op_inA (u65 hr)) od_in (pe_v 3) (pe_v 2) (by rfl))))) pa_0))))))) pa_0))))), hm, F.kp, hb⟩

def d_largest_in : DS :=
  (sSeq (sSet 2 (eNew (fLst (aCons (eTup aNil) aNil)))) (sSeq (sFor (dI (eV 1)) (gN 3) (sEx (eMt extF (eV 2) (aCons (eFrz (fLcC 2 [4] (gN 4) (tNotD (tru (eB anyD (aCons (eFrz (fLc (dI (e2 ixD (eV 0) (eV 3))) [5] (gN 5) tYesD (e2 inO (eV 5) (eV 4)))) aNil)))) (eTup (aStar (eV 4) (aCons (eV 3) aNil))))) aNil)))) (sSeq (sFrz 2) (sRet (eFrz (fB sortAF (aCons (eFrz (fLc (dI (eV 2)) [4] (gN 4) (tru (eCall0 F_is_largest (aCons (eV 0) (aCons (eV 1) (aCons (eV 4) aNil))))) (eV 4))) aNil)))))))
def F_largest_in : Fn := runB 6 2 d_largest_in
theorem ok_largest_in {f : Addr} {fd : FuncData} (Z : Bt mg) (F : Fun K "largest_in" "largest_in" s_largest_in f fd) (hm : mg "largest_in" = some (.ref f)) (hb : Binds K fd ["rows", "rooms"] []) (D_is_largest : DefOk P w K mg base "is_largest" 1 ["rows", "rooms", "some"] F_is_largest) : DefOk P w K mg base "largest_in" 2 ["rows", "rooms"] F_largest_in :=
  ⟨f, fd, fn_ok (k := 1) (EQ := fun _ _ _ _ => False) F sc_largest_in (Refn.refl _) (fun cdv A outer s H E hr =>
    (st_cons (st_set 2 sc_largest_in.nd (pe_new (pf_l (pa_1 (pe_t pa_0) pa_0)))) (st_cons (st_for (vs := [3]) PassesOwn.never rfl (pi_d (pe_v 1)) (pg_n 3 sc_largest_in.nd) (st_one (st_ex (pe_mt mt_extend md_ext PySem.F.slot_list_extend PySem.F.type_list_extend (pe_v 2) (pa_1 (pe_frz (pf_lcC (own := [("some", 4)]) 2 rfl sc_largest_in.nd (blkOk_by (by rfl)) (fun _ _ _ _ _ => (pg_n 4 sc_largest_in.nd)) (fun _ _ _ _ _ => (pts_1 (pt_n (pt_v (pe_b (cr_any rfl) cd_any (by rfl) Z.any (by decide +kernel) (pa_1 (pe_frz (pf_lc (own := [("other", 5)]) rfl sc_largest_in.nd (pi_d (pe_ix2 (u9 hr) (pe_v 0) (pe_v 3))) (blkOk_by (by rfl)) (fun _ _ _ _ _ => (pg_n 5 sc_largest_in.nd)) (fun _ _ _ _ _ => pts_0) (fun _ _ _ _ _ => (pe_c2 (op_inA (u65 hr)) od_in (pe_v 5) (pe_v 4) (by rfl))))) pa_0)))))) (fun _ _ _ _ _ => (pe_t (pa_s (pe_v 4) (pa_1 (pe_v 3) pa_0)))) (by repeat' (first | exact still_v _ | exact still_c _ | exact still_yes | exact still_a0 | apply still_2 | apply still_1 | apply still_a1 | apply still_as | apply still_t | apply still_l | apply still_frz | apply still_b | apply still_fb | apply still_tru | apply still_not | apply still_and | apply still_or | apply still_vand | apply still_vor | apply still_if | apply still_k0 | apply still_di | apply still_lc)) (by repeat' (first | exact still_v _ | exact still_c _ | exact still_yes | exact still_a0 | apply still_2 | apply still_1 | apply still_a1 | apply still_as | apply still_t | apply still_l | apply still_frz | apply still_b | apply still_fb | apply still_tru | apply still_not | apply still_and | apply still_or | apply still_vand | apply still_vor | apply still_if | apply still_k0 | apply still_di | apply still_lc)))) pa_0))))) (st_frz 2 (st_one (st_ret (pe_frz (pf_b (cr_sortedA2 (u65 hr)) cf_sortA (by rfl) Z.sorted (by decide +kernel) (pa_1 (pe_frz (pf_lc (own := [("some", 4)]) rfl sc_largest_in.nd (pi_d (pe_v 2)) (blkOk_by (by rfl)) (fun _ _ _ _ _ => (pg_n 4 sc_largest_in.nd)) (fun _ _ _ _ _ => (pts_1 (pt_v (pe_k0 D_is_largest hr (pa_1 (pe_v 0) (pa_1 (pe_v 1) (pa_1 (pe_v 4) pa_0))))))) (fun _ _ _ _ _ => (pe_v 4)))) pa_0))))))))), hm, F.kp, hb⟩

def d_largest_sets : DS :=
  (sSeq (sEx (eCall0 F_need_house (aCons (eV 0) aNil))) (sRet (eCall0 F_largest_in (aCons (eCall0 F_near (aCons (eV 0) aNil)) (aCons (eTupRg (g1 (e2 ixD (eV 0) (eC (.int 0))))) aNil)))))
def F_largest_sets : Fn := runB 1 1 d_largest_sets
theorem ok_largest_sets {f : Addr} {fd : FuncData} (Z : Bt mg) (F : Fun K "largest_sets" "largest_sets" s_largest_sets f fd) (hm : mg "largest_sets" = some (.ref f)) (hb : Binds K fd ["house"] []) (D_largest_in : DefOk P w K mg base "largest_in" 2 ["rows", "rooms"] F_largest_in) (D_near : DefOk P w K mg base "near" 1 ["house"] F_near) (D_need_house : DefOk P w K mg base "need_house" 4 ["house"] F_need_house) : DefOk P w K mg base "largest_sets" 5 ["house"] F_largest_sets :=
  ⟨f, fd, fn_ok (k := 4) (EQ := fun _ _ _ _ => False) F sc_largest_sets (Refn.refl _) (fun cdv A outer s H E hr =>
    (st_cons (st_ex (pe_k0 D_need_house hr (pa_1 (pe_v 0) pa_0))) (st_one (st_ret (pe_k0 D_largest_in hr (pa_1 (pe_k0 D_near hr (pa_1 (pe_v 0) pa_0)) (pa_1 (pe_tupRg' rfl (by rfl) Z.tuple (pr_1 (by rfl) Z.range (pe_ix2 (u9 hr) (pe_v 0) pe_ci))) pa_0))))))), hm, F.kp, hb⟩

def d_apart_in : DS :=
  (sRet (eB tupD (aCons (eFrz (fLc (dRg (g1 (eB lenD (aCons (eV 0) aNil)))) [2] (gN 2) (tNotD (tru (eB anyD (aCons (eFrz (fLc (dI (e2 ixD (eV 0) (eV 2))) [3] (gN 3) tYesD (e2 inO (eV 3) (eV 1)))) aNil)))) (eV 2))) aNil)))
def F_apart_in : Fn := runB 4 2 d_apart_in
theorem ok_apart_in {f : Addr} {fd : FuncData} (Z : Bt mg) (F : Fun K "apart_in" "apart_in" s_apart_in f fd) (hm : mg "apart_in" = some (.ref f)) (hb : Binds K fd ["rows", "rooms"] []) : DefOk P w K mg base "apart_in" 1 ["rows", "rooms"] F_apart_in :=
  ⟨f, fd, fn_ok (k := 0) (EQ := fun _ _ _ _ => False) F sc_apart_in (Refn.refl _) (fun cdv A outer s H E hr =>
    (st_one (st_ret (pe_ty call_tuple_of cd_tup (by rfl) Z.tuple (by decide +kernel) (pa_1 (pe_frz (pf_lc (own := [("room", 2)]) rfl sc_apart_in.nd (pi_r1 (by rfl) Z.range (pe_b cr_len cd_len (by rfl) Z.len (by decide +kernel) (pa_1 (pe_v 0) pa_0))) (blkOk_by (by rfl)) (fun _ _ _ _ _ => (pg_n 2 sc_apart_in.nd)) (fun _ _ _ _ _ => (pts_1 (pt_n (pt_v (pe_b (cr_any rfl) cd_any (by rfl) Z.any (by decide +kernel) (pa_1 (pe_frz (pf_lc (own := [("other", 3)]) rfl sc_apart_in.nd (pi_d (pe_ix2 (u9 hr) (pe_v 0) (pe_v 2))) (blkOk_by (by rfl)) (fun _ _ _ _ _ => (pg_n 3 sc_apart_in.nd)) (fun _ _ _ _ _ => pts_0) (fun _ _ _ _ _ => (pe_c2 (op_inA (u65 hr)) od_in (pe_v 3) (pe_v 1) (by rfl))))) pa_0)))))) (fun _ _ _ _ _ => (pe_v 2)))) pa_0))))), hm, F.kp, hb⟩

def d_apart : DS :=
  (sSeq (sEx (eCall0 F_need_house (aCons (eV 0) aNil))) (sSeq (sEx (eCall0 F_need_set (aCons (eV 0) (aCons (eV 1) aNil)))) (sRet (eCall0 F_apart_in (aCons (eCall0 F_near (aCons (eV 0) aNil)) (aCons (eV 1) aNil))))))
def F_apart : Fn := runB 2 2 d_apart
theorem ok_apart {f : Addr} {fd : FuncData} (Z : Bt mg) (F : Fun K "apart" "apart" s_apart f fd) (hm : mg "apart" = some (.ref f)) (hb : Binds K fd ["house", "rooms"] []) (D_apart_in : DefOk P w K mg base "apart_in" 1 ["rows", "rooms"] F_apart_in) (D_near : DefOk P w K mg base "near" 1 ["house"] F_near) (D_need_house : DefOk P w K mg base "need_house" 4 ["house"] F_need_house) (D_need_set : DefOk P w K mg base "need_set" 3 ["house", "rooms"] F_need_set) : DefOk P w K mg base "apart" 5 ["house", "rooms"] F_apart :=
  ⟨f, fd, fn_ok (k := 4) (EQ := fun _ _ _ _ => False) F sc_apart (Refn.refl _) (fun cdv A outer s H E hr =>
    (st_cons (st_ex (pe_k0 D_need_house hr (pa_1 (pe_v 0) pa_0))) (st_cons (st_ex (pe_k0 D_need_set hr (pa_1 (pe_v 0) (pa_1 (pe_v 1) pa_0)))) (st_one (st_ret (pe_k0 D_apart_in hr (pa_1 (pe_k0 D_near hr (pa_1 (pe_v 0) pa_0)) (pa_1 (pe_v 1) pa_0)))))))), hm, F.kp, hb⟩

def d_closed_sets : DS :=
  (sSeq (sEx (eCall0 F_need_house (aCons (eV 0) aNil))) (sSeq (sPar 1 2 (aCons (eCall0 F_near (aCons (eV 0) aNil)) (aCons eNewD aNil))) (sSeq (sSet 3 (eNew (fLst (aCons (eTup aNil) aNil)))) (sSeq (sFor (dRg (g1 (e2 ixD (eV 0) (eC (.int 0))))) (gN 4) (sEx (eMt extF (eV 3) (aCons (eFrz (fLcC 3 [5] (gN 5) tYesD (eTup (aStar (eV 5) (aCons (eV 4) aNil))))) aNil)))) (sSeq (sFrz 3) (sSeq (sFor (dI (eV 3)) (gN 5) (sPutD (eV 2) (eCall0 F_apart_in (aCons (eV 1) (aCons (eV 5) aNil))) (eC (.bool true)))) (sRet (eFrz (fB sortEF (aCons (eFrz (fB lstDF (aCons (eV 2) aNil))) aNil))))))))))
def F_closed_sets : Fn := runB 6 1 d_closed_sets
theorem ok_closed_sets {f : Addr} {fd : FuncData} (Z : Bt mg) (F : Fun K "closed_sets" "closed_sets" s_closed_sets f fd) (hm : mg "closed_sets" = some (.ref f)) (hb : Binds K fd ["house"] []) (D_apart_in : DefOk P w K mg base "apart_in" 1 ["rows", "rooms"] F_apart_in) (D_near : DefOk P w K mg base "near" 1 ["house"] F_near) (D_need_house : DefOk P w K mg base "need_house" 4 ["house"] F_need_house) : DefOk P w K mg base "closed_sets" 5 ["house"] F_closed_sets :=
  ⟨f, fd, fn_ok (k := 4) (EQ := fun _ _ _ _ => False) F sc_closed_sets (Refn.refl _) (fun cdv A outer s H E hr =>
    (st_cons (st_ex (pe_k0 D_need_house hr (pa_1 (pe_v 0) pa_0))) (st_cons (st_par 1 2 rfl sc_closed_sets.nd (pa_1 (pe_k0 D_near hr (pa_1 (pe_v 0) pa_0)) (pa_1 pe_newD pa_0))) (st_cons (st_set 3 sc_closed_sets.nd (pe_new (pf_l (pa_1 (pe_t pa_0) pa_0)))) (st_cons (st_for (vs := [4]) PassesOwn.never rfl (pi_r1 (by rfl) Z.range (pe_ix2 (u9 hr) (pe_v 0) pe_ci)) (pg_n 4 sc_closed_sets.nd) (st_one (st_ex (pe_mt mt_extend md_ext PySem.F.slot_list_extend PySem.F.type_list_extend (pe_v 3) (pa_1 (pe_frz (pf_lcC (own := [("one", 5)]) 3 rfl sc_closed_sets.nd (blkOk_by (by rfl)) (fun _ _ _ _ _ => (pg_n 5 sc_closed_sets.nd)) (fun _ _ _ _ _ => pts_0) (fun _ _ _ _ _ => (pe_t (pa_s (pe_v 5) (pa_1 (pe_v 4) pa_0)))) (by repeat' (first | exact still_v _ | exact still_c _ | exact still_yes | exact still_a0 | apply still_2 | apply still_1 | apply still_a1 | apply still_as | apply still_t | apply still_l | apply still_frz | apply still_b | apply still_fb | apply still_tru | apply still_not | apply still_and | apply still_or | apply still_vand | apply still_vor | apply still_if | apply still_k0 | apply still_di | apply still_lc)) (by repeat' (first | exact still_v _ | exact still_c _ | exact still_yes | exact still_a0 | apply still_2 | apply still_1 | apply still_a1 | apply still_as | apply still_t | apply still_l | apply still_frz | apply still_b | apply still_fb | apply still_tru | apply still_not | apply still_and | apply still_or | apply still_vand | apply still_vor | apply still_if | apply still_k0 | apply still_di | apply still_lc)))) pa_0))))) (st_frz 3 (st_cons (st_for (vs := [5]) PassesOwn.never rfl (pi_d (pe_v 3)) (pg_n 5 sc_closed_sets.nd) (st_one (st_putD (u9 hr) (pe_v 2) (pe_k0 D_apart_in hr (pa_1 (pe_v 1) (pa_1 (pe_v 5) pa_0))) pe_cb))) (st_one (st_ret (pe_frz (pf_b (cr_sortedTup (u65 hr)) cf_sortE (by rfl) Z.sorted (by decide +kernel) (pa_1 (pe_frz (pf_ty (call_list_DD rfl) cf_lstD (by rfl) Z.list (by decide +kernel) (pa_1 (pe_v 2) pa_0))) pa_0)))))))))))), hm, F.kp, hb⟩

def d_closing : DS :=
  (sSeq (sEx (eCall0 F_need_house (aCons (eV 0) aNil))) (sSeq (sEx (eCall0 F_need_set (aCons (eV 0) (aCons (eV 1) aNil)))) (sSeq (sSet 2 (eCall0 F_near (aCons (eV 0) aNil))) (sRet (eCall0 F_apart_in (aCons (eV 2) (aCons (eCall0 F_apart_in (aCons (eV 2) (aCons (eV 1) aNil))) aNil)))))))
def F_closing : Fn := runB 3 2 d_closing
theorem ok_closing {f : Addr} {fd : FuncData} (Z : Bt mg) (F : Fun K "closing" "closing" s_closing f fd) (hm : mg "closing" = some (.ref f)) (hb : Binds K fd ["house", "rooms"] []) (D_apart_in : DefOk P w K mg base "apart_in" 1 ["rows", "rooms"] F_apart_in) (D_near : DefOk P w K mg base "near" 1 ["house"] F_near) (D_need_house : DefOk P w K mg base "need_house" 4 ["house"] F_need_house) (D_need_set : DefOk P w K mg base "need_set" 3 ["house", "rooms"] F_need_set) : DefOk P w K mg base "closing" 5 ["house", "rooms"] F_closing :=
  ⟨f, fd, fn_ok (k := 4) (EQ := fun _ _ _ _ => False) F sc_closing (Refn.refl _) (fun cdv A outer s H E hr =>
    (st_cons (st_ex (pe_k0 D_need_house hr (pa_1 (pe_v 0) pa_0))) (st_cons (st_ex (pe_k0 D_need_set hr (pa_1 (pe_v 0) (pa_1 (pe_v 1) pa_0)))) (st_cons (st_set 2 sc_closing.nd (pe_k0 D_near hr (pa_1 (pe_v 0) pa_0))) (st_one (st_ret (pe_k0 D_apart_in hr (pa_1 (pe_v 2) (pa_1 (pe_k0 D_apart_in hr (pa_1 (pe_v 2) (pa_1 (pe_v 1) pa_0))) pa_0))))))))), hm, F.kp, hb⟩

theorem ok__law_taken {f : Addr} {fd : FuncData} (Z : Bt mg) (F : Fun K "_law_taken" "_law_taken" s__law_taken f fd) (hm : mg "_law_taken" = some (.ref f)) (hb : Binds K fd ["_law_row", "_law_many"] []) : DefOk P w K mg base "_law_taken" 1 ["_law_row", "_law_many"] takenF := by
  refine ⟨f, fd, ?_, hm, F.kp, hb⟩
  refine F.ok (k := 0) sc__law_taken (fun vs H Q E h => ?_) (fun cdv A outer s H vs Q E hr h => ?_)
  · obtain ⟨a, l, ns, i, x, y, n, rfl, _⟩ := taken_open h
    rfl
  obtain ⟨a, l, ns, i, x, y, n, rfl, ha, hl, hi, hx, hx', hn, hn', q⟩ := taken_open h
  refine ⟨_, pss_cons (ps_if (pt_cmpR op_gt (pe_ix ix_list (pv 0) L2.pe_int (fun _ _ => rfl)) L2.pe_int (nomark _))
      (pss_cons (ps_set (i := 2) sc__law_taken.nd rfl (.inl rfl) (pe_op op_mod (pe_callTy call_int1 (by rfl) Z.int (by decide +kernel) (pa_cons (pe_ix ix_list (pv 0) L2.pe_int (fun _ _ => rfl)) pa_nil)) (pv 1)))
      (pss_cons (ps_asg (pe_op op_fdiv (pe_ix ix_list (pv 0) L2.pe_int (fun _ _ => rfl)) (pv 1)) (pg_sub (pv 0) L2.pe_int set_list))
      (pss_one (ps_ret (pv 2))))) pss_nil)
    (pss_cons (ps_asg (pe_op op_add (pe_ix ix_list (pv 0) L2.pe_int (fun _ _ => rfl)) L2.pe_int) (pg_sub (pv 0) L2.pe_int set_list))
    (pss_cons (ps_if (pt_cmpR op_gt (pe_ix ix_list (pv 0) L2.pe_int (fun _ _ => rfl)) (pe_callB call_len_seq (by rfl) Z.len PySem.boot_len (pa_cons (pe_ix ix_list (pv 0) L2.pe_int (fun _ _ => rfl)) pa_nil)) (nomark _))
      (pss_cons (ps_asg (pe_op op_mod (pe_callTy call_int1 (by rfl) Z.int (by decide +kernel) (pa_cons (pe_op op_add (pe_op op_mul (pe_ix ix_list (pv 0) L2.pe_int (fun _ _ => rfl)) L2.pe_int) L2.pe_int) pa_nil)) L2.pe_int) (pg_sub (pv 0) L2.pe_int set_list))
      (pss_one (ps_ret (pe_op op_mod (pe_callTy call_int1 (by rfl) Z.int (by decide +kernel) (pa_cons (pe_op op_fdiv (pe_ix ix_list (pv 0) L2.pe_int (fun _ _ => rfl)) L2.pe_int) pa_nil)) (pv 1))))) pss_nil)
    (pss_cons (ps_set (i := 3) sc__law_taken.nd rfl (.inl rfl) (pe_ix ix_list (pe_ix ix_list (pv 0) L2.pe_int (fun _ _ => rfl)) (pe_op op_sub (pe_ix ix_list (pv 0) L2.pe_int (fun _ _ => rfl)) L2.pe_int) (fun _ _ => rfl)))
    (pss_cons (ps_asg (pe_op op_mod (pe_callTy call_int1 (by rfl) Z.int (by decide +kernel) (pa_cons (pe_op op_add (pe_op op_add (pe_op op_mul (pe_ix ix_list (pv 0) L2.pe_int (fun _ _ => rfl)) L2.pe_int) (pv 3)) L2.pe_int) pa_nil)) L2.pe_int) (pg_sub (pv 0) L2.pe_int set_list))
    (pss_cons (ps_if (pt_cmpR op_ge (pv 3) (pe_op op_pow L2.pe_int L2.pe_int) (nomark _))
      (pss_one (ps_asg (pe_op op_fdiv (pv 3) (pv 1)) (pg_sub (pv 0) L2.pe_int set_list))) pss_nil)
    (pss_one (ps_ret (pe_op op_mod (pe_callTy call_int1 (by rfl) Z.int (by decide +kernel) (pa_cons (pv 3) pa_nil)) (pv 1))))))))), ?_⟩
  refine ⟨_, rfl, a, _, 3, .int y, rfl, rfl, SqL.of ha, atI_nat (j := 3) rfl, y, 0, rfl, rfl, _, rfl, ?_⟩
  by_cases hy : (0 : Int) < y
  · rw [decide_eq_true hy]
    refine iteT ⟨_, rfl, a, _, 3, .int y, rfl, rfl, SqL.of ha, atI_nat (j := 3) rfl, .inl ⟨y, rfl, ?_⟩⟩
    refine ⟨_, rfl, y, n, rfl, rfl, by show (0 : Int) < n; omega, ?_⟩
    refine ⟨_, rfl, a, _, 3, .int y, rfl, rfl, SqL.of ha, atI_nat (j := 3) rfl, _, rfl, y, n, rfl, rfl, ⟨by omega, by omega⟩, ?_⟩
    refine ⟨_, rfl, a, _, 3, 3, rfl, rfl, ha, rfl, ?_⟩
    refine ⟨_, rfl, ?_⟩
    exact q i x (y / n) (y % n) hi hx hx' (Int.emod_nonneg _ (by omega)) (Int.emod_lt_of_pos _ (by omega))
  · rw [decide_eq_false hy]
    refine iteF ?_
    refine ⟨_, rfl, a, _, 1, .int i, rfl, rfl, SqL.of ha, atI_nat (j := 1) rfl, i, 1, rfl, rfl, ?_⟩
    refine ⟨_, rfl, a, _, 1, 1, rfl, rfl, ha, rfl, ?_⟩
    have hl1 := hl (upd H a (.lst [.ref l, .int (i + 1), .int x, .int y])) fun b u hb e => by rw [upd_ne hb]; exact e
    have ha1 : (upd H a (.lst [.ref l, .int (i + 1), .int x, .int y])) a = some (.lst [.ref l, .int (i + 1), .int x, .int y]) := upd_same
    refine ⟨_, rfl, a, _, 1, .int (i + 1), rfl, rfl, SqL.of ha1, atI_nat (j := 1) rfl, _, rfl, a, _, 0, .ref l, rfl, rfl, SqL.of ha1, atI_nat (j := 0) rfl, l, _, rfl, .inl hl1, i + 1, _, rfl, rfl, _, rfl, ?_⟩
    by_cases hc : (((ns.map V.int).length : Nat) : Int) < i + 1
    · rw [decide_eq_true hc]
      refine iteT ?_
      refine ⟨_, rfl, a, _, 2, .int x, rfl, rfl, SqL.of ha1, atI_nat (j := 2) rfl, x, 48271, rfl, rfl, .inl ⟨by omega, by omega⟩, _, 11, rfl, rfl, .inl ⟨_, rfl, ?_⟩⟩
      refine ⟨_, 2147483647, rfl, rfl, by show (0 : Int) < 2147483647; decide, ?_⟩
      refine ⟨_, rfl, a, _, 2, 2, rfl, rfl, ha1, rfl, ?_⟩
      have ha2 : (upd (upd H a (.lst [.ref l, .int (i + 1), .int x, .int y])) a (.lst [.ref l, .int (i + 1), .int ((x * 48271 + 11) % 2147483647), .int y])) a = some (.lst [.ref l, .int (i + 1), .int ((x * 48271 + 11) % 2147483647), .int y]) := upd_same
      refine ⟨_, rfl, a, _, 2, .int ((x * 48271 + 11) % 2147483647), rfl, rfl, SqL.of ha2, atI_nat (j := 2) rfl, _, 7, rfl, rfl, ⟨by decide, by decide⟩, .inl ⟨_, rfl, ?_⟩⟩
      refine ⟨_, rfl, _, n, rfl, rfl, by show (0 : Int) < n; omega, ?_⟩
      have e := q (i + 1) ((x * 48271 + 11) % 2147483647) y ((x * 48271 + 11) % 2147483647 / 7 % n) (by omega) (Int.emod_nonneg _ (by decide)) (Int.emod_lt_of_pos _ (by decide)) (Int.emod_nonneg _ (by omega)) (Int.emod_lt_of_pos _ (by omega))
      rw [← upd_upd (o := .lst [.ref l, .int (i + 1), .int x, .int y])] at e
      exact e
    · rw [decide_eq_false hc]
      refine iteF ?_
      rw [List.length_map] at hc
      obtain ⟨c, hcell⟩ : ∃ c, ns[i.toNat]? = some c := ⟨_, List.getElem?_eq_getElem (by omega)⟩
      have hat : atI (ns.map V.int) (i + 1 - 1) = some (.int c) := by
        have e : i + 1 - 1 = ((i.toNat : Nat) : Int) := by omega
        rw [e]
        exact atI_nat (by rw [List.getElem?_map, hcell]; rfl)
      refine ⟨_, rfl, a, _, 0, .ref l, rfl, rfl, SqL.of ha1, atI_nat (j := 0) rfl, _, rfl, a, _, 1, .int (i + 1), rfl, rfl, SqL.of ha1, atI_nat (j := 1) rfl, i + 1, 1, rfl, rfl, l, _, _, .int c, rfl, rfl, hl1, hat, ?_⟩
      refine ⟨_, rfl, a, _, 2, .int x, rfl, rfl, SqL.of ha1, atI_nat (j := 2) rfl, x, 48271, rfl, rfl, .inl ⟨by omega, by omega⟩, _, rfl, _, c, rfl, rfl, _, 11, rfl, rfl, .inl ⟨_, rfl, ?_⟩⟩
      refine ⟨_, 2147483647, rfl, rfl, by show (0 : Int) < 2147483647; decide, ?_⟩
      refine ⟨_, rfl, a, _, 2, 2, rfl, rfl, ha1, rfl, ?_⟩
      have ha2 : (upd (upd H a (.lst [.ref l, .int (i + 1), .int x, .int y])) a (.lst [.ref l, .int (i + 1), .int ((x * 48271 + c + 11) % 2147483647), .int y])) a = some (.lst [.ref l, .int (i + 1), .int ((x * 48271 + c + 11) % 2147483647), .int y]) := upd_same
      have p1 : (0 : Int) ≤ (x * 48271 + c + 11) % 2147483647 := Int.emod_nonneg _ (by decide)
      have p2 : (x * 48271 + c + 11) % 2147483647 < 2147483647 := Int.emod_lt_of_pos _ (by decide)
      refine ⟨_, rfl, 10, 18, rfl, rfl, ⟨by decide, by decide, by decide⟩, c, _, rfl, rfl, _, rfl, ?_⟩
      refine ite2 (fun _ => ?_) fun _ => ?_
      · refine ⟨_, rfl, _, rfl, c, n, rfl, rfl, ⟨by omega, by omega⟩, ?_⟩
        refine ⟨_, rfl, a, _, 3, 3, rfl, rfl, ha2, rfl, ?_⟩
        refine ⟨_, rfl, .inl ⟨c, rfl, ?_⟩⟩
        refine ⟨_, rfl, c, n, rfl, rfl, by show (0 : Int) < n; omega, ?_⟩
        have e := q (i + 1) ((x * 48271 + c + 11) % 2147483647) (c / n) (c % n) (by omega) p1 p2 (Int.emod_nonneg _ (by omega)) (Int.emod_lt_of_pos _ (by omega))
        rw [← upd_upd (o := .lst [.ref l, .int (i + 1), .int x, .int y])] at e
        rw [← upd_upd (H := upd H a (.lst [.ref l, .int (i + 1), .int x, .int y])) (o := .lst [.ref l, .int (i + 1), .int ((x * 48271 + c + 11) % 2147483647), .int y])] at e
        exact e
      · refine ⟨_, rfl, .inl ⟨c, rfl, ?_⟩⟩
        refine ⟨_, rfl, c, n, rfl, rfl, by show (0 : Int) < n; omega, ?_⟩
        have e := q (i + 1) ((x * 48271 + c + 11) % 2147483647) y (c % n) (by omega) p1 p2 (Int.emod_nonneg _ (by omega)) (Int.emod_lt_of_pos _ (by omega))
        rw [← upd_upd (o := .lst [.ref l, .int (i + 1), .int x, .int y])] at e
        exact e

def d__law_alike (rec : Fn) : DS :=
  (sSeq (sIf (tru (eIsi2 "tuple" "list" (eV 1))) (sSeq (sIf (tOrD (tNotD (tru (eIsi2 "tuple" "list" (eV 0)))) (tru (e2 neD (eIsi "list" (eV 0)) (eIsi "list" (eV 1))))) (sRet (eC (.bool false))) sNil) (sSeq (sIf (tru (e2 neD (eB lenD (aCons (eV 0) aNil)) (eB lenD (aCons (eV 1) aNil)))) (sRet (eC (.bool false))) sNil) (sRet (e2 eqD (eFrz (fLc (dRg (g1 (eB lenD (aCons (eV 1) aNil)))) [2] (gN 2) (tNotD (tru (eCall0 rec (aCons (e2 ixD (eV 0) (eV 2)) (aCons (e2 ixD (eV 1) (eV 2)) aNil))))) (eV 2))) (eFrz (fLst aNil)))))) sNil) (sSeq (sIf (tOrD (tru (e2 isNO (eV 1) (eC .none))) (tru (eIsi "str" (eV 1)))) (sRet (eAnd (e2 eqD (eV 0) (eV 1)) (e2 eqD (eIsi "str" (eV 0)) (eIsi "str" (eV 1))))) sNil) (sRet (eAnd (eIsi "int" (eV 0)) (eAnd (e2 eqD (eIsi "bool" (eV 0)) (eIsi "bool" (eV 1))) (e2 eqD (eV 0) (eV 1)))))))
def F__law_alike_1 (rec : Fn) : Fn := runB 3 2 (d__law_alike rec)
def F__law_alike_n : Nat → Fn
  | 0 => neverF
  | n + 1 => F__law_alike_1 (F__law_alike_n n)
abbrev F__law_alike : Fn := F__law_alike_n 5
theorem step__law_alike {f : Addr} {fd : FuncData} (Z : Bt mg) (F : Fun K "_law_alike" "_law_alike" s__law_alike f fd) (hm : mg "_law_alike" = some (.ref f)) (hb : Binds K fd ["_law_found", "_law_due"] []) {k : Nat} {rec : Fn} (D__law_alike : DefOk P w K mg base "_law_alike" k ["_law_found", "_law_due"] rec) : DefOk P w K mg base "_law_alike" (k + 1) ["_law_found", "_law_due"] (F__law_alike_1 rec) := by
  exact ⟨f, fd, fn_ok (k := k) (EQ := fun _ _ _ _ => False) F sc__law_alike (Refn.refl _) (fun cdv A outer s H E hr =>
    (st_cons (st_if (pt_v (pe_isi2 (pe_v 1) (by rfl) Z.isinstance (by rfl) Z.tuple (by decide +kernel) (by rfl) Z.list (by decide +kernel))) (st_cons (st_if (PW.pt (pw_o (pt_n (pt_v (pe_isi2 (pe_v 0) (by rfl) Z.isinstance (by rfl) Z.tuple (by decide +kernel) (by rfl) Z.list (by decide +kernel)))) (pw_1o (pt_c2 (op_neD hr.units) od_ne (pe_isi (pe_v 0) (by rfl) Z.isinstance (by rfl) Z.list (by decide +kernel)) (pe_isi (pe_v 1) (by rfl) Z.isinstance (by rfl) Z.list (by decide +kernel)) (nomark _))))) (st_one (st_ret pe_cb)) st_nil) (st_cons (st_if (pt_c2 (op_neD hr.units) od_ne (pe_b cr_len cd_len (by rfl) Z.len (by decide +kernel) (pa_1 (pe_v 0) pa_0)) (pe_b cr_len cd_len (by rfl) Z.len (by decide +kernel) (pa_1 (pe_v 1) pa_0)) (nomark _)) (st_one (st_ret pe_cb)) st_nil) (st_one (st_ret (pe_c2 (op_eqD hr.units) od_eq (pe_frz (pf_lc (own := [("_law_k", 2)]) rfl sc__law_alike.nd (pi_r1 (by rfl) Z.range (pe_b cr_len cd_len (by rfl) Z.len (by decide +kernel) (pa_1 (pe_v 1) pa_0))) (blkOk_by (by rfl)) (fun _ _ _ _ _ => (pg_n 2 sc__law_alike.nd)) (fun _ _ _ _ _ => (pts_1 (pt_n (pt_v (pe_k0 (hj := Nat.le_refl _) D__law_alike hr (pa_1 (pe_ix2 (u9 hr) (pe_v 0) (pe_v 2)) (pa_1 (pe_ix2 (u9 hr) (pe_v 1) (pe_v 2)) pa_0))))))) (fun _ _ _ _ _ => (pe_v 2)))) (pe_frz (pf_l pa_0)) (nomark _)))))) st_nil) (st_cons (st_if (PW.pt (pw_o (pt_c2 op_isN od_isN (pe_v 1) pe_cn (nomark _)) (pw_1o (pt_v (pe_isi (pe_v 1) (by rfl) Z.isinstance (by rfl) Z.str (by decide +kernel)))))) (st_one (st_ret (pe_a (pe_c2 (op_eqD hr.units) od_eq (pe_v 0) (pe_v 1) (nomark _)) (pe_1 (pe_c2 (op_eqD hr.units) od_eq (pe_isi (pe_v 0) (by rfl) Z.isinstance (by rfl) Z.str (by decide +kernel)) (pe_isi (pe_v 1) (by rfl) Z.isinstance (by rfl) Z.str (by decide +kernel)) (nomark _)))))) st_nil) (st_one (st_ret (pe_a (pe_isi (pe_v 0) (by rfl) Z.isinstance (by rfl) Z.int (by decide +kernel)) (pe_a (pe_c2 (op_eqD hr.units) od_eq (pe_isi (pe_v 0) (by rfl) Z.isinstance (by rfl) Z.bool (by decide +kernel)) (pe_isi (pe_v 1) (by rfl) Z.isinstance (by rfl) Z.bool (by decide +kernel)) (nomark _)) (pe_1 (pe_c2 (op_eqD hr.units) od_eq (pe_v 0) (pe_v 1) (nomark _)))))))))), hm, F.kp, hb⟩
theorem okn__law_alike {f : Addr} {fd : FuncData} (Z : Bt mg) (F : Fun K "_law_alike" "_law_alike" s__law_alike f fd) (hm : mg "_law_alike" = some (.ref f)) (hb : Binds K fd ["_law_found", "_law_due"] []) : ∀ n : Nat, DefOk P w K mg base "_law_alike" (n + 1) ["_law_found", "_law_due"] (F__law_alike_n n)
  | 0 => (ok_never F sc__law_alike hm hb : DefOk P w K mg base "_law_alike" 1 ["_law_found", "_law_due"] neverF).mono (by omega)
  | n + 1 => step__law_alike Z F hm hb (okn__law_alike Z F hm hb n)
theorem ok__law_alike {f : Addr} {fd : FuncData} (Z : Bt mg) (F : Fun K "_law_alike" "_law_alike" s__law_alike f fd) (hm : mg "_law_alike" = some (.ref f)) (hb : Binds K fd ["_law_found", "_law_due"] []) : DefOk P w K mg base "_law_alike" 6 ["_law_found", "_law_due"] F__law_alike := okn__law_alike Z F hm hb 5

def d__law_house : DS :=
  (sSeq (sSet 2 (e2 addD (eC (.int 1)) (eCall1 takenF (aCons (eV 0) (aCons (eV 1) aNil))))) (sSeq (sPar 3 4 (aCons (e2 addD (eC (.int 1)) (eCall1 takenF (aCons (eV 0) (aCons (eC (.int 4)) aNil)))) (aCons (eNew (fLst aNil)) aNil))) (sSeq (sFor (dRg (g1 (eV 2))) (gN 5) (sFor (dRg (g2 (e2 addD (eV 5) (eC (.int 1))) (eV 2))) (gN 6) (sIf (tru (e2 ltO (eCall1 takenF (aCons (eV 0) (aCons (eC (.int 5)) aNil))) (eV 3))) (sEx (eMt appF (eV 4) (aCons (eTup (aCons (eV 5) (aCons (eV 6) aNil))) aNil))) sNil))) (sRet (eTup (aCons (eV 2) (aCons (eB tupD (aCons (eV 4) aNil)) aNil)))))))
def F__law_house : Fn := runB 7 2 d__law_house
theorem ok__law_house {f : Addr} {fd : FuncData} (Z : Bt mg) (F : Fun K "_law_house" "_law_house" s__law_house f fd) (hm : mg "_law_house" = some (.ref f)) (hb : Binds K fd ["_law_row", "_law_most"] []) (D__law_taken : DefOk P w K mg base "_law_taken" 1 ["_law_row", "_law_many"] takenF) : DefOk P w K mg base "_law_house" 2 ["_law_row", "_law_most"] F__law_house :=
  ⟨f, fd, fn_ok (k := 1) (EQ := fun _ _ _ _ => False) F sc__law_house (Refn.refl _) (fun cdv A outer s H E hr =>
    (st_cons (st_set 2 sc__law_house.nd (pe_e2 op_addA od_add pe_ci (pe_k1 D__law_taken hr (pa_1 (pe_v 0) (pa_1 (pe_v 1) pa_0))))) (st_cons (st_par 3 4 rfl sc__law_house.nd (pa_1 (pe_e2 op_addA od_add pe_ci (pe_k1 D__law_taken hr (pa_1 (pe_v 0) (pa_1 pe_ci pa_0)))) (pa_1 (pe_new (pf_l pa_0)) pa_0))) (st_cons (st_for (vs := [5]) PassesOwn.never rfl (pi_r1 (by rfl) Z.range (pe_v 2)) (pg_n 5 sc__law_house.nd) (st_one (st_for (vs := [6]) PassesOwn.never rfl (pi_r2 (by rfl) Z.range (pe_e2 op_addA od_add (pe_v 5) pe_ci) (pe_v 2)) (pg_n 6 sc__law_house.nd) (st_one (st_if (pt_c2 (op_ltO hr.units0) od_ord (pe_k1 D__law_taken hr (pa_1 (pe_v 0) (pa_1 pe_ci pa_0))) (pe_v 3) (nomark _)) (st_one (st_ex (pe_mt mt_append md_app PySem.F.slot_list_append PySem.F.type_list_append (pe_v 4) (pa_1 (pe_t (pa_1 (pe_v 5) (pa_1 (pe_v 6) pa_0))) pa_0)))) st_nil))))) (st_one (st_ret (pe_t (pa_1 (pe_v 2) (pa_1 (pe_ty call_tuple_of cd_tup (by rfl) Z.tuple (by decide +kernel) (pa_1 (pe_v 4) pa_0)) pa_0))))))))), hm, F.kp, hb⟩

def d__law_near : DS :=
  (sSeq (sSet 1 (eLsl (dRg (g1 (e2 ixD (eV 0) (eC (.int 0))))) [2] (gN 2))) (sSeq (sFor (dI (e2 ixD (eV 0) (eC (.int 1)))) (gT (gsC (gN 3) (gsC (gN 4) gs0))) (sSeq (sEx (eAppAt 1 (eV 3) (eV 4))) (sEx (eAppAt 1 (eV 4) (eV 3))))) (sRet (eV 1))))
def F__law_near : Fn := runB 5 1 d__law_near
theorem ok__law_near {f : Addr} {fd : FuncData} (Z : Bt mg) (F : Fun K "_law_near" "_law_near" s__law_near f fd) (hm : mg "_law_near" = some (.ref f)) (hb : Binds K fd ["_law_house_here"] []) : DefOk P w K mg base "_law_near" 1 ["_law_house_here"] F__law_near :=
  ⟨f, fd, fn_ok (k := 0) (EQ := fun _ _ _ _ => False) F sc__law_near (Refn.refl _) (fun cdv A outer s H E hr =>
    (st_cons (st_setLsl (own := [("_law_room", 2)]) 1 rfl sc__law_near.nd (pi_r1 (by rfl) Z.range (pe_ix2 (u9 hr) (pe_v 0) pe_ci)) (blkOk_by (by rfl)) (fun _ _ _ _ _ => (pg_n 2 sc__law_near.nd))) (st_cons (st_for (vs := [3, 4]) PassesOwn.never rfl (pi_d (pe_ix2 (u9 hr) (pe_v 0) pe_ci)) (pg_t rfl (pgs_1 (pg_n 3 sc__law_near.nd) (pgs_1 (pg_n 4 sc__law_near.nd) pgs_0)) rfl rfl (gs_lenC (gs_lenC gs_len0))) (st_cons (st_ex (pe_appAt 1 (pe_v 3) (pe_v 4))) (st_one (st_ex (pe_appAt 1 (pe_v 4) (pe_v 3)))))) (st_one (st_ret (pe_v 1)))))), hm, F.kp, hb⟩

def d__law_all : DS :=
  (sSeq (sSet 1 (eFrz (fLst (aCons (eTup aNil) aNil)))) (sSeq (sFor (dI (eV 0)) (gN 2) (sSeq (sSet 3 (eFrz (fLst aNil))) (sSeq (sFor (dI (eV 1)) (gN 4) (sSet 3 (e2 addD (eV 3) (eFrz (fLc (dRg (g1 (eV 2))) [5] (gN 5) tYesD (e2 addD (eV 4) (eTup (aCons (eV 5) aNil)))))))) (sSet 1 (eV 3))))) (sRet (eV 1))))
def F__law_all : Fn := runB 6 1 d__law_all
theorem ok__law_all {f : Addr} {fd : FuncData} (Z : Bt mg) (F : Fun K "_law_all" "_law_all" s__law_all f fd) (hm : mg "_law_all" = some (.ref f)) (hb : Binds K fd ["_law_sizes"] []) : DefOk P w K mg base "_law_all" 1 ["_law_sizes"] F__law_all :=
  ⟨f, fd, fn_ok (k := 0) (EQ := fun _ _ _ _ => False) F sc__law_all (Refn.refl _) (fun cdv A outer s H E hr =>
    (st_cons (st_set 1 sc__law_all.nd (pe_frz (pf_l (pa_1 (pe_t pa_0) pa_0)))) (st_cons (st_for (vs := [2]) PassesOwn.never rfl (pi_d (pe_v 0)) (pg_n 2 sc__law_all.nd) (st_cons (st_set 3 sc__law_all.nd (pe_frz (pf_l pa_0))) (st_cons (st_for (vs := [4]) PassesOwn.never rfl (pi_d (pe_v 1)) (pg_n 4 sc__law_all.nd) (st_one (st_set 3 sc__law_all.nd (pe_e2 op_addA od_add (pe_v 3) (pe_frz (pf_lc (own := [("_law_number", 5)]) rfl sc__law_all.nd (pi_r1 (by rfl) Z.range (pe_v 2)) (blkOk_by (by rfl)) (fun _ _ _ _ _ => (pg_n 5 sc__law_all.nd)) (fun _ _ _ _ _ => pts_0) (fun _ _ _ _ _ => (pe_e2 op_addA od_add (pe_v 4) (pe_t (pa_1 (pe_v 5) pa_0)))))))))) (st_one (st_set 1 sc__law_all.nd (pe_v 3)))))) (st_one (st_ret (pe_v 1)))))), hm, F.kp, hb⟩

def d__law_apart : DS :=
  (sRet (eB tupD (aCons (eFrz (fLc (dRg (g1 (eB lenD (aCons (eV 0) aNil)))) [2] (gN 2) (tru (e2 eqD (eFrz (fLc (dI (e2 ixD (eV 0) (eV 2))) [3] (gN 3) (tru (e2 inO (eV 3) (eV 1))) (eV 3))) (eFrz (fLst aNil)))) (eV 2))) aNil)))
def F__law_apart : Fn := runB 4 2 d__law_apart
theorem ok__law_apart {f : Addr} {fd : FuncData} (Z : Bt mg) (F : Fun K "_law_apart" "_law_apart" s__law_apart f fd) (hm : mg "_law_apart" = some (.ref f)) (hb : Binds K fd ["_law_rows", "_law_rooms"] []) : DefOk P w K mg base "_law_apart" 1 ["_law_rows", "_law_rooms"] F__law_apart :=
  ⟨f, fd, fn_ok (k := 0) (EQ := fun _ _ _ _ => False) F sc__law_apart (Refn.refl _) (fun cdv A outer s H E hr =>
    (st_one (st_ret (pe_ty call_tuple_of cd_tup (by rfl) Z.tuple (by decide +kernel) (pa_1 (pe_frz (pf_lc (own := [("_law_room", 2)]) rfl sc__law_apart.nd (pi_r1 (by rfl) Z.range (pe_b cr_len cd_len (by rfl) Z.len (by decide +kernel) (pa_1 (pe_v 0) pa_0))) (blkOk_by (by rfl)) (fun _ _ _ _ _ => (pg_n 2 sc__law_apart.nd)) (fun _ _ _ _ _ => (pts_1 (pt_c2 (op_eqD hr.units) od_eq (pe_frz (pf_lc (own := [("_law_other", 3)]) rfl sc__law_apart.nd (pi_d (pe_ix2 (u9 hr) (pe_v 0) (pe_v 2))) (blkOk_by (by rfl)) (fun _ _ _ _ _ => (pg_n 3 sc__law_apart.nd)) (fun _ _ _ _ _ => (pts_1 (pt_c2 (op_inA (u65 hr)) od_in (pe_v 3) (pe_v 1) (by rfl)))) (fun _ _ _ _ _ => (pe_v 3)))) (pe_frz (pf_l pa_0)) (nomark _)))) (fun _ _ _ _ _ => (pe_v 2)))) pa_0))))), hm, F.kp, hb⟩

def d_law : DS :=
  (sSeq (sSet 2 (eCall1 F__law_house (aCons (eV 1) (aCons (eC (.int 7)) aNil)))) (sSeq (sSet 3 (eCall0 F__law_near (aCons (eV 2) aNil))) (sSeq (sSet 4 (eB tupD (aCons (eFrz (fLc (dRg (g1 (e2 ixD (eV 2) (eC (.int 0))))) [5] (gN 5) (tru (e2 eqD (eCall1 takenF (aCons (eV 1) (aCons (eC (.int 2)) aNil))) (eC (.int 0)))) (eV 5))) aNil))) (sSeq (sSet 6 (eB tupD (aCons (eFrz (fLc (dRg (g1 (e2 ixD (eV 2) (eC (.int 0))))) [5] (gN 5) (tOrD (tru (e2 inO (eV 5) (eV 4))) (tru (e2 eqD (eCall1 takenF (aCons (eV 1) (aCons (eC (.int 3)) aNil))) (eC (.int 0))))) (eV 5))) aNil))) (sSeq (sIf (tOrD (tNotD (tru (eCall0 F__law_alike (aCons (eCall0 F_apart (aCons (eV 2) (aCons (eV 4) aNil))) (aCons (eCall0 F__law_apart (aCons (eV 3) (aCons (eV 4) aNil))) aNil))))) (tNotD (tru (eCall0 F__law_alike (aCons (eCall0 F_closing (aCons (eV 2) (aCons (eV 4) aNil))) (aCons (eCall0 F__law_apart (aCons (eV 3) (aCons (eCall0 F__law_apart (aCons (eV 3) (aCons (eV 4) aNil))) aNil))) aNil)))))) (sRet (eC (.bool false))) sNil) (sSeq (sIf (tru (e2 neD (eCall0 F_apart (aCons (eV 2) (aCons (eCall0 F_apart (aCons (eV 2) (aCons (eCall0 F_apart (aCons (eV 2) (aCons (eV 4) aNil))) aNil))) aNil))) (eCall0 F_apart (aCons (eV 2) (aCons (eV 4) aNil))))) (sRet (eC (.bool false))) sNil) (sSeq (sIf (tru (e2 neD (eFrz (fLc (dI (eCall0 F_apart (aCons (eV 2) (aCons (eV 6) aNil)))) [5] (gN 5) (tru (e2 ninO (eV 5) (eCall0 F_apart (aCons (eV 2) (aCons (eV 4) aNil))))) (eV 5))) (eFrz (fLst aNil)))) (sRet (eC (.bool false))) sNil) (sSeq (sIf (tOrD (tru (e2 neD (eFrz (fLc (dI (eV 4)) [5] (gN 5) (tru (e2 ninO (eV 5) (eCall0 F_closing (aCons (eV 2) (aCons (eV 4) aNil))))) (eV 5))) (eFrz (fLst aNil)))) (tru (e2 neD (eCall0 F_closing (aCons (eV 2) (aCons (eCall0 F_closing (aCons (eV 2) (aCons (eV 4) aNil))) aNil))) (eCall0 F_closing (aCons (eV 2) (aCons (eV 4) aNil)))))) (sRet (eC (.bool false))) sNil) (sSeq (sSet 7 eNewD) (sSeq (sFor (dI (eCall0 F__law_all (aCons (e2 mulD (eFrz (fLst (aCons (eC (.int 2)) aNil))) (e2 ixD (eV 2) (eC (.int 0)))) aNil))) (gN 8) (sPutD (eV 7) (eCall0 F__law_apart (aCons (eV 3) (aCons (eB tupD (aCons (eFrz (fLc (dRg (g1 (e2 ixD (eV 2) (eC (.int 0))))) [5] (gN 5) (tru (e2 eqD (e2 ixD (eV 8) (eV 5)) (eC (.int 1)))) (eV 5))) aNil)) aNil))) (eC (.bool true)))) (sSeq (sSet 9 (eCall0 F_closed_sets (aCons (eV 2) aNil))) (sSeq (sIf (tNotD (tru (eCall0 F__law_alike (aCons (eV 9) (aCons (eFrz (fB sortEF (aCons (eFrz (fB lstDF (aCons (eV 7) aNil))) aNil))) aNil))))) (sRet (eC (.bool false))) sNil) (sSeq (sFor (dI (eV 9)) (gN 10) (sIf (tru (e2 neD (eCall0 F_closing (aCons (eV 2) (aCons (eV 10) aNil))) (eV 10))) (sRet (eC (.bool false))) sNil)) (sRet (e2 eqD (eFrz (fLc (dI (eV 9)) [10] (gN 10) (tru (e2 eqD (eCall0 F_apart (aCons (eV 2) (aCons (eV 10) aNil))) (eV 10))) (eV 10))) (eCall0 F_largest_sets (aCons (eV 2) aNil)))))))))))))))))
theorem ok_law {f : Addr} {fd : FuncData} (Z : Bt mg) (F : Fun K "law" "law" s_law f fd) (D__law_alike : DefOk P w K mg base "_law_alike" 6 ["_law_found", "_law_due"] F__law_alike) (D__law_all : DefOk P w K mg base "_law_all" 1 ["_law_sizes"] F__law_all) (D__law_apart : DefOk P w K mg base "_law_apart" 1 ["_law_rows", "_law_rooms"] F__law_apart) (D__law_house : DefOk P w K mg base "_law_house" 2 ["_law_row", "_law_most"] F__law_house) (D__law_near : DefOk P w K mg base "_law_near" 1 ["_law_house_here"] F__law_near) (D__law_taken : DefOk P w K mg base "_law_taken" 1 ["_law_row", "_law_many"] takenF) (D_apart : DefOk P w K mg base "apart" 5 ["house", "rooms"] F_apart) (D_closed_sets : DefOk P w K mg base "closed_sets" 5 ["house"] F_closed_sets) (D_closing : DefOk P w K mg base "closing" 5 ["house", "rooms"] F_closing) (D_largest_sets : DefOk P w K mg base "largest_sets" 5 ["house"] F_largest_sets) (hw : (d_law ((List.replicate 11 none).set 1 (some (.ref 0))) [.row]).wp isTrueR noE) : FnOk P w K mg base CX0 7 f fd ["_law_script"] (spLaw K) := by
  refine F.ok (k := 6) sc_law (fun vs H Q E h => ?_) (fun cdv A outer s H vs Q E hr h => ?_)
  · obtain ⟨a, ns, rfl, _⟩ := h
    rfl
  obtain ⟨a, ns, rfl, hS, hlen, q⟩ := h
  have rest : PSs (cxOf CX0 P w K mg base ["_law_script", "_law_row", "_law_house_here", "_law_rows", "_law_one", "_law_room", "_law_other", "_law_due", "_law_marks", "_law_found", "_law_rooms"] "law" (defScope s_law) f cdv A outer s H E).nox ((defBody s_law).tail) (Ts K (fun _ _ _ _ => False) d_law) :=
    (st_cons (st_set 2 sc_law.nd (pe_k1 D__law_house hr (pa_1 (pe_v 1) (pa_1 pe_ci pa_0)))) (st_cons (st_set 3 sc_law.nd (pe_k0 D__law_near hr (pa_1 (pe_v 2) pa_0))) (st_cons (st_set 4 sc_law.nd (pe_ty call_tuple_of cd_tup (by rfl) Z.tuple (by decide +kernel) (pa_1 (pe_frz (pf_lc (own := [("_law_room", 5)]) rfl sc_law.nd (pi_r1 (by rfl) Z.range (pe_ix2 (u9 hr) (pe_v 2) pe_ci)) (blkOk_by (by rfl)) (fun _ _ _ _ _ => (pg_n 5 sc_law.nd)) (fun _ _ _ _ _ => (pts_1 (pt_c2 (op_eqD hr.units) od_eq (pe_k1 D__law_taken hr (pa_1 (pe_v 1) (pa_1 pe_ci pa_0))) pe_ci (nomark _)))) (fun _ _ _ _ _ => (pe_v 5)))) pa_0))) (st_cons (st_set 6 sc_law.nd (pe_ty call_tuple_of cd_tup (by rfl) Z.tuple (by decide +kernel) (pa_1 (pe_frz (pf_lc (own := [("_law_room", 5)]) rfl sc_law.nd (pi_r1 (by rfl) Z.range (pe_ix2 (u9 hr) (pe_v 2) pe_ci)) (blkOk_by (by rfl)) (fun _ _ _ _ _ => (pg_n 5 sc_law.nd)) (fun _ _ _ _ _ => (pts_1 (PW.pt (pw_o (pt_c2 (op_inA (u65 hr)) od_in (pe_v 5) (pe_v 4) (by rfl)) (pw_1o (pt_c2 (op_eqD hr.units) od_eq (pe_k1 D__law_taken hr (pa_1 (pe_v 1) (pa_1 pe_ci pa_0))) pe_ci (nomark _))))))) (fun _ _ _ _ _ => (pe_v 5)))) pa_0))) (st_cons (st_if (PW.pt (pw_o (pt_n (pt_v (pe_k0 D__law_alike hr (pa_1 (pe_k0 D_apart hr (pa_1 (pe_v 2) (pa_1 (pe_v 4) pa_0))) (pa_1 (pe_k0 D__law_apart hr (pa_1 (pe_v 3) (pa_1 (pe_v 4) pa_0))) pa_0))))) (pw_1o (pt_n (pt_v (pe_k0 D__law_alike hr (pa_1 (pe_k0 D_closing hr (pa_1 (pe_v 2) (pa_1 (pe_v 4) pa_0))) (pa_1 (pe_k0 D__law_apart hr (pa_1 (pe_v 3) (pa_1 (pe_k0 D__law_apart hr (pa_1 (pe_v 3) (pa_1 (pe_v 4) pa_0))) pa_0))) pa_0)))))))) (st_one (st_ret pe_cb)) st_nil) (st_cons (st_if (pt_c2 (op_neD hr.units) od_ne (pe_k0 D_apart hr (pa_1 (pe_v 2) (pa_1 (pe_k0 D_apart hr (pa_1 (pe_v 2) (pa_1 (pe_k0 D_apart hr (pa_1 (pe_v 2) (pa_1 (pe_v 4) pa_0))) pa_0))) pa_0))) (pe_k0 D_apart hr (pa_1 (pe_v 2) (pa_1 (pe_v 4) pa_0))) (nomark _)) (st_one (st_ret pe_cb)) st_nil) (st_cons (st_if (pt_c2 (op_neD hr.units) od_ne (pe_frz (pf_lc (own := [("_law_room", 5)]) rfl sc_law.nd (pi_d (pe_k0 D_apart hr (pa_1 (pe_v 2) (pa_1 (pe_v 6) pa_0)))) (blkOk_by (by rfl)) (fun _ _ _ _ _ => (pg_n 5 sc_law.nd)) (fun _ _ _ _ _ => (pts_1 (pt_c2 (op_ninA (u65 hr)) od_nin (pe_v 5) (pe_k0 D_apart hr (pa_1 (pe_v 2) (pa_1 (pe_v 4) pa_0))) (by rfl)))) (fun _ _ _ _ _ => (pe_v 5)))) (pe_frz (pf_l pa_0)) (nomark _)) (st_one (st_ret pe_cb)) st_nil) (st_cons (st_if (PW.pt (pw_o (pt_c2 (op_neD hr.units) od_ne (pe_frz (pf_lc (own := [("_law_room", 5)]) rfl sc_law.nd (pi_d (pe_v 4)) (blkOk_by (by rfl)) (fun _ _ _ _ _ => (pg_n 5 sc_law.nd)) (fun _ _ _ _ _ => (pts_1 (pt_c2 (op_ninA (u65 hr)) od_nin (pe_v 5) (pe_k0 D_closing hr (pa_1 (pe_v 2) (pa_1 (pe_v 4) pa_0))) (by rfl)))) (fun _ _ _ _ _ => (pe_v 5)))) (pe_frz (pf_l pa_0)) (nomark _)) (pw_1o (pt_c2 (op_neD hr.units) od_ne (pe_k0 D_closing hr (pa_1 (pe_v 2) (pa_1 (pe_k0 D_closing hr (pa_1 (pe_v 2) (pa_1 (pe_v 4) pa_0))) pa_0))) (pe_k0 D_closing hr (pa_1 (pe_v 2) (pa_1 (pe_v 4) pa_0))) (nomark _))))) (st_one (st_ret pe_cb)) st_nil) (st_cons (st_set 7 sc_law.nd pe_newD) (st_cons (st_for (vs := [8]) PassesOwn.never rfl (pi_d (pe_k0 D__law_all hr (pa_1 (pe_e2 op_mulA od_mul (pe_frz (pf_l (pa_1 pe_ci pa_0))) (pe_ix2 (u9 hr) (pe_v 2) pe_ci)) pa_0))) (pg_n 8 sc_law.nd) (st_one (st_putD (u9 hr) (pe_v 7) (pe_k0 D__law_apart hr (pa_1 (pe_v 3) (pa_1 (pe_ty call_tuple_of cd_tup (by rfl) Z.tuple (by decide +kernel) (pa_1 (pe_frz (pf_lc (own := [("_law_room", 5)]) rfl sc_law.nd (pi_r1 (by rfl) Z.range (pe_ix2 (u9 hr) (pe_v 2) pe_ci)) (blkOk_by (by rfl)) (fun _ _ _ _ _ => (pg_n 5 sc_law.nd)) (fun _ _ _ _ _ => (pts_1 (pt_c2 (op_eqD hr.units) od_eq (pe_ix2 (u9 hr) (pe_v 8) (pe_v 5)) pe_ci (nomark _)))) (fun _ _ _ _ _ => (pe_v 5)))) pa_0)) pa_0))) pe_cb))) (st_cons (st_set 9 sc_law.nd (pe_k0 D_closed_sets hr (pa_1 (pe_v 2) pa_0))) (st_cons (st_if (pt_n (pt_v (pe_k0 D__law_alike hr (pa_1 (pe_v 9) (pa_1 (pe_frz (pf_b (cr_sortedTup (u65 hr)) cf_sortE (by rfl) Z.sorted (by decide +kernel) (pa_1 (pe_frz (pf_ty (call_list_DD rfl) cf_lstD (by rfl) Z.list (by decide +kernel) (pa_1 (pe_v 7) pa_0))) pa_0))) pa_0))))) (st_one (st_ret pe_cb)) st_nil) (st_cons (st_for (vs := [10]) PassesOwn.never rfl (pi_d (pe_v 9)) (pg_n 10 sc_law.nd) (st_one (st_if (pt_c2 (op_neD hr.units) od_ne (pe_k0 D_closing hr (pa_1 (pe_v 2) (pa_1 (pe_v 10) pa_0))) (pe_v 10) (nomark _)) (st_one (st_ret pe_cb)) st_nil))) (st_one (st_ret (pe_c2 (op_eqD hr.units) od_eq (pe_frz (pf_lc (own := [("_law_rooms", 10)]) rfl sc_law.nd (pi_d (pe_v 9)) (blkOk_by (by rfl)) (fun _ _ _ _ _ => (pg_n 10 sc_law.nd)) (fun _ _ _ _ _ => (pts_1 (pt_c2 (op_eqD hr.units) od_eq (pe_k0 D_apart hr (pa_1 (pe_v 2) (pa_1 (pe_v 10) pa_0))) (pe_v 10) (nomark _)))) (fun _ _ _ _ _ => (pe_v 10)))) (pe_k0 D_largest_sets hr (pa_1 (pe_v 2) pa_0)) (nomark _)))))))))))))))))
  generalize d_law = dl at rest hw
  refine ⟨_, pss_cons (ps_set (i := 1) sc_law.nd rfl (by first | exact Or.inl rfl | exact Or.inr rfl) (L2.pe_lst (pa_cons (pv 0) (pa_cons L2.pe_int (pa_cons L2.pe_int (pa_cons L2.pe_int pa_nil)))))) rest, ?_⟩
  exact law_read (r := 1) rfl hS ⟨by decide, by decide⟩ hw fun H' => q H'

end
def Lq0 : DS := (sSet 2 (eCall1 F__law_house (aCons (eV 1) (aCons (eC (.int 7)) aNil))))
def Lq1 : DS := (sSet 3 (eCall0 F__law_near (aCons (eV 2) aNil)))
def Lq2 : DS := (sSet 4 (eB tupD (aCons (eFrz (fLc (dRg (g1 (e2 ixD (eV 2) (eC (.int 0))))) [5] (gN 5) (tru (e2 eqD (eCall1 takenF (aCons (eV 1) (aCons (eC (.int 2)) aNil))) (eC (.int 0)))) (eV 5))) aNil)))
def Lq3 : DS := (sSet 6 (eB tupD (aCons (eFrz (fLc (dRg (g1 (e2 ixD (eV 2) (eC (.int 0))))) [5] (gN 5) (tOrD (tru (e2 inO (eV 5) (eV 4))) (tru (e2 eqD (eCall1 takenF (aCons (eV 1) (aCons (eC (.int 3)) aNil))) (eC (.int 0))))) (eV 5))) aNil)))
def Lq4 : DS := (sIf (tOrD (tNotD (tru (eCall0 F__law_alike (aCons (eCall0 F_apart (aCons (eV 2) (aCons (eV 4) aNil))) (aCons (eCall0 F__law_apart (aCons (eV 3) (aCons (eV 4) aNil))) aNil))))) (tNotD (tru (eCall0 F__law_alike (aCons (eCall0 F_closing (aCons (eV 2) (aCons (eV 4) aNil))) (aCons (eCall0 F__law_apart (aCons (eV 3) (aCons (eCall0 F__law_apart (aCons (eV 3) (aCons (eV 4) aNil))) aNil))) aNil)))))) (sRet (eC (.bool false))) sNil)
def Lq5 : DS := (sIf (tru (e2 neD (eCall0 F_apart (aCons (eV 2) (aCons (eCall0 F_apart (aCons (eV 2) (aCons (eCall0 F_apart (aCons (eV 2) (aCons (eV 4) aNil))) aNil))) aNil))) (eCall0 F_apart (aCons (eV 2) (aCons (eV 4) aNil))))) (sRet (eC (.bool false))) sNil)
def Lq6 : DS := (sIf (tru (e2 neD (eFrz (fLc (dI (eCall0 F_apart (aCons (eV 2) (aCons (eV 6) aNil)))) [5] (gN 5) (tru (e2 ninO (eV 5) (eCall0 F_apart (aCons (eV 2) (aCons (eV 4) aNil))))) (eV 5))) (eFrz (fLst aNil)))) (sRet (eC (.bool false))) sNil)
def Lq7 : DS := (sIf (tOrD (tru (e2 neD (eFrz (fLc (dI (eV 4)) [5] (gN 5) (tru (e2 ninO (eV 5) (eCall0 F_closing (aCons (eV 2) (aCons (eV 4) aNil))))) (eV 5))) (eFrz (fLst aNil)))) (tru (e2 neD (eCall0 F_closing (aCons (eV 2) (aCons (eCall0 F_closing (aCons (eV 2) (aCons (eV 4) aNil))) aNil))) (eCall0 F_closing (aCons (eV 2) (aCons (eV 4) aNil)))))) (sRet (eC (.bool false))) sNil)
def Lq8 : DS := (sSet 7 eNewD)
def Lq9b0 : DS := (sPutD (eV 7) (eCall0 F__law_apart (aCons (eV 3) (aCons (eB tupD (aCons (eFrz (fLc (dRg (g1 (e2 ixD (eV 2) (eC (.int 0))))) [5] (gN 5) (tru (e2 eqD (e2 ixD (eV 8) (eV 5)) (eC (.int 1)))) (eV 5))) aNil)) aNil))) (eC (.bool true)))
def Lq9br0 : DS := Lq9b0
def Lq9 : DS := (sFor (dI (eCall0 F__law_all (aCons (e2 mulD (eFrz (fLst (aCons (eC (.int 2)) aNil))) (e2 ixD (eV 2) (eC (.int 0)))) aNil))) (gN 8) Lq9br0)
def Lq10 : DS := (sSet 9 (eCall0 F_closed_sets (aCons (eV 2) aNil)))
def Lq11 : DS := (sIf (tNotD (tru (eCall0 F__law_alike (aCons (eV 9) (aCons (eFrz (fB sortEF (aCons (eFrz (fB lstDF (aCons (eV 7) aNil))) aNil))) aNil))))) (sRet (eC (.bool false))) sNil)
def Lq12b0 : DS := (sIf (tru (e2 neD (eCall0 F_closing (aCons (eV 2) (aCons (eV 10) aNil))) (eV 10))) (sRet (eC (.bool false))) sNil)
def Lq12br0 : DS := Lq12b0
def Lq12 : DS := (sFor (dI (eV 9)) (gN 10) Lq12br0)
def Lq13 : DS := (sRet (e2 eqD (eFrz (fLc (dI (eV 9)) [10] (gN 10) (tru (e2 eqD (eCall0 F_apart (aCons (eV 2) (aCons (eV 10) aNil))) (eV 10))) (eV 10))) (eCall0 F_largest_sets (aCons (eV 2) aNil))))
def Lqr13 : DS := Lq13
def Lqr12 : DS := sSeq Lq12 Lqr13
def Lqr11 : DS := sSeq Lq11 Lqr12
def Lqr10 : DS := sSeq Lq10 Lqr11
def Lqr9 : DS := sSeq Lq9 Lqr10
def Lqr8 : DS := sSeq Lq8 Lqr9
def Lqr7 : DS := sSeq Lq7 Lqr8
def Lqr6 : DS := sSeq Lq6 Lqr7
def Lqr5 : DS := sSeq Lq5 Lqr6
def Lqr4 : DS := sSeq Lq4 Lqr5
def Lqr3 : DS := sSeq Lq3 Lqr4
def Lqr2 : DS := sSeq Lq2 Lqr3
def Lqr1 : DS := sSeq Lq1 Lqr2
def Lqr0 : DS := sSeq Lq0 Lqr1
theorem law_pieces : d_law = Lqr0 := rfl
end Lw



set_option maxHeartbeats 1000000
/-! the houses -/
namespace Lw
open PySem PySem.Spec PyProof.Rows L2 Mx
theorem is_integer_eq (n : Int) : F_is_integer [.dat (.int n)] [] = .ok (.bool true) [] := by
  simp [F_is_integer, d_is_integer]
theorem is_in_eq (n a b : Int) : F_is_in [.dat (.int n), .dat (.int a), .dat (.int b)] [] = .ok (.bool (decide (a ≤ n) && decide (n ≤ b))) [] := by
  by_cases h : a ≤ n <;> simp [F_is_in, d_is_in, is_integer_eq, h]
theorem is_list_eq (xs : List Dat) (a b : Int) : F_is_list [.dat (.tuple xs), .dat (.int a), .dat (.int b)] [] = .ok (.bool (decide (a ≤ xs.length) && decide ((xs.length : Int) ≤ b))) [] := by
  by_cases h : a ≤ xs.length <;> simp [F_is_list, d_is_list, h]
def dPr (p : Nat × Nat) : Dat := .tuple [.int (p.1 : Nat), .int (p.2 : Nat)]
def dN (i : Nat) : Dat := .int (i : Nat)
def dHouse (n : Nat) (ds : List (Nat × Nat)) : Dat := .tuple [.int (n : Nat), .tuple (ds.map dPr)]
def pairsOf (n i : Nat) : List (Nat × Nat) := (List.range (n - (i + 1))).map fun j => (i, i + 1 + j)
def pairs (n : Nat) : List (Nat × Nat) := (List.range n).flatMap (pairsOf n)
def lexB (p q : Nat × Nat) : Bool := decide (p.1 < q.1) || (decide (p.1 = q.1) && decide (p.2 < q.2))
structure HouseOk (n : Nat) (ds : List (Nat × Nat)) : Prop where
  lo : 1 ≤ n
  hi : n ≤ 8
  sub : ds.Sublist (pairs n)
theorem pairs_range : ∀ n, n < 9 → (pairs n).length ≤ 28 ∧ (∀ p ∈ pairs n, p.1 < p.2 ∧ p.2 < n) ∧ (pairs n).Pairwise fun p q => lexB p q = true := by decide +kernel
theorem lex_ge {p q : Nat × Nat} (h : lexB q p = true) : cmpL rGe zGe [(q.1 : Int), (q.2 : Int)] [(p.1 : Int), (p.2 : Int)] = false := by
  unfold lexB at h
  simp only [Bool.or_eq_true, Bool.and_eq_true, decide_eq_true_eq] at h
  unfold cmpL
  split
  · unfold cmpL
    rw [if_neg (by omega)]
    unfold rGe
    rw [decide_eq_false (by omega)]
  · unfold rGe
    rw [decide_eq_false (by omega)]
section
variable {n : Nat} {ds : List (Nat × Nat)} (h : HouseOk n ds)
include h
theorem HouseOk.len : ds.length ≤ 28 := Nat.le_trans h.sub.length_le (pairs_range n (by have := h.hi; omega)).1
theorem HouseOk.rng {p : Nat × Nat} (hp : p ∈ ds) : p.1 < p.2 ∧ p.2 < n := (pairs_range n (by have := h.hi; omega)).2.1 p (h.sub.subset hp)
theorem HouseOk.srt : ds.Pairwise fun p q => lexB p q = true := (pairs_range n (by have := h.hi; omega)).2.2.sublist h.sub
theorem need_doors_eq : F_need_doors [.dat (.int n), .dat (.tuple (ds.map dPr))] [] = .ok .none [] := by
  have hl := h.len
  have h28 : (ds.length : Int) ≤ 28 := by omega
  simp [F_need_doors, d_need_doors, is_list_eq, mulOk, h28]
  refine for_bind (fun i env s => s = [] ∧ ∃ a b c, env = [some (.dat (.int n)), some (.dat (.tuple (ds.map dPr))), a, b, c]) ⟨rfl, _, _, _, rfl⟩ ?_ ?_
  · rintro i x env s hx ⟨rfl, a, b, c, rfl⟩
    obtain ⟨y, hy, rfl⟩ := enumD_get _ _ _ _ hx
    rw [List.getElem?_map] at hy
    cases hp : ds[i]? with
    | none => rw [hp] at hy; cases hy
    | some p =>
      rw [hp] at hy
      cases hy
      obtain ⟨h1, h2⟩ := h.rng (List.mem_of_getElem? hp)
      have c1 : ¬ ((n : Int) - 1 < p.1) := by omega
      have c2 : ¬ ((n : Int) - 1 < p.2) := by omega
      have c3 : ¬ ((p.2 : Int) ≤ p.1) := by omega
      cases i with
      | zero =>
        refine ⟨_, [_, _, some (.dat (.int 0)), some (.dat (dPr p)), c], [], rfl, ?_, rfl, _, _, _, rfl⟩
        simp [dPr, is_list_eq, is_in_eq, c1, c2, c3]
      | succ k =>
        cases hq : ds[k]? with
        | none =>
          have := List.getElem?_eq_none_iff.mp hq
          have := (List.getElem?_eq_some_iff.mp hp).1
          omega
        | some q =>
          have hl : lexB q p = true := by
            obtain ⟨b1, e1⟩ := List.getElem?_eq_some_iff.mp hq
            obtain ⟨b2, e2⟩ := List.getElem?_eq_some_iff.mp hp
            subst e1
            subst e2
            exact List.pairwise_iff_getElem.mp h.srt k (k + 1) b1 b2 (by omega)
          have c4 : atI (ds.map dPr) (k : Int) = some (dPr q) := at_map hq
          have c5 : (0 : Int) < (k : Int) + 1 := by omega
          have c6 := lex_ge hl
          refine ⟨_, [_, _, some (.dat (.int ((k : Int) + 1))), some (.dat (dPr p)), c], [], rfl, ?_, rfl, _, _, _, rfl⟩
          simp [dPr, is_list_eq, is_in_eq, c1, c2, c3, c5]
          rw [c4]
          simp [dPr, c6]
  · rintro env s ⟨rfl, a, b, c, rfl⟩
    simp
theorem need_house_eq : F_need_house [.dat (dHouse n ds)] [] = .ok .none [] := by
  have h1 := h.lo
  have h2 := h.hi
  have c1 : (1 : Int) ≤ n := by omega
  have c2 : (n : Int) ≤ 8 := by omega
  simp [F_need_house, d_need_house, dHouse, is_list_eq, is_in_eq, need_doors_eq h, c1, c2]
end
end Lw

set_option maxHeartbeats 1000000
/-! neighbours -/
namespace Lw
open PySem PySem.Spec PyProof.Rows L2 Mx
@[simp] theorem allG_gN (i : Nat) (env : Mx.Env) : ∀ xs : List Dat, allG (gN i) env xs = true
  | [] => rfl
  | x :: xs => by simp [allG, allG_gN i env xs]
theorem rgOk0 {n : Nat} (h : n ≤ 1000) : rgOk 0 (n : Int) = true := by
  rw [rgOk_iff]
  omega
@[simp] theorem rgD0 (n : Nat) : rgD 0 (n : Int) = (List.range n).map dN := by
  simp [rgD, dN]
def addRow (R : List (List Nat)) (i x : Nat) : List (List Nat) := R.set i (R.getD i [] ++ [x])
def nearL (n : Nat) (ds : List (Nat × Nat)) : List (List Nat) := ds.foldl (fun R p => addRow (addRow R p.1 p.2) p.2 p.1) (List.replicate n [])
def dRow (r : List Nat) : List Dat := r.map dN
def dRows (R : List (List Nat)) : Dat := .list (R.map fun r => .list (r.map dN))
theorem addRow_len (R : List (List Nat)) (i x : Nat) : (addRow R i x).length = R.length := by simp [addRow]
theorem nearL_snoc (n : Nat) (ds : List (Nat × Nat)) (p : Nat × Nat) : nearL n (ds ++ [p]) = addRow (addRow (nearL n ds) p.1 p.2) p.2 p.1 := by simp [nearL, List.foldl_append]
theorem snoc_ind {α : Type} {P : List α → Prop} (h0 : P []) (h1 : ∀ l a, P l → P (l ++ [a])) (l : List α) : P l := by
  have : ∀ l : List α, P l.reverse := fun l => by
    induction l with
    | nil => exact h0
    | cons a l ih => rw [List.reverse_cons]; exact h1 _ _ ih
  have := this l.reverse
  rwa [List.reverse_reverse] at this
theorem nearL_len (n : Nat) : ∀ ds, (nearL n ds).length = n := snoc_ind (by simp [nearL]) fun l a ih => by rw [nearL_snoc, addRow_len, addRow_len, ih]
theorem addRow_at (R : List (List Nat)) (i x r : Nat) (hi : i < R.length) : (addRow R i x).getD r [] = if r = i then R.getD i [] ++ [x] else R.getD r [] := by
  unfold addRow
  rw [List.getD_eq_getElem?_getD, List.getD_eq_getElem?_getD, List.getD_eq_getElem?_getD, List.getElem?_set]
  by_cases h : i = r
  · subst h
    simp [hi]
  · rw [if_neg h, if_neg (fun z => h z.symm)]
theorem nearL_rows (n : Nat) (r : Nat) : ∀ ds, (∀ p ∈ ds, p.1 < n ∧ p.2 < n) → ((nearL n ds).getD r []).length ≤ 2 * ds.length := snoc_ind (fun _ => by
    simp [nearL, List.getElem?_replicate]
    split <;> simp) fun l a ih hb => by
  have h1 := hb a (by simp)
  have ih := ih fun p hp => hb p (by simp [hp])
  rw [nearL_snoc, addRow_at _ _ _ _ (by rw [addRow_len, nearL_len]; exact h1.2), addRow_at _ _ _ _ (by rw [nearL_len]; exact h1.1), addRow_at _ _ _ _ (by rw [nearL_len]; exact h1.1)]
  by_cases e1 : r = a.2
  · rw [if_pos e1, ← e1]
    by_cases e2 : r = a.1
    · rw [if_pos e2, ← e2]
      simp only [List.length_append, List.length_singleton]
      omega
    · rw [if_neg e2]
      simp only [List.length_append, List.length_singleton]
      omega
  · rw [if_neg e1]
    by_cases e2 : r = a.1
    · rw [if_pos e2, ← e2]
      simp only [List.length_append, List.length_singleton]
      omega
    · rw [if_neg e2]
      simp only [List.length_append, List.length_singleton]
      omega
theorem nearL_mem (n : Nat) (r x : Nat) : ∀ ds, (∀ p ∈ ds, p.1 < n ∧ p.2 < n) → (x ∈ (nearL n ds).getD r [] ↔ ((r, x) ∈ ds ∨ (x, r) ∈ ds)) := snoc_ind (fun _ => by
    simp [nearL, List.getElem?_replicate]
    split <;> simp) fun l a ih hb => by
  have h1 := hb a (by simp)
  have ih := ih fun p hp => hb p (by simp [hp])
  rw [nearL_snoc, addRow_at _ _ _ _ (by rw [addRow_len, nearL_len]; exact h1.2), addRow_at _ _ _ _ (by rw [nearL_len]; exact h1.1), addRow_at _ _ _ _ (by rw [nearL_len]; exact h1.1)]
  obtain ⟨a1, a2⟩ := a
  simp only [List.mem_append, List.mem_singleton, Prod.mk.injEq]
  have ih' := ih
  by_cases e1 : r = a2
  · subst e1
    rw [if_pos rfl]
    by_cases e2 : r = a1
    · subst e2
      rw [if_pos rfl]
      simp only [List.mem_append, List.mem_singleton, ih']
      grind
    · rw [if_neg e2]
      simp only [List.mem_append, List.mem_singleton, ih']
      grind
  · rw [if_neg e1]
    by_cases e2 : r = a1
    · subst e2
      rw [if_pos rfl]
      simp only [List.mem_append, List.mem_singleton, ih']
      grind
    · rw [if_neg e2]
      rw [ih']
      grind
theorem ixN_lt {n i : Nat} (h : i < n) : ixN n (i : Int) = some i := by
  unfold ixN
  rw [if_pos (by omega), if_pos (by omega), Int.toNat_natCast]
theorem appAt_eq {R : List (List Nat)} {a b i x : Nat} {env : Mx.Env} (h1 : env[1]? = some (some (.ref 0))) (ha : env[a]? = some (some (.dat (.int (i : Nat))))) (hb : env[b]? = some (some (.dat (.int (x : Nat))))) (hi : i < R.length) (hs : (R.getD i []).length < sizeLine) :
    eAppAt 1 (eV a) (eV b) env [.lsl (R.map dRow)] = .ok (.dat .none) [.lsl ((addRow R i x).map dRow)] := by
  have e1 : (R.map dRow)[i]? = some (dRow (R.getD i [])) := by
    rw [List.getElem?_map, List.getD_eq_getElem?_getD, List.getElem?_eq_getElem hi]
    rfl
  have e2 : (addRow R i x).map dRow = (R.map dRow).set i (dRow (R.getD i []) ++ [.int (x : Nat)]) := by
    unfold addRow
    rw [List.map_set]
    congr 1
    unfold dRow
    rw [List.map_append]
    rfl
  have e3 : (dRow (R.getD i [])).length < sizeLine := by unfold dRow; rw [List.length_map]; exact hs
  have e4 : ixN (R.map dRow).length (i : Int) = some i := ixN_lt (by rw [List.length_map]; exact hi)
  rw [e2]
  simp only [u_eAppAt, h1, u_eV, ha, hb, b_ok, List.getElem?_cons_zero, e4, e1]
  rw [if_pos ⟨trivial, e3⟩]
  rfl
def insN (a : Nat) : List Nat → List Nat
  | [] => [a]
  | b :: r => if a ≤ b then a :: b :: r else b :: insN a r
def sortN : List Nat → List Nat
  | [] => []
  | a :: r => insN a (sortN r)
theorem insN_I (a : Nat) : ∀ r : List Nat, insI (a : Int) (r.map fun i => ((i : Nat) : Int)) = (insN a r).map fun i => ((i : Nat) : Int)
  | [] => rfl
  | b :: r => by
    simp only [List.map_cons, insI, insN]
    by_cases h : a ≤ b
    · rw [if_pos h, if_pos (by omega)]
      rfl
    · rw [if_neg h, if_neg (by omega), insN_I a r]
      rfl
theorem sortN_I : ∀ r : List Nat, sortI (r.map fun i => ((i : Nat) : Int)) = (sortN r).map fun i => ((i : Nat) : Int)
  | [] => rfl
  | a :: r => by simp only [List.map_cons, sortI, sortN]; rw [sortN_I r, insN_I]
theorem insN_mem (a x : Nat) : ∀ r : List Nat, x ∈ insN a r ↔ x = a ∨ x ∈ r
  | [] => by simp [insN]
  | b :: r => by
    unfold insN
    split
    · simp
    · rw [List.mem_cons, insN_mem a x r, List.mem_cons]
      grind
theorem sortN_mem (x : Nat) : ∀ r : List Nat, x ∈ sortN r ↔ x ∈ r
  | [] => by simp [sortN]
  | a :: r => by rw [sortN, insN_mem, sortN_mem x r, List.mem_cons]
theorem insN_len (a : Nat) : ∀ r : List Nat, (insN a r).length = r.length + 1
  | [] => rfl
  | b :: r => by
    unfold insN
    split
    · rfl
    · rw [List.length_cons, insN_len a r, List.length_cons]
theorem sortN_len : ∀ r : List Nat, (sortN r).length = r.length
  | [] => rfl
  | a :: r => by rw [sortN, insN_len, sortN_len r, List.length_cons]
@[simp] theorem sort_row (s : Sto) (r : List Nat) : sortIF s [.dat (.list (r.map dN))] = some ((sortN r).map dN) := by
  have e : intsD (r.map dN) = some (r.map fun i => ((i : Nat) : Int)) := ints_mapN r
  simp only [sortIF, v_dat, e, Option.map_some, sortN_I, List.map_map]
  rfl
section
variable {n : Nat} {ds : List (Nat × Nat)} (h : HouseOk n ds)
include h
theorem near_loop {β : Type} {k : Out → Sto → R β} {r : R β} {more : List (Option EV)} (env0 : List (Option EV)) (h0 : ∃ u v w, env0 = [some (.dat (dHouse n ds)), some (.ref 0), u, v, w] ++ more)
    (fin : ∀ u v w, k (.nx ([some (.dat (dHouse n ds)), some (.ref 0), u, v, w] ++ more)) [.lsl ((nearL n ds).map dRow)] = r) :
    (forGo (gT (gsC (gN 3) (gsC (gN 4) gs0))) (sSeq (sEx (eAppAt 1 (eV 3) (eV 4))) (sEx (eAppAt 1 (eV 4) (eV 3)))) (ds.map dPr) env0 [.lsl (List.replicate n [])]).bind k = r := by
  refine for_bind (fun i env s => s = [.lsl ((nearL n (ds.take i)).map dRow)] ∧ ∃ u v w, env = [some (.dat (dHouse n ds)), some (.ref 0), u, v, w] ++ more) ⟨by simp [nearL, dRow], h0⟩ ?_ ?_
  · rintro i x env s hx ⟨rfl, u, v, w, rfl⟩
    rw [List.getElem?_map] at hx
    cases hp : ds[i]? with
    | none => rw [hp] at hx; cases hx
    | some p =>
      rw [hp] at hx
      cases hx
      have hr := h.rng (List.mem_of_getElem? hp)
      have hbd : ∀ q ∈ ds.take i, q.1 < n ∧ q.2 < n := fun q hq => by
        have := h.rng (List.mem_of_mem_take hq)
        omega
      have hlen : (ds.take i).length ≤ 28 := Nat.le_trans (by rw [List.length_take]; omega) h.len
      have h1 := nearL_rows n p.1 _ hbd
      have h2 := nearL_rows n p.2 _ hbd
      have hz : 100 ≤ sizeLine := by decide
      have et : ds.take (i + 1) = ds.take i ++ [p] := by rw [List.take_succ, hp]; rfl
      refine ⟨_, [_, _, u, some (.dat (.int (p.1 : Nat))), some (.dat (.int (p.2 : Nat)))] ++ more, _, rfl, ?_, rfl, _, _, _, rfl⟩
      rw [et, nearL_snoc]
      have q1 := appAt_eq (R := nearL n (ds.take i)) (a := 3) (b := 4) (i := p.1) (x := p.2) (env := [some (.dat (dHouse n ds)), some (.ref 0), u, some (.dat (.int (p.1 : Nat))), some (.dat (.int (p.2 : Nat)))] ++ more) rfl rfl rfl (by rw [nearL_len]; omega) (by omega)
      have q2 := appAt_eq (R := addRow (nearL n (ds.take i)) p.1 p.2) (a := 4) (b := 3) (i := p.2) (x := p.1) (env := [some (.dat (dHouse n ds)), some (.ref 0), u, some (.dat (.int (p.1 : Nat))), some (.dat (.int (p.2 : Nat)))] ++ more) rfl rfl rfl (by rw [addRow_len, nearL_len]; omega) (by
        rw [addRow_at _ _ _ _ (by rw [nearL_len]; omega)]
        rw [if_neg (by omega)]
        omega)
      rw [u_sSeq, u_sEx]
      show ((eAppAt 1 (eV 3) (eV 4) ([some (.dat (dHouse n ds)), some (.ref 0), u, some (.dat (.int (p.1 : Nat))), some (.dat (.int (p.2 : Nat)))] ++ more) _).bind _).bind _ = _
      rw [q1]
      show (eAppAt 1 (eV 4) (eV 3) ([some (.dat (dHouse n ds)), some (.ref 0), u, some (.dat (.int (p.1 : Nat))), some (.dat (.int (p.2 : Nat)))] ++ more) _).bind _ = _
      rw [q2]
      rfl
  · rintro env s ⟨rfl, u, v, w, rfl⟩
    rw [List.length_map, List.take_length]
    exact fin u v w
theorem law_near_eq : F__law_near [.dat (dHouse n ds)] [] = .ok (dRows (nearL n ds)) [] := by
  have hr := rgOk0 (n := n) (by have := h.hi; omega)
  simp [F__law_near, d__law_near, dHouse, hr]
  rw [b_assoc]
  refine near_loop h (more := []) _ ⟨none, none, none, rfl⟩ fun u v w => ?_
  simp [dRows, dRow]
theorem near_eq : F_near [.dat (dHouse n ds)] [] = .ok (dRows ((nearL n ds).map sortN)) [] := by
  have hr := rgOk0 (n := n) (by have := h.hi; omega)
  simp [F_near, d_near, dHouse, hr]
  rw [b_assoc]
  refine near_loop h (more := [none]) _ ⟨none, none, none, rfl⟩ fun u v w => ?_
  simp
  rw [lc_mapM (fun r => .list ((sortN r).map dN)) (hy := fun r hr => ⟨_, rfl, by simp, by simp [dRow]⟩)]
  simp [dRows]
end
end Lw

set_option maxHeartbeats 1000000
/-! the least free number; a key; a story -/
namespace Lw
open PySem PySem.Spec PyProof.Rows L2 Mx
def mexGo (xs : List Nat) : Nat → Nat → Nat
  | 0, k => k
  | f + 1, k => if k ∈ xs then mexGo xs f (k + 1) else k
def mex (xs : List Nat) : Nat := mexGo xs xs.length 0
theorem hole : ∀ (m : Nat) (xs : List Nat), (∀ k, k < m → k ∈ xs) → m ≤ xs.length
  | 0, _, _ => Nat.zero_le _
  | m + 1, xs, h => by
    have hm := h m (by omega)
    have := hole m (xs.erase m) fun k hk => (List.mem_erase_of_ne (by omega)).mpr (h k (by omega))
    rw [List.length_erase_of_mem hm] at this
    have : 0 < xs.length := List.length_pos_of_mem hm
    omega
theorem mexGo_spec (xs : List Nat) : ∀ f k, k ≤ mexGo xs f k ∧ mexGo xs f k ≤ k + f ∧ (∀ j, k ≤ j → j < mexGo xs f k → j ∈ xs) ∧ (mexGo xs f k < k + f → mexGo xs f k ∉ xs)
  | 0, k => ⟨Nat.le_refl _, Nat.le_refl _, fun j h1 h2 => by unfold mexGo at h2; omega, fun h => by unfold mexGo at h; omega⟩
  | f + 1, k => by
    unfold mexGo
    by_cases hk : k ∈ xs
    · rw [if_pos hk]
      obtain ⟨h1, h2, h3, h4⟩ := mexGo_spec xs f (k + 1)
      refine ⟨by omega, by omega, fun j hj1 hj2 => ?_, fun h => h4 (by omega)⟩
      by_cases e : j = k
      · rw [e]; exact hk
      · exact h3 j (by omega) hj2
    · rw [if_neg hk]
      exact ⟨Nat.le_refl _, by omega, fun j h1 h2 => by omega, fun _ => hk⟩
theorem mex_le (xs : List Nat) : mex xs ≤ xs.length := by
  have := (mexGo_spec xs xs.length 0).2.1
  unfold mex
  omega
theorem mex_lt {xs : List Nat} {k : Nat} (h : k < mex xs) : k ∈ xs := (mexGo_spec xs xs.length 0).2.2.1 k (by omega) h
theorem mex_not (xs : List Nat) : mex xs ∉ xs := fun hm => by
  have := hole (mex xs + 1) xs fun k hk => by
    by_cases e : k = mex xs
    · rw [e]; exact hm
    · exact mex_lt (by omega)
  have h1 := (mexGo_spec xs xs.length 0).2.2.2
  have : mexGo xs xs.length 0 < 0 + xs.length := by
    show mex xs < _
    omega
  exact h1 this hm
theorem mex_eq {xs : List Nat} {m : Nat} (h1 : m ∉ xs) (h2 : ∀ k, k < m → k ∈ xs) : mex xs = m := by
  rcases Nat.lt_trichotomy (mex xs) m with h | h | h
  · exact absurd (h2 _ h) (mex_not xs)
  · exact h
  · exact absurd (mex_lt h) h1
theorem mex_congr {xs ys : List Nat} (h : ∀ x, x ∈ xs ↔ x ∈ ys) : mex xs = mex ys := mex_eq (fun z => mex_not ys ((h _).mp z)) fun k hk => (h k).mpr (mex_lt hk)
/-- what the neighbours show -/
def stA (st : List Nat) (o : Nat) : Nat := st.getD o 0
def shown (row st : List Nat) : List Nat := row.map (stA st)
theorem st_at {st : List Nat} {o : Nat} (h : o < st.length) : atI (st.map dN) (o : Int) = some (dN (stA st o)) := at_map (by
  unfold stA
  rw [List.getD_eq_getElem?_getD, List.getElem?_eq_getElem h]
  rfl)
def rowAt (R : List (List Nat)) (r : Nat) : List Nat := R.getD r []
theorem row_at {R : List (List Nat)} {r : Nat} (h : r < R.length) : atI (R.map fun r => PyData.list (r.map dN)) (r : Int) = some (.list ((rowAt R r).map dN)) := at_map (by
  unfold rowAt
  rw [List.getD_eq_getElem?_getD, List.getElem?_eq_getElem h]
  rfl)
@[simp] theorem eqv_int (i j : Int) : PyData.eqv (.int i) (.int j) = decide (i = j) := by
  simp [PyData.eqv]
  try rfl
@[simp] theorem look_r (s : Sto) (i : Nat) (k : Dat) (kvs : List (Key × Dat)) (h : s[i]? = some (.dK kvs)) : lookD s (.ref i) k = (keyD k).map fun k => valD kvs k := by
  simp [lookD, h]
@[simp] theorem look_t (s : Sto) (i : Nat) (ks : List Dat) (kvs) (h : s[i]? = some (.dT kvs)) : lookD s (.ref i) (.tuple ks) = (keysD ks).map fun k => valD kvs k := by
  simp [lookD, h]
theorem val_keys {κ : Type} [DecidableEq κ] (kvs : List (κ × Dat)) (k : κ) : (valD kvs k).isSome = true ↔ k ∈ kvs.map (·.1) := by
  unfold valD
  rw [Option.isSome_map, List.find?_isSome]
  simp
theorem put_keys {κ : Type} [DecidableEq κ] (kvs : List (κ × Dat)) (k k' : κ) (v : Dat) : k' ∈ (putD kvs k v).map (·.1) ↔ k' = k ∨ k' ∈ kvs.map (·.1) := by
  unfold putD
  split
  · rename_i h
    rw [List.any_eq_true] at h
    obtain ⟨p, hp, hk⟩ := h
    have hk : p.1 = k := of_decide_eq_true hk
    have e : (kvs.map fun kv => if kv.1 = k then (kv.1, v) else kv).map (·.1) = kvs.map (·.1) := by
      rw [List.map_map]
      refine List.map_congr_left fun q _ => ?_
      show (if q.1 = k then (q.1, v) else q).1 = q.1
      split <;> rfl
    rw [e]
    constructor
    · exact fun z => .inr z
    · rintro (rfl | z)
      · exact List.mem_map.mpr ⟨p, hp, hk⟩
      · exact z
  · rw [List.map_append, List.mem_append]
    simp
    grind
theorem put_len {κ : Type} [DecidableEq κ] (kvs : List (κ × Dat)) (k : κ) (v : Dat) : (putD kvs k v).length ≤ kvs.length + 1 := by
  unfold putD
  split <;> simp
theorem dc_keys {st : List Nat} {env : Mx.Env} {s : Sto} (h1 : env[1]? = some (some (.dat (.tuple (st.map dN))))) (h4 : 4 < env.length) : ∀ (row : List Nat) (acc : List (Key × Dat)), (∀ o ∈ row, o < st.length) → acc.length + row.length ≤ 1000 →
    ∃ kvs, dcGo (gN 4) tYesD (e2 ixD (eV 1) (eV 4)) (eC (.bool true)) env (row.map dN) acc s = .ok kvs s ∧ ∀ k : Key, k ∈ kvs.map (·.1) ↔ k ∈ acc.map (·.1) ∨ ∃ x ∈ shown row st, k = .inl (x : Int)
  | [], acc, _, _ => ⟨acc, rfl, fun k => by simp [shown]⟩
  | o :: row, acc, hr, hl => by
    have ho := hr o List.mem_cons_self
    rw [List.length_cons] at hl
    have z : 2000 ≤ sizeLine := by decide
    have hp := put_len acc (.inl ((stA st o : Nat) : Int)) (.bool true)
    obtain ⟨kvs, e, q⟩ := dc_keys h1 h4 row (putD acc (.inl ((stA st o : Nat) : Int)) (.bool true)) (fun x hx => hr x (List.mem_cons_of_mem _ hx)) (by omega)
    refine ⟨kvs, ?_, fun k => ?_⟩
    · rw [List.map_cons, dcGo, u_gN]
      show (tYesD _ s).bind _ = _
      have g1 : (env.set 4 (some (.dat (dN o))))[1]? = some (some (.dat (.tuple (st.map dN)))) := by rw [List.getElem?_set_ne (by decide)]; exact h1
      have g2 : (env.set 4 (some (.dat (dN o))))[4]? = some (some (.dat (dN o))) := List.getElem?_set_self h4
      have g3 := st_at ho
      rw [u_tYesD, b_ok, if_pos rfl, u_e2, u_eV, g1]
      show ((eV 4 _ s).bind _).bind _ = _
      rw [u_eV, g2]
      show (liftD (atI (st.map dN) (o : Int)) s).bind _ = _
      rw [g3]
      show (if acc.length < sizeLine then _ else _) = _
      rw [if_pos (by omega)]
      exact e
    · rw [q, put_keys]
      simp only [shown, List.map_cons, List.mem_cons]
      grind
@[simp] theorem all_flat (xs : List Nat) : (xs.map dN).all flatD = true := by
  rw [List.all_map, List.all_eq_true]
  exact fun _ _ => rfl
@[simp] theorem flat_int (i : Int) : flatD (.int i) = true := rfl
theorem any_eqv (xs : List Nat) (k : Nat) : ((xs.map dN).any fun z => PyData.eqv z (.int (k : Int))) = decide (k ∈ xs) := by
  rw [List.any_map]
  induction xs with
  | nil => rfl
  | cons a r ih =>
    rw [List.any_cons, ih]
    show (PyData.eqv (.int (a : Int)) (.int (k : Int)) || _) = _
    rw [eqv_int]
    by_cases h : a = k <;> simp [h]
    · grind
def keyL (R : List (List Nat)) (st : List Nat) (r : Nat) : List Nat := st.set r (mex (shown (rowAt R r) st))
structure RowsOk (R : List (List Nat)) (n : Nat) : Prop where
  len : R.length = n
  lt : ∀ row ∈ R, ∀ o ∈ row, o < n
  few : ∀ row ∈ R, row.length ≤ 56
  small : n ≤ 100
section
variable {R : List (List Nat)} {n : Nat} (h : RowsOk R n) {st : List Nat} (hs : st.length = n) {r : Nat} (hr : r < n)
include h hs hr
theorem row_mem : rowAt R r ∈ R := by
  unfold rowAt
  have := h.len
  rw [List.getD_eq_getElem?_getD, List.getElem?_eq_getElem (by omega)]
  exact List.getElem_mem _
end
end Lw

set_option maxHeartbeats 1000000
/-! keys and stories -/
namespace Lw
open PySem PySem.Spec PyProof.Rows L2 Mx
theorem cut_lo {ds : List Dat} {r : Nat} : cutD ds none (some (r : Int)) = ds.take r := by
  unfold Mx.cutD
  rw [HT.sIx_none, HT.sIx_nat, List.drop_zero, Nat.sub_zero]
  by_cases h : r ≤ ds.length
  · rw [Nat.min_eq_left h]
  · rw [Nat.min_eq_right (by omega), List.take_of_length_le (Nat.le_refl _), List.take_of_length_le (by omega)]
theorem cut_hi {ds : List Dat} {r : Nat} : cutD ds (some ((r : Int) + 1)) none = ds.drop (r + 1) := by
  unfold Mx.cutD
  rw [show (r : Int) + 1 = ((r + 1 : Nat) : Int) by omega, HT.sIx_none, HT.sIx_nat]
  by_cases h : r + 1 ≤ ds.length
  · rw [Nat.min_eq_left h, List.take_of_length_le (by rw [List.length_drop]; omega)]
  · rw [Nat.min_eq_right (by omega), Nat.sub_self, List.take_zero, List.drop_eq_nil_of_le (by omega)]
theorem cut_loN {st : List Nat} {r : Nat} : Mx.cutD (st.map dN) none (some (r : Int)) = (st.take r).map dN := by rw [cut_lo, List.map_take]
theorem cut_hiN {st : List Nat} {r : Nat} : Mx.cutD (st.map dN) (some ((r : Int) + 1)) none = (st.drop (r + 1)).map dN := by rw [cut_hi, List.map_drop]
theorem set_cut {st : List Nat} {r m : Nat} (h : r < st.length) : (st.take r).map dN ++ dN m :: (st.drop (r + 1)).map dN = (st.set r m).map dN := by
  rw [List.set_eq_take_append_cons_drop, if_pos h]
  simp
@[simp] theorem flat_dN (k : Nat) : flatD (dN k) = true := rfl
@[simp] theorem d_mapN (xs : List Nat) : dats (xs.map (EV.dat ∘ dN)) = some (xs.map dN) := by rw [← List.map_map, d_map]
@[simp] theorem d_mapNA (xs : List Nat) (r : List EV) : dats (xs.map (EV.dat ∘ dN) ++ r) = (dats r).map (xs.map dN ++ ·) := by rw [← List.map_map, d_mapA]
theorem dRg_eq {m : Mx.Env → Sto → R (Int × Int)} {env : Mx.Env} {s s1 : Sto} {a b : Int} {items : List Dat} (hm : m env s = .ok (a, b) s1) (hr : rgOk a b = true) (hi : rgD a b = items) : dRg m env s = .ok items s1 := by
  unfold dRg
  rw [hm]
  show (if rgOk a b = true then _ else _) = _
  rw [if_pos hr, hi]
theorem law_free_go {x0 x1 x2 x4 : Option EV} {xs : List Nat} : ∀ (f k : Nat) (x5 : Option EV), (∃ j, k ≤ j ∧ j < k + f ∧ j ∉ xs) →
    forGo (gN 5) (sIf (tru (e2 ninO (eV 5) (eV 3))) (sRet (eV 5)) sNil) ((List.range' k f).map dN) [x0, x1, x2, some (.dat (.list (xs.map dN))), x4, x5] [] = .ok (.ret (.dat (dN (mexGo xs f k)))) []
  | 0, k, x5, h => by
    obtain ⟨j, h1, h2, _⟩ := h
    omega
  | f + 1, k, x5, h => by
    rw [List.range'_succ, List.map_cons]
    have q := any_eqv xs k
    by_cases hk : k ∈ xs
    · have ih := law_free_go (x0 := x0) (x1 := x1) (x2 := x2) (x4 := x4) f (k + 1) (some (.dat (dN k))) (by
        obtain ⟨j, h1, h2, h3⟩ := h
        refine ⟨j, ?_, by omega, h3⟩
        rcases Nat.eq_or_lt_of_le h1 with z | z
        · rw [← z] at h3; exact absurd hk h3
        · omega)
      have e : mexGo xs (f + 1) k = mexGo xs f (k + 1) := by rw [mexGo, if_pos hk]
      rw [e, ← ih]
      have q' : ((xs.map dN).any fun z => z.eqv (dN k)) = true := by rw [show dN k = .int (k : Int) from rfl, q, decide_eq_true hk]
      have fl : flatD (dN k) = true := rfl
      simp [q', fl, -List.any_map]
    · have e : mexGo xs (f + 1) k = k := by rw [mexGo, if_neg hk]
      rw [e]
      have q' : ((xs.map dN).any fun z => z.eqv (dN k)) = false := by rw [show dN k = .int (k : Int) from rfl, q, decide_eq_false hk]
      have fl : flatD (dN k) = true := rfl
      simp [q', fl, -List.any_map]
theorem rg_range' (n : Nat) : (List.range n).map dN = (List.range' 0 n).map dN := by rw [List.range_eq_range']
section
variable {R : List (List Nat)} {n : Nat} (h : RowsOk R n) {st : List Nat} (hs : st.length = n) {r : Nat} (hr : r < n)
include h hs hr
end
end Lw

set_option maxHeartbeats 1000000
/-! stories, houses drawn -/
namespace Lw
open PySem PySem.Spec PyProof.Rows L2 Mx
def dSt (st : List Nat) : Dat := .tuple (st.map dN)
theorem keyL_len (R : List (List Nat)) (st : List Nat) (r : Nat) : (keyL R st r).length = st.length := by simp [keyL]
/-- the states of a story after the first -/
def storyL (R : List (List Nat)) : List Nat → List Nat → List (List Nat)
  | _, [] => []
  | st, r :: ks => keyL R st r :: storyL R (keyL R st r) ks
def doneL (R : List (List Nat)) (st ks : List Nat) : List Nat := ks.foldl (keyL R) st
theorem doneL_len (R : List (List Nat)) : ∀ (ks st : List Nat), (doneL R st ks).length = st.length
  | [], st => rfl
  | k :: ks, st => by
    show (doneL R (keyL R st k) ks).length = _
    rw [doneL_len R ks, keyL_len]
theorem storyL_len (R : List (List Nat)) : ∀ (ks st : List Nat), (storyL R st ks).length = ks.length
  | [], _ => rfl
  | k :: ks, st => by rw [storyL, List.length_cons, storyL_len R ks, List.length_cons]
theorem storyL_last (R : List (List Nat)) : ∀ (ks st : List Nat), (st :: storyL R st ks).getLast? = some (doneL R st ks)
  | [], st => rfl
  | k :: ks, st => by
    rw [storyL, List.getLast?_cons_cons, storyL_last R ks]
    rfl
theorem at_last {xs : List Dat} {v : Dat} (h : xs.getLast? = some v) : atI xs (-1) = some v := by
  obtain ⟨ys, rfl⟩ := List.getLast?_eq_some_iff.mp h
  exact atI_last _ _
section
variable {R : List (List Nat)} {n : Nat} (h : RowsOk R n)
include h
end
theorem shp_dSt (st : List Nat) : shp 60 (dSt st) = true := by
  unfold dSt
  rw [shp, List.all_map, List.all_eq_true]
  exact fun _ _ => rfl
theorem eqvAll_dN : ∀ a b : List Nat, PyData.eqvAll (a.map dN) (b.map dN) = decide (a = b)
  | [], [] => rfl
  | [], _ :: _ => by simp [PyData.eqvAll]
  | _ :: _, [] => by simp [PyData.eqvAll]
  | x :: a, y :: b => by
    have e : PyData.eqv (dN x) (dN y) = decide (x = y) := by
      unfold dN
      rw [eqv_int]
      by_cases h : x = y
      · simp [h]
      · rw [decide_eq_false h, decide_eq_false (by omega)]
    rw [List.map_cons, List.map_cons, PyData.eqvAll, eqvAll_dN a b, e]
    by_cases h : x = y <;> by_cases h' : a = b <;> simp [h, h']
theorem eqv_dSt (a b : List Nat) : PyData.eqv (dSt a) (dSt b) = decide (a = b) := by
  unfold dSt
  rw [PyData.eqv, eqvAll_dN]
theorem alike_bool (a b : Bool) : F__law_alike [.dat (.bool a), .dat (.bool b)] [] = .ok (.bool (a == b)) [] := by
  cases a <;> cases b <;> rfl
def nearS (n : Nat) (ds : List (Nat × Nat)) : List (List Nat) := (nearL n ds).map sortN
theorem rowAt_nearS (n : Nat) (ds : List (Nat × Nat)) (r : Nat) : rowAt (nearS n ds) r = sortN (rowAt (nearL n ds) r) := by
  unfold rowAt nearS
  rw [List.getD_eq_getElem?_getD, List.getD_eq_getElem?_getD, List.getElem?_map]
  cases (nearL n ds)[r]? <;> rfl
section
variable {n : Nat} {ds : List (Nat × Nat)} (h : HouseOk n ds)
include h
theorem HouseOk.bd : ∀ p ∈ ds, p.1 < n ∧ p.2 < n := fun p hp => by
  have := h.rng hp
  omega
theorem near_memL {r x : Nat} : x ∈ rowAt (nearL n ds) r ↔ ((r, x) ∈ ds ∨ (x, r) ∈ ds) := nearL_mem n r x ds h.bd
theorem near_memS {r x : Nat} : x ∈ rowAt (nearS n ds) r ↔ ((r, x) ∈ ds ∨ (x, r) ∈ ds) := by rw [rowAt_nearS, sortN_mem, near_memL h]
theorem rows_of {row : List Nat} (hr : row ∈ nearL n ds) : ∃ r, row = rowAt (nearL n ds) r := by
  obtain ⟨r, hr, e⟩ := List.mem_iff_getElem.mp hr
  refine ⟨r, ?_⟩
  unfold rowAt
  rw [List.getD_eq_getElem?_getD, List.getElem?_eq_getElem hr, ← e]
  rfl
theorem rowsL : RowsOk (nearL n ds) n := by
  refine ⟨nearL_len n ds, fun row hr o ho => ?_, fun row hr => ?_, by have := h.hi; omega⟩
  · obtain ⟨r, rfl⟩ := rows_of h hr
    rcases (near_memL h).mp ho with z | z
    · exact (h.bd _ z).2
    · exact (h.bd _ z).1
  · obtain ⟨r, rfl⟩ := rows_of h hr
    have := nearL_rows n r ds h.bd
    have := h.len
    unfold rowAt
    omega
theorem rowsS : RowsOk (nearS n ds) n := by
  have q := rowsL h
  refine ⟨by unfold nearS; rw [List.length_map]; exact q.len, fun row hr o ho => ?_, fun row hr => ?_, q.small⟩
  · obtain ⟨row, hr', rfl⟩ := List.mem_map.mp hr
    exact q.lt _ hr' o ((sortN_mem _ _).mp ho)
  · obtain ⟨row, hr', rfl⟩ := List.mem_map.mp hr
    rw [sortN_len]
    exact q.few _ hr'
theorem near_eq' : F_near [.dat (dHouse n ds)] [] = .ok (dRows (nearS n ds)) [] := near_eq h
theorem key_same (st : List Nat) (r : Nat) : keyL (nearS n ds) st r = keyL (nearL n ds) st r := by
  unfold keyL
  congr 1
  refine mex_congr fun x => ?_
  unfold shown
  rw [List.mem_map, List.mem_map]
  constructor
  · rintro ⟨o, ho, e⟩
    exact ⟨o, (near_memL h).mpr ((near_memS h).mp ho), e⟩
  · rintro ⟨o, ho, e⟩
    exact ⟨o, (near_memS h).mpr ((near_memL h).mp ho), e⟩
theorem done_same : ∀ (ks st : List Nat), doneL (nearS n ds) st ks = doneL (nearL n ds) st ks
  | [], _ => rfl
  | k :: ks, st => by
    show doneL _ (keyL _ st k) ks = doneL _ (keyL _ st k) ks
    rw [key_same h, done_same ks]
end
end Lw

set_option maxHeartbeats 1000000
/-! houses and states drawn -/
namespace Lw
open PySem PySem.Spec PyProof.Rows L2 Mx
theorem flat_succ (n k : Nat) : (List.range (k + 1)).flatMap (pairsOf n) = (List.range k).flatMap (pairsOf n) ++ pairsOf n k := by
  rw [List.range_succ, List.flatMap_append]
  simp
def InvD (n k : Nat) (pt : Int) (A : List (Nat × Nat)) (x1 : Option EV) (i : Nat) (env : Mx.Env) (s : Sto) : Prop := ∃ (ds' : List (Nat × Nat)) (x6 : Option EV), ds'.Sublist (A ++ (pairsOf n k).take i) ∧ ds'.length ≤ 10 * k + i ∧ env = [some (.ref 0), x1, some (.dat (.int (n : Nat))), some (.dat (.int pt)), some (.ref 1), some (.dat (.int (k : Nat))), x6] ∧ s = [.row, .lst (ds'.map dPr)]
def InvE (n m : Nat) (pt : Int) (k : Nat) (env : Mx.Env) (s : Sto) : Prop := ∃ (ds' : List (Nat × Nat)) (x5 x6 : Option EV), ds'.Sublist ((List.range k).flatMap (pairsOf n)) ∧ ds'.length ≤ 10 * k ∧ env = [some (.ref 0), some (.dat (.int (m : Nat))), some (.dat (.int (n : Nat))), some (.dat (.int pt)), some (.ref 1), x5, x6] ∧ s = [.row, .lst (ds'.map dPr)]
def InvS (top i : Nat) (acc : List Dat) (s : Sto) : Prop := s = [.row] ∧ ∃ st : List Nat, acc = st.map dN ∧ st.length = i ∧ ∀ x ∈ st, x ≤ top
theorem law_house_inner {n k : Nat} (hn : n ≤ 8) (hk : k < n) {pt : Int} {A : List (Nat × Nat)} {ds : List (Nat × Nat)} (hA : ds.Sublist A) (hl : ds.length ≤ 10 * k) {x1 x6 : Option EV} {Q : Out → Sto → Prop}
    (fin : ∀ (ds' : List (Nat × Nat)) x6, ds'.Sublist (A ++ pairsOf n k) → ds'.length ≤ 10 * (k + 1) → Q (.nx [some (.ref 0), x1, some (.dat (.int (n : Nat))), some (.dat (.int pt)), some (.ref 1), some (.dat (.int (k : Nat))), x6]) [.row, .lst (ds'.map dPr)]) :
    (forGo (gN 6) (sIf (tru (e2 ltO (eCall1 takenF (aCons (eV 0) (aCons (eC (.int 5)) aNil))) (eV 3))) (sEx (eMt appF (eV 4) (aCons (eTup (aCons (eV 5) (aCons (eV 6) aNil))) aNil))) sNil)
      (rgD ((k : Int) + 1) n) [some (.ref 0), x1, some (.dat (.int (n : Nat))), some (.dat (.int pt)), some (.ref 1), some (.dat (.int (k : Nat))), x6] [.row, .lst (ds.map dPr)]).wp Q noE := by
  have hp : (pairsOf n k).length = n - (k + 1) := by simp [pairsOf]
  have hr : (rgD ((k : Int) + 1) n).length = n - (k + 1) := by
    simp [rgD]
    omega
  refine for_wp (InvD n k pt A x1) ⟨ds, x6, by simpa using hA, hl, rfl, rfl⟩ ?_ ?_
  · rintro i x env s hx ⟨ds', y6, h1, h2, rfl, rfl⟩
    have hi := (List.getElem?_eq_some_iff.mp hx).1
    rw [hr] at hi
    have ex : x = .int ((k + 1 + i : Nat) : Int) := by
      unfold rgD at hx
      rw [List.getElem?_map] at hx
      cases hq : (List.range ((n : Int) - (↑k + 1)).toNat)[i]? with
      | none => rw [hq] at hx; cases hx
      | some j =>
        rw [hq] at hx
        cases hx
        have hj := (List.getElem?_eq_some_iff.mp hq).2
        rw [List.getElem_range] at hj
        subst hj
        show PyData.int ((k : Int) + 1 + (i : Nat)) = _
        rw [show (k : Int) + 1 + (i : Nat) = ((k + 1 + i : Nat) : Int) by omega]
    subst ex
    have hpi : (pairsOf n k)[i]? = some (k, k + 1 + i) := by
      unfold pairsOf
      rw [List.getElem?_map, List.getElem?_range (by omega)]
      rfl
    have ht : (pairsOf n k).take (i + 1) = (pairsOf n k).take i ++ [(k, k + 1 + i)] := by rw [List.take_succ, hpi]; rfl
    have hz : 1000 ≤ sizeLine := by decide
    have hz1 : ds'.length < sizeLine := by omega
    refine ⟨_, rfl, ?_⟩
    simp [R.wp_bind]
    intro t ht5
    by_cases hc : (t : Int) < pt
    · simp [hc, hz1]
      refine ⟨ds' ++ [(k, k + 1 + i)], some (.dat (.int ((k : Int) + 1 + (i : Nat)))), ?_, by rw [List.length_append, List.length_singleton]; omega, rfl, ?_⟩
      · rw [ht, ← List.append_assoc]
        exact h1.append (List.Sublist.refl _)
      · simp [dPr]
    · simp [hc]
      refine ⟨ds', some (.dat (.int ((k : Int) + 1 + (i : Nat)))), ?_, by omega, rfl, rfl⟩
      rw [ht, ← List.append_assoc]
      exact h1.trans (List.sublist_append_left _ _)
  · rintro env s ⟨ds', y6, h1, h2, rfl, rfl⟩
    rw [hr, ← hp, List.take_length] at h1
    exact fin ds' y6 h1 (by omega)
theorem law_house_wp {m : Nat} (hm : 1 ≤ m) (hm8 : m ≤ 8) {Q : Dat → Sto → Prop} (q : ∀ n ds, HouseOk n ds → n ≤ m → Q (dHouse n ds) [.row]) : (F__law_house [.ref 0, .dat (.int (m : Nat))] [.row]).wp Q noE := by
  have c1 : (1 : Int) ≤ m := by omega
  have c2 : (m : Int) < 1073741824 := by omega
  simp [F__law_house, d__law_house, R.wp_bind, c1, c2]
  intro i hi p hp
  rw [show (1 : Int) + (i : Int) = ((1 + i : Nat) : Int) by omega]
  have hn1 : 1 ≤ 1 + i := by omega
  have hn8 : 1 + i ≤ 8 := by omega
  have hnm : 1 + i ≤ m := by omega
  generalize 1 + i = n at *
  generalize (1 : Int) + (p : Int) = pt
  rw [if_pos (rgOk0 (by omega)), rgD0]
  show (forGo _ _ _ _ _).wp _ _
  refine for_wp (InvE n m pt) ⟨[], none, none, by simp, by simp, rfl, rfl⟩ ?_ ?_
  · rintro k x env s hx ⟨ds', x5, x6, h1, h2, rfl, rfl⟩
    have hk := (List.getElem?_eq_some_iff.mp hx).1
    rw [List.length_map, List.length_range] at hk
    have ex : x = dN k := by
      rw [List.getElem?_map, List.getElem?_range hk] at hx
      cases hx
      rfl
    subst ex
    refine ⟨_, rfl, ?_⟩
    have hr : rgOk ((k : Int) + 1) n = true := by
      rw [rgOk_iff]
      omega
    simp [R.wp_bind, dN]
    rw [if_pos hr]
    refine law_house_inner hn8 hk h1 h2 fun ds2 y6 h3 h4 => ?_
    exact ⟨ds2, _, y6, by rw [flat_succ]; exact h3, h4, rfl, rfl⟩
  · rintro env s ⟨ds', x5, x6, h1, h2, rfl, rfl⟩
    rw [List.length_map, List.length_range] at h1
    simp [R.wp_bind]
    exact q n ds' ⟨hn1, hn8, h1⟩ hnm
end Lw

set_option maxHeartbeats 1000000
/-! like doors, rooms apart, orders -/
namespace Lw
open PySem PySem.Spec PyProof.Rows L2 Mx
theorem wp_outR_iff {g : Sto → Option Sto} {Q : EV → Sto → Prop} {E : Exc → Sto → Prop} (r : R Dat) : (outR g r).wp Q E ↔ r.wp (fun d s => ∃ s', g s = some s' ∧ Q (.dat d) s') noE := ⟨wp_outR r, call1 (F := neverF) r⟩
@[simp high] theorem ix_h0 (s : Sto) (n : Nat) (ds : List (Nat × Nat)) : ixD s (.dat (dHouse n ds)) (.dat (.int 0)) = some (.int (n : Nat)) := by simp [dHouse]
@[simp high] theorem ix_h1 (s : Sto) (n : Nat) (ds : List (Nat × Nat)) : ixD s (.dat (dHouse n ds)) (.dat (.int 1)) = some (.tuple (ds.map dPr)) := by simp [dHouse]
@[simp high] theorem ix_p0 (s : Sto) (p : Nat × Nat) : ixD s (.dat (dPr p)) (.dat (.int 0)) = some (.int (p.1 : Nat)) := by simp [dPr]
@[simp high] theorem ix_p1 (s : Sto) (p : Nat × Nat) : ixD s (.dat (dPr p)) (.dat (.int 1)) = some (.int (p.2 : Nat)) := by simp [dPr]
theorem ix_st (s : Sto) {st : List Nat} {o : Nat} (h : o < st.length) : ixD s (.dat (dSt st)) (.dat (.int (o : Nat))) = some (dN (stA st o)) := st_at h
@[simp] theorem shp_dN (k o : Nat) : shp k (dN o) = true := by cases k <;> rfl
@[simp] theorem eqv_dN (a b : Nat) : PyData.eqv (dN a) (dN b) = decide (a = b) := by
  unfold dN
  rw [eqv_int]
  by_cases h : a = b
  · simp [h]
  · rw [decide_eq_false h, decide_eq_false (by omega)]
theorem stA_set_ne {st : List Nat} {a o m : Nat} (h : o ≠ a) : stA (st.set a m) o = stA st o := by
  unfold stA
  rw [List.getD_eq_getElem?_getD, List.getD_eq_getElem?_getD, List.getElem?_set_ne (fun z => h z.symm)]
theorem stA_set {st : List Nat} {a m : Nat} (h : a < st.length) : stA (st.set a m) a = m := by
  unfold stA
  rw [List.getD_eq_getElem?_getD, List.getElem?_set_self h]
  rfl
theorem shown_set {row st : List Nat} {a m : Nat} (h : a ∉ row) : shown row (st.set a m) = shown row st := by
  unfold shown
  refine List.map_congr_left fun o ho => stA_set_ne fun z => ?_
  subst z
  exact h ho
def likeL (st : List Nat) (ds : List (Nat × Nat)) : List (Nat × Nat) := ds.filter fun p => decide (stA st p.1 = stA st p.2)
def dPrs (l : List (Nat × Nat)) : Dat := .tuple (l.map dPr)
theorem shp_prL (k : Nat) (l : List (Nat × Nat)) : (l.map dPr).all (shp (k + 1)) = true := by
  rw [List.all_map, List.all_eq_true]
  intro p _
  show shp (k + 1) (dPr p) = true
  cases k <;> rfl
@[simp] theorem shp_prs (l : List (Nat × Nat)) : shp 60 (.tuple (l.map dPr)) = true := shp_prL 58 l
@[simp] theorem shp_prsL (l : List (Nat × Nat)) : shp 60 (.list (l.map dPr)) = true := shp_prL 58 l
@[simp] theorem filt_f {α : Type} (l : List α) : l.filter (fun _ => false) = [] := by
  induction l with
  | nil => rfl
  | cons a r ih => rw [List.filter_cons, if_neg (by decide)]; exact ih
@[simp] theorem isNone_i (i : Int) : isNone (.int i) = false := rfl
@[simp] theorem isNone_b (i : Bool) : isNone (.bool i) = false := rfl
@[simp] theorem isNone_t (l : List Dat) : isNone (.tuple l) = false := rfl
@[simp] theorem isNone_l (l : List Dat) : isNone (.list l) = false := rfl
@[simp] theorem isNone_n : isNone .none = true := rfl
@[simp] theorem shp_i (k : Nat) (i : Int) : shp k (.int i) = true := by cases k <;> rfl
@[simp] theorem shp_b (k : Nat) (i : Bool) : shp k (.bool i) = true := by cases k <;> rfl
@[simp] theorem eqv_bool (a b : Bool) : PyData.eqv (.bool a) (.bool b) = (a == b) := by simp [PyData.eqv]
@[simp] theorem shp_tnil : shp 60 (.tuple []) = true := rfl
@[simp] theorem shp_lnil : shp 60 (.list []) = true := rfl
@[simp] theorem eqv_prs (l : List (Nat × Nat)) : PyData.eqv (.tuple (l.map dPr)) (.tuple []) = decide (l = []) := by
  cases l <;> simp [PyData.eqv, PyData.eqvAll]
@[simp] theorem eqv_prsL (l : List (Nat × Nat)) : PyData.eqv (.list (l.map dPr)) (.list []) = decide (l = []) := by
  cases l <;> simp [PyData.eqv, PyData.eqvAll]
@[simp] theorem eqv_lnil : PyData.eqv (.list []) (.list []) = true := rfl
@[simp] theorem eqv_tnil : PyData.eqv (.tuple []) (.tuple []) = true := rfl
section
variable {n : Nat} {ds : List (Nat × Nat)} (h : HouseOk n ds)
include h
theorem near_symm {a b : Nat} : b ∈ rowAt (nearS n ds) a ↔ a ∈ rowAt (nearS n ds) b := by
  rw [near_memS h, near_memS h]
  grind
theorem near_self {a : Nat} : a ∉ rowAt (nearS n ds) a := fun z => by
  rcases (near_memS h).mp z with z | z
  · have := h.rng z
    simp at this
  · have := h.rng z
    simp at this
def Apart (R : List (List Nat)) (st : List Nat) (r : Nat) : Prop := ∀ o ∈ rowAt R r, stA st o ≠ stA st r
omit h in
theorem mex_shown {row st : List Nat} {o : Nat} (h : o ∈ row) : stA st o ≠ mex (shown row st) := fun e => mex_not (shown row st) (by
  rw [← e]
  exact List.mem_map.mpr ⟨o, h, rfl⟩)
theorem key_apart {st : List Nat} (hs : st.length = n) {k : Nat} (hk : k < n) : Apart (nearS n ds) (keyL (nearS n ds) st k) k := fun o ho => by
  have hne : o ≠ k := fun z => by
    subst z
    exact near_self h ho
  unfold keyL
  rw [stA_set_ne hne, stA_set (by omega)]
  exact mex_shown ho
theorem key_keeps {st : List Nat} (hs : st.length = n) {k q : Nat} (hk : k < n) (ha : Apart (nearS n ds) st q) : Apart (nearS n ds) (keyL (nearS n ds) st k) q := by
  by_cases e : q = k
  · subst e
    exact key_apart h hs hk
  · intro o ho
    unfold keyL
    rw [stA_set_ne e]
    by_cases e2 : o = k
    · subst e2
      rw [stA_set (by omega)]
      exact fun z => mex_shown ((near_symm h).mp ho) z.symm
    · rw [stA_set_ne e2]
      exact ha o ho
theorem done_apart : ∀ (ks st : List Nat) (A : Nat → Prop), st.length = n → (∀ k ∈ ks, k < n) → (∀ r, A r → Apart (nearS n ds) st r) → ∀ r, A r ∨ r ∈ ks → Apart (nearS n ds) (doneL (nearS n ds) st ks) r
  | [], st, A, hs, hk, ha, r, hr => ha r (by simpa using hr)
  | k :: ks, st, A, hs, hk, ha, r, hr => by
    show Apart _ (doneL _ (keyL _ st k) ks) r
    have hk0 := hk k List.mem_cons_self
    refine done_apart ks (keyL (nearS n ds) st k) (fun r => A r ∨ r = k) (by rw [keyL_len]; exact hs) (fun q hq => hk q (List.mem_cons_of_mem _ hq)) (fun q hq => ?_) r (by
      rcases hr with z | z
      · exact .inl (.inl z)
      · rcases List.mem_cons.mp z with z | z
        · exact .inl (.inr z)
        · exact .inr z)
    rcases hq with z | rfl
    · exact key_keeps h hs hk0 (ha q z)
    · exact key_apart h hs hk0
theorem like_not {st : List Nat} {p : Nat × Nat} (hp : p ∈ likeL st ds) : ¬ Apart (nearS n ds) st p.1 ∧ ¬ Apart (nearS n ds) st p.2 := by
  obtain ⟨h1, h2⟩ := List.mem_filter.mp hp
  have h2 := of_decide_eq_true h2
  exact ⟨fun z => z p.2 ((near_memS h).mpr (.inl h1)) h2.symm, fun z => z p.1 ((near_memS h).mpr (.inr h1)) h2⟩
theorem like_nil {st : List Nat} (ha : ∀ r, r < n → Apart (nearS n ds) st r) : likeL st ds = [] := by
  cases e : likeL st ds with
  | nil => rfl
  | cons p l =>
    have hp : p ∈ likeL st ds := by rw [e]; exact List.mem_cons_self
    exact absurd (ha p.1 (h.bd p (List.mem_filter.mp hp).1).1) (like_not h hp).1
/-- the numbers stay small -/
theorem key_small {st : List Nat} (hs : st.length = n) (hm : ∀ x ∈ st, x ≤ 60) {k : Nat} (hk : k < n) : ∀ x ∈ keyL (nearS n ds) st k, x ≤ 60 := fun x hx => by
  rcases List.mem_or_eq_of_mem_set hx with z | z
  · exact hm x z
  · have := mex_le (shown (rowAt (nearS n ds) k) st)
    have h56 := (rowsS h).few _ (row_mem (rowsS h) hs hk)
    have : (shown (rowAt (nearS n ds) k) st).length = (rowAt (nearS n ds) k).length := by simp [shown]
    omega
theorem done_small : ∀ (ks st : List Nat), st.length = n → (∀ x ∈ st, x ≤ 60) → (∀ k ∈ ks, k < n) → ∀ x ∈ doneL (nearS n ds) st ks, x ≤ 60
  | [], _, _, hm, _ => hm
  | k :: ks, st, hs, hm, hk => by
    show ∀ x ∈ doneL _ (keyL _ st k) ks, x ≤ 60
    exact done_small ks _ (by rw [keyL_len]; exact hs) (key_small h hs hm (hk k List.mem_cons_self)) fun q hq => hk q (List.mem_cons_of_mem _ hq)
variable {st ks : List Nat} (hs : st.length = n) (hm : ∀ x ∈ st, x ≤ 60)
include hs
include hm
variable (hk : ∀ k ∈ ks, k < n) (hl : ks.length ≤ 60)
include hk hl
end
theorem storyL_at (R : List (List Nat)) : ∀ (ks st : List Nat) (i : Nat), i ≤ ks.length → (st :: storyL R st ks)[i]? = some (doneL R st (ks.take i))
  | ks, st, 0, _ => by simp [doneL]
  | [], st, i + 1, h => by simp at h
  | k :: ks, st, i + 1, h => by
    rw [List.getElem?_cons_succ, storyL, storyL_at R ks (keyL R st k) i (by simpa using h)]
    rfl
end Lw

set_option maxHeartbeats 1000000
/-! rows of keys and orders drawn; alike -/
namespace Lw
open PySem PySem.Spec PyProof.Rows L2 Mx
def InvK (n i : Nat) (acc : List Dat) (s : Sto) : Prop := s = [.row] ∧ ∃ ks : List Nat, acc = ks.map dN ∧ ks.length = i ∧ ∀ x ∈ ks, x < n
theorem erase_map {α β : Type} (f : α → β) : ∀ (l : List α) (t : Nat), (l.map f).eraseIdx t = (l.eraseIdx t).map f
  | [], _ => rfl
  | _ :: _, 0 => rfl
  | a :: l, t + 1 => by
    show f a :: (l.map f).eraseIdx t = f a :: (l.eraseIdx t).map f
    rw [erase_map f l t]
theorem mem_erase_or : ∀ (l : List Nat) (t r : Nat), t < l.length → r ∈ l → r = l.getD t 0 ∨ r ∈ l.eraseIdx t
  | [], _, _, h, _ => by simp at h
  | a :: l, 0, r, _, h => by
    rcases List.mem_cons.mp h with z | z
    · exact .inl z
    · exact .inr z
  | a :: l, t + 1, r, h, hr => by
    rcases List.mem_cons.mp hr with z | z
    · exact .inr (by rw [z]; exact List.mem_cons_self)
    · rcases mem_erase_or l t r (by simpa using h) z with q | q
      · exact .inl (by rw [q]; rfl)
      · exact .inr (List.mem_cons_of_mem _ q)
theorem getD_mem {l : List Nat} {t : Nat} (h : t < l.length) : l.getD t 0 ∈ l := by
  rw [List.getD_eq_getElem?_getD, List.getElem?_eq_getElem h]
  exact List.getElem_mem _
theorem pop_eq {left : List Nat} {s : Sto} {c t : Nat} (ht : t < left.length) (hl : left.length ≤ 1000) (hs : s[c]? = some (.lst (left.map dN))) : popAtF s (.ref c) [.dat (.int (t : Nat))] = some (dN (left.getD t 0), s.set c (.lst ((left.eraseIdx t).map dN))) := by
  have e1 : wIn 9223372036854775808 (t : Int) = true := wIn_iff.mpr ⟨by omega, by omega⟩
  have e2 : seqIndex? (t : Int) (left.map dN).length = some t := by
    unfold seqIndex?
    rw [if_neg (show ¬ ((t : Int) < 0) by omega), List.length_map]
    simp [ht]
  have e3 : (left.map dN)[t]? = some (dN (left.getD t 0)) := by
    rw [List.getElem?_map, List.getD_eq_getElem?_getD, List.getElem?_eq_getElem ht]
    rfl
  have e4 : (left.map dN).eraseIdx t = (left.eraseIdx t).map dN := erase_map _ _ _
  rw [u_popAtF]
  simp only [hs]
  rw [if_pos e1]
  simp only [e2, e3, e4]
def InvO (n i : Nat) (env : Mx.Env) (s : Sto) : Prop := ∃ (left found : List Nat) (x4 : Option EV), left.length + i = n ∧ found.length = i ∧ (∀ r, r < n → r ∈ left ∨ r ∈ found) ∧ (∀ x ∈ left, x < n) ∧ (∀ x ∈ found, x < n) ∧ env = [some (.ref 0), some (.dat (.int (n : Nat))), some (.ref 1), some (.ref 2), x4] ∧ s = [.row, .lst (left.map dN), .lst (found.map dN)]
theorem alike_int (k : Nat) (i : Int) : F__law_alike_n (k + 1) [.dat (.int i), .dat (.int i)] [] = .ok (.bool true) [] := by
  have e : shp 60 (.int i) = true := rfl
  simp [F__law_alike_n, F__law_alike_1, d__law_alike, e]
theorem alike_tup (k : Nat) (xs : List Dat) (h : ∀ x ∈ xs, F__law_alike_n k [.dat x, .dat x] [] = .ok (.bool true) []) (hl : xs.length ≤ 1000) : F__law_alike_n (k + 1) [.dat (.tuple xs), .dat (.tuple xs)] [] = .ok (.bool true) [] := by
  have e : ∀ b, shp 60 (.bool b) = true := fun _ => rfl
  have e1 : PyData.eqv (.bool false) (.bool false) = true := rfl
  have e2 : ∀ i : Int, shp 60 (.int i) = true := fun _ => rfl
  have hr := rgOk0 (n := xs.length) hl
  simp [F__law_alike_n, F__law_alike_1, d__law_alike, e, e1, e2, hr]
  rw [lc_filM (fun _ => false) dN (hy := fun o ho => ⟨_, rfl, by
    have ho' : o < xs.length := List.mem_range.mp ho
    have q : atI xs (o : Int) = some xs[o] := atI_nat (List.getElem?_eq_getElem ho')
    have q2 := h xs[o] (List.getElem_mem _)
    simp [dN, q, q2], fun z => by cases z⟩)]
  simp
theorem alike_pr (k : Nat) (p : Nat × Nat) : F__law_alike_n (k + 2) [.dat (dPr p), .dat (dPr p)] [] = .ok (.bool true) [] := alike_tup (k + 1) _ (fun x hx => by
  simp at hx
  rcases hx with rfl | rfl
  · exact alike_int k _
  · exact alike_int k _) (by simp)
theorem alike_prs (k : Nat) (l : List (Nat × Nat)) (hl : l.length ≤ 1000) : F__law_alike_n (k + 3) [.dat (.tuple (l.map dPr)), .dat (.tuple (l.map dPr))] [] = .ok (.bool true) [] := alike_tup (k + 2) _ (fun x hx => by
  obtain ⟨p, _, rfl⟩ := List.mem_map.mp hx
  exact alike_pr k p) (by rw [List.length_map]; exact hl)
end Lw

set_option maxHeartbeats 2000000
/-! largest sets -/
namespace Lw
open PySem PySem.Spec PyProof.Rows L2 Mx
@[simp high] theorem inD_t (s : Sto) (k : Nat) (xs : List Nat) : inD s (.dat (.int (k : Int))) (.dat (dSt xs)) = some (decide (k ∈ xs)) := by
  have e := any_eqv xs k
  simp only [dSt, in_t, flat_int, all_flat, Bool.and_self, if_true, e]
@[simp high] theorem inD_tN (s : Sto) (k : Nat) (xs : List Nat) : inD s (.dat (dN k)) (.dat (dSt xs)) = some (decide (k ∈ xs)) := inD_t s k xs
@[simp high] theorem inD_tt (s : Sto) (k : Nat) (xs : List Nat) : inD s (.dat (dN k)) (.dat (.tuple (xs.map dN))) = some (decide (k ∈ xs)) := inD_t s k xs
@[simp high] theorem inD_lN (s : Sto) (k : Nat) (xs : List Nat) : inD s (.dat (dN k)) (.dat (.list (xs.map dN))) = some (decide (k ∈ xs)) := by
  have e := any_eqv xs k
  have e' : ((xs.map dN).any fun z => PyData.eqv z (dN k)) = decide (k ∈ xs) := e
  simp only [in_l, flat_dN, all_flat, Bool.and_self, if_true, e']
@[simp high] theorem ix_stN (s : Sto) {st : List Nat} {o : Nat} (h : o < st.length) : ixD s (.dat (dSt st)) (.dat (dN o)) = some (dN (stA st o)) := st_at h
@[simp high] theorem ix_row (s : Sto) {R : List (List Nat)} {r : Nat} (h : r < R.length) : ixD s (.dat (dRows R)) (.dat (dN r)) = some (.list ((rowAt R r).map dN)) := row_at h
/-- some room of a set beside a room -/
def nbB (R : List (List Nat)) (some : List Nat) (r : Nat) : Bool := (rowAt R r).any fun o => decide (o ∈ some)
def lgB (R : List (List Nat)) (rooms some : List Nat) : Bool := rooms.all fun r => decide (r ∈ some) || nbB R some r
def frB (R : List (List Nat)) (some : List Nat) : Bool := !(some.any fun r => nbB R some r)
def freeL (R : List (List Nat)) : List Nat → List (List Nat) → List (List Nat)
  | [], acc => acc
  | r :: rs, acc => freeL R rs (acc ++ (acc.filter fun s => !nbB R s r).map fun s => s ++ [r])
theorem bls_mapF {α : Type} (f : α → Bool) (l : List α) : blsD (l.map fun x => PyData.bool (f x)) = some (l.map f) := by
  rw [show (l.map fun x => PyData.bool (f x)) = (l.map f).map PyData.bool by rw [List.map_map]; rfl, bls_map]
section
variable {R : List (List Nat)} {n : Nat} (h : RowsOk R n)
include h
theorem is_largest_eq {rooms some : List Nat} (hr : ∀ r ∈ rooms, r < n) : F_is_largest [.dat (dRows R), .dat (dSt rooms), .dat (dSt some)] [] = .ok (.bool (lgB R rooms some)) [] := by
  simp [F_is_largest, d_is_largest]
  have ed : dSt rooms = .tuple (rooms.map dN) := rfl
  rw [ed]
  simp
  rw [lc_mapM (fun r => PyData.bool (decide (r ∈ some) || nbB R some r)) (hy := fun r hm => ⟨_, rfl, by simp, by
    have hl : r < R.length := by rw [h.len]; exact hr r hm
    by_cases hs : r ∈ some
    · simp [hs]
    · simp [hs, ix_row _ hl]
      rw [lc_mapM (fun o => PyData.bool (decide (o ∈ some))) (hy := fun o _ => ⟨_, rfl, by simp, by simp⟩)]
      simp [bls_mapF, nbB]⟩)]
  simp [bls_mapF, lgB]
end
/-! sorting of sets -/
def ltS : List Nat → List Nat → Bool
  | [], [] => false
  | [], _ :: _ => true
  | _ :: _, [] => false
  | x :: xs, y :: ys => if x = y then ltS xs ys else decide (x < y)
def insS (a : List Nat) : List (List Nat) → List (List Nat)
  | [] => [a]
  | b :: l => if ltS b a = true then b :: insS a l else a :: b :: l
def sortS : List (List Nat) → List (List Nat)
  | [] => []
  | a :: l => insS a (sortS l)
theorem ltL_dN : ∀ a b : List Nat, ltL (a.map dN) (b.map dN) = ltS a b
  | [], [] => by simp [ltL, ltS]
  | [], _ :: _ => by simp [ltL, ltS]
  | _ :: _, [] => by simp [ltL, ltS]
  | x :: a, y :: b => by
    rw [List.map_cons, List.map_cons, ltL, eqv_dN, ltS, ltL_dN a b]
    by_cases e : x = y
    · simp [e]
    · simp [e, dN, ltD]
theorem ltD_dSt (a b : List Nat) : ltD (dSt a) (dSt b) = ltS a b := by rw [dSt, dSt, ltD, ltL_dN]
theorem insD_dSt (a : List Nat) : ∀ l : List (List Nat), insD (dSt a) (l.map dSt) = (insS a l).map dSt
  | [] => rfl
  | b :: l => by
    rw [List.map_cons, insD, insS, ltD_dSt]
    by_cases e : ltS b a = true
    · rw [if_pos e, if_pos e, List.map_cons, insD_dSt a l]
    · rw [if_neg e, if_neg e]
      rfl
theorem sortD_dSt : ∀ l : List (List Nat), sortD (l.map dSt) = (sortS l).map dSt
  | [] => rfl
  | a :: l => by rw [List.map_cons, sortD, sortD_dSt l, insD_dSt, sortS]
theorem flatT_dSt {a : List Nat} (h : a ≠ []) : flatT (dSt a) = true := by
  cases a with
  | nil => exact absurd rfl h
  | cons x r =>
    show ((x :: r).map dN).all isInt = true
    rw [List.all_map, List.all_eq_true]
    exact fun _ _ => rfl
theorem okS_dSt {l : List (List Nat)} (h : ∀ s ∈ l, s ≠ []) : okS (l.map dSt) = true := by
  have : (l.map dSt).all flatT = true := by
    rw [List.all_map, List.all_eq_true]
    exact fun s hs => flatT_dSt (h s hs)
  unfold okS
  rw [this, Bool.true_or]
theorem sortAF_st (s : Sto) {l : List (List Nat)} (h : ∀ s ∈ l, s ≠ []) : sortAF s [.dat (.list (l.map dSt))] = some ((sortS l).map dSt) := by
  cases l with
  | nil => rfl
  | cons a r =>
    have e : sortIF s [.dat (.list ((a :: r).map dSt))] = none := rfl
    rw [u_sortAF, e]
    show sortDF s _ = _
    rw [u_sortDF, if_pos (okS_dSt h), sortD_dSt]
theorem insS_perm (a : List Nat) : ∀ l, (insS a l).Perm (a :: l)
  | [] => .refl _
  | b :: l => by
    unfold insS
    split
    · exact ((insS_perm a l).cons b).trans (.swap _ _ _)
    · exact .refl _
theorem sortS_perm : ∀ l : List (List Nat), (sortS l).Perm l
  | [] => .refl _
  | a :: l => (insS_perm a _).trans ((sortS_perm l).cons a)
theorem sortS_mem {b : List Nat} {l : List (List Nat)} : b ∈ sortS l ↔ b ∈ l := (sortS_perm l).mem_iff
theorem ltS_irrefl : ∀ a, ltS a a = false
  | [] => rfl
  | x :: a => by rw [ltS, if_pos rfl, ltS_irrefl a]
theorem ltS_trans : ∀ a b c, ltS a b = true → ltS b c = true → ltS a c = true
  | [], [], c, h, _ => by simp [ltS] at h
  | [], _ :: _, [], _, h => by simp [ltS] at h
  | [], _ :: _, _ :: _, _, _ => rfl
  | _ :: _, [], _, h, _ => by simp [ltS] at h
  | _ :: _, _ :: _, [], _, h => by simp [ltS] at h
  | x :: a, y :: b, z :: c, h1, h2 => by
    rw [ltS] at h1 h2 ⊢
    by_cases e1 : x = y
    · by_cases e2 : y = z
      · rw [if_pos e1] at h1
        rw [if_pos e2] at h2
        rw [if_pos (e1.trans e2)]
        exact ltS_trans a b c h1 h2
      · rw [if_neg e2] at h2
        rw [if_neg (by rw [e1]; exact e2), e1]
        exact h2
    · rw [if_neg e1] at h1
      by_cases e2 : y = z
      · rw [if_neg (by rw [← e2]; exact e1), ← e2]
        exact h1
      · rw [if_neg e2] at h2
        have := of_decide_eq_true h1
        have := of_decide_eq_true h2
        rw [if_neg (by omega), decide_eq_true (by omega)]
theorem ltS_total : ∀ a b, ltS a b = false → ltS b a = false → a = b
  | [], [], _, _ => rfl
  | [], _ :: _, h, _ => by simp [ltS] at h
  | _ :: _, [], _, h => by simp [ltS] at h
  | x :: a, y :: b, h1, h2 => by
    rw [ltS] at h1 h2
    by_cases e : x = y
    · subst e
      rw [if_pos rfl] at h1 h2
      rw [ltS_total a b h1 h2]
    · rw [if_neg e] at h1
      rw [if_neg fun z => e z.symm] at h2
      have := of_decide_eq_false h1
      have := of_decide_eq_false h2
      omega
theorem leS_trans {a b c : List Nat} (h1 : ltS b a = false) (h2 : ltS c b = false) : ltS c a = false := by
  cases e : ltS c a with
  | false => rfl
  | true =>
    cases e2 : ltS a b with
    | true => rw [ltS_trans _ _ _ e e2] at h2; cases h2
    | false =>
      rw [ltS_total _ _ e2 h1] at e
      rw [e] at h2
      cases h2
theorem insS_sorted (a : List Nat) : ∀ l, l.Pairwise (fun x y => ltS y x = false) → (insS a l).Pairwise fun x y => ltS y x = false
  | [], _ => List.pairwise_singleton _ _
  | b :: l, h => by
    have h' := List.pairwise_cons.mp h
    unfold insS
    by_cases e : ltS b a = true
    · rw [if_pos e]
      refine List.pairwise_cons.mpr ⟨fun c hc => ?_, insS_sorted a l h'.2⟩
      rcases List.mem_cons.mp ((insS_perm a l).mem_iff.mp hc) with rfl | hc
      · cases q : ltS c b with
        | false => rfl
        | true =>
          have := ltS_trans _ _ _ q e
          rw [ltS_irrefl] at this
          cases this
      · exact h'.1 c hc
    · rw [if_neg e]
      have e : ltS b a = false := by simpa using e
      refine List.pairwise_cons.mpr ⟨fun c hc => ?_, h⟩
      rcases List.mem_cons.mp hc with rfl | hc
      · exact e
      · exact leS_trans e (h'.1 c hc)
theorem sortS_sorted : ∀ l, (sortS l).Pairwise fun x y => ltS y x = false
  | [] => List.Pairwise.nil
  | a :: l => insS_sorted a _ (sortS_sorted l)
theorem uniqS {l m : List (List Nat)} (p : l.Perm m) (h1 : l.Pairwise fun x y => ltS y x = false) (h2 : m.Pairwise fun x y => ltS y x = false) : l = m :=
  uniq_sorted (r := fun x y => ltS y x = false) p h1 h2 fun a _ b _ q1 q2 => ltS_total _ _ q2 q1
theorem sortS_eq {l m : List (List Nat)} (hl : l.Nodup) (hm : m.Nodup) (h : ∀ s, s ∈ l ↔ s ∈ m) : sortS l = sortS m := by
  have p : l.Perm m := (List.perm_ext_iff_of_nodup hl hm).mpr h
  exact uniqS ((sortS_perm l).trans (p.trans (sortS_perm m).symm)) (sortS_sorted l) (sortS_sorted m)
theorem sortS_id {l : List (List Nat)} (h : l.Pairwise fun x y => ltS y x = false) : sortS l = l := uniqS (sortS_perm l) (sortS_sorted l) h
/-! the sets -/
def lgL (R : List (List Nat)) (rooms : List Nat) : List (List Nat) := sortS ((freeL R rooms [[]]).filter (lgB R rooms))
theorem freeL_len (R : List (List Nat)) : ∀ (rooms : List Nat) (acc : List (List Nat)), (freeL R rooms acc).length ≤ 2 ^ rooms.length * acc.length
  | [], acc => by simp [freeL]
  | r :: rs, acc => by
    have h := freeL_len R rs (acc ++ (acc.filter fun s => !nbB R s r).map fun s => s ++ [r])
    have h2 : (acc ++ (acc.filter fun s => !nbB R s r).map fun s => s ++ [r]).length ≤ 2 * acc.length := by
      rw [List.length_append, List.length_map]
      have := List.length_filter_le (fun s => !nbB R s r) acc
      omega
    have h3 := Nat.mul_le_mul_left (2 ^ rs.length) h2
    rw [freeL, List.length_cons, Nat.pow_succ, Nat.mul_assoc]
    omega
theorem lgB_nil {R : List (List Nat)} {rooms : List Nat} (h : rooms ≠ []) : lgB R rooms [] = false := by
  cases rooms with
  | nil => exact absurd rfl h
  | cons r rs =>
    unfold lgB
    rw [List.all_cons]
    have : nbB R [] r = false := by
      unfold nbB
      rw [List.any_eq_false]
      simp
    rw [this]
    simp
theorem lgL_ne {R : List (List Nat)} {rooms s : List Nat} (h : rooms ≠ []) (hs : s ∈ (freeL R rooms [[]]).filter (lgB R rooms)) : s ≠ [] := fun e => by
  have := (List.mem_filter.mp hs).2
  rw [e, lgB_nil h] at this
  cases this
section
variable {R : List (List Nat)} {n : Nat} (h : RowsOk R n)
include h
theorem free_go (x1 : Option EV) : ∀ (rs : List Nat) (acc : List (List Nat)) (x3 : Option EV), (∀ r ∈ rs, r < n) → 2 ^ rs.length * acc.length ≤ 4096 → (∀ s ∈ acc, s.length + rs.length ≤ 100) → ∃ x3',
    forGo (gN 3) (sEx (eMt extF (eV 2) (aCons (eFrz (fLcC 2 [4] (gN 4) (tNotD (tru (eB anyD (aCons (eFrz (fLc (dI (e2 ixD (eV 0) (eV 3))) [5] (gN 5) tYesD (e2 inO (eV 5) (eV 4)))) aNil)))) (eTup (aStar (eV 4) (aCons (eV 3) aNil))))) aNil))) (rs.map dN) [some (.dat (dRows R)), x1, some (.ref 0), x3, none, none] [.lst (acc.map dSt)] =
      .ok (.nx [some (.dat (dRows R)), x1, some (.ref 0), x3', none, none]) [.lst ((freeL R rs acc).map dSt)]
  | [], acc, x3, _, _, _ => ⟨x3, rfl⟩
  | r :: rs, acc, x3, hr, hl, hb => by
    have hrl : r < R.length := by rw [h.len]; exact hr r List.mem_cons_self
    have hp : 1 ≤ 2 ^ rs.length := Nat.one_le_two_pow
    have h2 : (acc.filter fun s => !nbB R s r).length ≤ acc.length := List.length_filter_le _ _
    rw [List.length_cons, Nat.pow_succ] at hl
    have h3 : acc.length ≤ 2 ^ rs.length * acc.length := Nat.le_mul_of_pos_left _ hp
    have h4 : 2 ^ rs.length * 2 * acc.length = 2 * (2 ^ rs.length * acc.length) := by
      rw [Nat.mul_comm (2 ^ rs.length) 2, Nat.mul_assoc]
    have hz : 10000 ≤ sizeLine := by decide
    obtain ⟨x3', ih⟩ := free_go x1 rs (acc ++ (acc.filter fun s => !nbB R s r).map fun s => s ++ [r]) (some (.dat (dN r))) (fun q hq => hr q (List.mem_cons_of_mem _ hq)) (by
      have : (acc ++ (acc.filter fun s => !nbB R s r).map fun s => s ++ [r]).length ≤ 2 * acc.length := by
        rw [List.length_append, List.length_map]
        omega
      have := Nat.mul_le_mul_left (2 ^ rs.length) this
      rw [← Nat.mul_assoc] at this
      omega) (fun s hs => by
        rcases List.mem_append.mp hs with hs | hs
        · have := hb s hs
          rw [List.length_cons] at this
          omega
        · obtain ⟨t, ht, rfl⟩ := List.mem_map.mp hs
          have := hb t (List.mem_filter.mp ht).1
          rw [List.length_cons] at this
          rw [List.length_append, List.length_singleton]
          omega)
    refine ⟨x3', ?_⟩
    rw [List.map_cons, for_cons]
    simp
    rw [lc_filM (fun s => !nbB R s r) (fun s => dSt (s ++ [r])) (hy := fun s hs => ⟨_, rfl, by
      simp [ix_row _ hrl]
      rw [lc_mapM (fun o => PyData.bool (decide (o ∈ s))) (hy := fun o _ => ⟨_, rfl, by simp, by simp⟩)]
      simp [bls_mapF, nbB], fun _ => by
      have ed : dSt s = .tuple (s.map dN) := rfl
      have := hb s hs
      simp [ed]
      rw [if_pos (by omega)]
      simp [dSt]⟩)]
    have hz1 : acc.length + (acc.filter fun s => !nbB R s r).length ≤ sizeLine := by omega
    have e : acc.map dSt ++ (acc.filter fun s => !nbB R s r).map (fun s => dSt (s ++ [r])) = (acc ++ (acc.filter fun s => !nbB R s r).map fun s => s ++ [r]).map dSt := by
      rw [List.map_append, List.map_map]
      rfl
    simp [hz1]
    rw [e]
    exact ih
theorem largest_in_eq {rooms : List Nat} (hr : ∀ r ∈ rooms, r < n) (hl : rooms.length ≤ 8) (hne : rooms ≠ []) : F_largest_in [.dat (dRows R), .dat (dSt rooms)] [] = .ok (.list ((lgL R rooms).map dSt)) [] := by
  have hp : 2 ^ rooms.length ≤ 2 ^ 8 := Nat.pow_le_pow_right (by decide) hl
  obtain ⟨x3, e⟩ := free_go h (some (.dat (dSt rooms))) rooms [[]] none hr (by simp; omega) (by simp; omega)
  have ed : dSt rooms = .tuple (rooms.map dN) := rfl
  have e' := e
  rw [ed] at e'
  have hs := sortAF_st [Cell.dead] (l := (freeL R rooms [[]]).filter (lgB R rooms)) fun s hs => lgL_ne hne hs
  rw [show ([[]] : List (List Nat)).map dSt = [.tuple []] from rfl] at e'
  simp [F_largest_in, d_largest_in, ed, e', -u_sortAF]
  rw [lc_filM (lgB R rooms) dSt (hy := fun s _ => ⟨_, rfl, by
    have e2 : F_is_largest [.dat (dRows R), .dat (.tuple (rooms.map dN)), .dat (dSt s)] [] = .ok (.bool (lgB R rooms s)) [] := is_largest_eq h hr
    simp [e2], fun _ => by simp⟩)]
  simp [hs, lgL, -u_sortAF]
end
/-! ascending sets -/
def Asc (l : List Nat) : Prop := l.Pairwise (· < ·)
theorem sortU_asc : ∀ {l : List Nat}, Asc l → sortU (l.map fun i => ((i : Nat) : Int)) = l.map fun i => ((i : Nat) : Int)
  | [], _ => rfl
  | a :: l, h => by
    have h' := List.pairwise_cons.mp h
    rw [List.map_cons, sortU, sortU_asc h'.2]
    cases l with
    | nil => rfl
    | cons b l =>
      have := h'.1 b List.mem_cons_self
      rw [List.map_cons, insU, if_pos (by omega)]
theorem asc_lenA : ∀ {l : List Nat} {a n : Nat}, Asc l → (∀ x ∈ l, a ≤ x ∧ x < n) → l.length ≤ n - a
  | [], _, _, _, _ => Nat.zero_le _
  | x :: l, a, n, h, hb => by
    have h' := List.pairwise_cons.mp h
    have hx := hb x List.mem_cons_self
    have := asc_lenA (a := x + 1) (n := n) h'.2 fun y hy => ⟨h'.1 y hy, (hb y (List.mem_cons_of_mem _ hy)).2⟩
    rw [List.length_cons]
    omega
theorem asc_len {l : List Nat} (h : Asc l) {n : Nat} (hb : ∀ x ∈ l, x < n) : l.length ≤ n := asc_lenA (a := 0) h fun x hx => ⟨Nat.zero_le _, hb x hx⟩
@[simp] theorem eqvAll_dN' (a b : List Nat) : PyData.eqvAll (a.map dN) (b.map dN) = decide (a = b) := eqvAll_dN a b
theorem shp_lN (a : List Nat) : shp 60 (.list (a.map dN)) = true := by
  rw [shp, List.all_map, List.all_eq_true]
  exact fun _ _ => rfl
section
variable {n : Nat} {ds : List (Nat × Nat)} (h : HouseOk n ds)
include h
theorem need_set_eq {l : List Nat} (ha : Asc l) (hb : ∀ x ∈ l, x < n) : F_need_set [.dat (dHouse n ds), .dat (dSt l)] [] = .ok .none [] := by
  have hl := asc_len ha hb
  have hn := h.hi
  have c1 : (l.length : Int) ≤ n := by omega
  have e1 : F_is_list [.dat (.tuple (l.map dN)), .dat (.int 0), .dat (.int (n : Nat))] [] = .ok (.bool true) [] := by
    rw [is_list_eq]
    simp [c1]
  have e2 : intsD (l.map dN) = some (l.map fun i => ((i : Nat) : Int)) := ints_mapN l
  have e3 : (l.map fun i => ((i : Nat) : Int)).map PyData.int = l.map dN := by rw [List.map_map]; rfl
  have e4 : l.length < 64 := by omega
  have e5 : intsB [] [.dat (.tuple (l.map dN))] = some (l.map fun i => ((i : Nat) : Int)) := by
    have e6 : l.length < 4000 := by omega
    simp [intsB, e2, e4, e6, sortU_asc ha]
  simp [F_need_set, d_need_set, dSt, e1]
  rw [lc_mapM (fun r => PyData.bool true) (hy := fun r hr => ⟨_, rfl, by simp, by
    have := hb r hr
    have c2 : (r : Int) ≤ (n : Int) - 1 := by omega
    simp [dN, is_in_eq, c2]⟩)]
  simp [bls_mapF (fun _ => true), e2, e4, e5, sortU_asc ha, e3, shp_lN, PyData.eqv]
theorem largest_sets_eq : F_largest_sets [.dat (dHouse n ds)] [] = .ok (.list ((lgL (nearS n ds) (List.range n)).map dSt)) [] := by
  have hn := h.hi
  have hlo := h.lo
  have e := largest_in_eq (rowsS h) (rooms := List.range n) (fun r hr => List.mem_range.mp hr) (by rw [List.length_range]; exact hn) (fun z => by
    have := congrArg List.length z
    rw [List.length_range] at this
    simp at this
    omega)
  simp only [dSt] at e
  simp [F_largest_sets, d_largest_sets, need_house_eq h, near_eq' h, rgOk0 (n := n) (by omega), dSt, e]
end
end Lw

set_option maxHeartbeats 2000000
/-! all tuples below sizes -/
namespace Lw
open PySem PySem.Spec PyProof.Rows L2 Mx
def extL (size : Nat) (p : List Nat) : List (List Nat) := (List.range size).map fun k => p ++ [k]
def allL : List Nat → List (List Nat) → List (List Nat)
  | [], acc => acc
  | z :: zs, acc => allL zs (acc.flatMap (extL z))
theorem ext_len (size : Nat) : ∀ l : List (List Nat), (l.flatMap (extL size)).length = l.length * size
  | [] => by simp
  | a :: l => by
    rw [List.flatMap_cons, List.length_append, ext_len size l, extL, List.length_map, List.length_range, List.length_cons, Nat.add_mul]
    omega
theorem shape_all {m : Nat} : ∀ (zs : List Nat) (acc : List (List Nat)), (∀ p ∈ acc, p.length = m) → ∀ p ∈ allL zs acc, p.length = m + zs.length
  | [], acc, h, p, hp => h p hp
  | z :: zs, acc, h, p, hp => by
    rw [shape_all (m := m + 1) zs (acc.flatMap (extL z)) (fun q hq => by
      obtain ⟨a, ha, hq⟩ := List.mem_flatMap.mp hq
      obtain ⟨k, _, rfl⟩ := List.mem_map.mp hq
      rw [List.length_append, h a ha]
      rfl) p hp, List.length_cons]
    omega
theorem mem_all : ∀ (zs : List Nat) (acc : List (List Nat)) (p : List Nat), p ∈ allL zs acc ↔ ∃ a ∈ acc, ∃ t : List Nat, p = a ++ t ∧ t.length = zs.length ∧ ∀ i, i < zs.length → t.getD i 0 < zs.getD i 0
  | [], acc, p => by
    show p ∈ acc ↔ _
    constructor
    · intro h
      exact ⟨p, h, [], by simp, rfl, fun i hi => by simp at hi⟩
    · rintro ⟨a, ha, t, rfl, ht, _⟩
      have : t = [] := List.length_eq_zero_iff.mp ht
      rw [this, List.append_nil]
      exact ha
  | z :: zs, acc, p => by
    rw [allL, mem_all zs]
    constructor
    · rintro ⟨a, ha, t, rfl, ht, hb⟩
      obtain ⟨b, hb2, ha⟩ := List.mem_flatMap.mp ha
      obtain ⟨k, hk, rfl⟩ := List.mem_map.mp ha
      refine ⟨b, hb2, k :: t, by simp, by simp [ht], fun i hi => ?_⟩
      cases i with
      | zero => simpa using List.mem_range.mp hk
      | succ i =>
        have := hb i (by simpa using hi)
        simpa using this
    · rintro ⟨a, ha, t, rfl, ht, hb⟩
      cases t with
      | nil => simp at ht
      | cons k t =>
        refine ⟨a ++ [k], List.mem_flatMap.mpr ⟨a, ha, List.mem_map.mpr ⟨k, List.mem_range.mpr ?_, rfl⟩⟩, t, by simp, by simpa using ht, fun i hi => ?_⟩
        · have := hb 0 (by simp)
          simpa using this
        · have := hb (i + 1) (by simpa using hi)
          simpa using this
theorem nodup_all {m : Nat} : ∀ (zs : List Nat) (acc : List (List Nat)), (∀ p ∈ acc, p.length = m) → acc.Nodup → (allL zs acc).Nodup
  | [], acc, _, h => h
  | z :: zs, acc, hm, h => by
    refine nodup_all (m := m + 1) zs _ (fun q hq => by
      obtain ⟨a, ha, hq⟩ := List.mem_flatMap.mp hq
      obtain ⟨k, _, rfl⟩ := List.mem_map.mp hq
      rw [List.length_append, hm a ha]
      rfl) ?_
    clear zs
    induction acc with
    | nil => simp
    | cons a acc ih =>
      rw [List.flatMap_cons]
      have h' := List.nodup_cons.mp h
      refine List.nodup_append.mpr ⟨?_, ih (fun p hp => hm p (List.mem_cons_of_mem _ hp)) h'.2, fun x hx y hy e => ?_⟩
      · unfold extL
        show List.Pairwise (fun a b => a ≠ b) _
        rw [List.pairwise_map]
        refine List.Pairwise.imp (fun ne e => ne ?_) (List.nodup_range (n := z))
        have := List.append_cancel_left e
        simpa using this
      · subst e
        obtain ⟨k, _, rfl⟩ := List.mem_map.mp hx
        obtain ⟨b, hb, hy⟩ := List.mem_flatMap.mp hy
        obtain ⟨j, _, e⟩ := List.mem_map.mp hy
        have l1 := hm a List.mem_cons_self
        have l2 := hm b (List.mem_cons_of_mem _ hb)
        have := (List.append_inj e (by omega)).1
        subst this
        exact h'.1 hb
theorem all_in {x0 x1 : Option EV} {size : Nat} (hs : size ≤ 100) {found : List (List Nat)} (hb : found.length * size ≤ 10000000) (hm : ∀ p ∈ found, p.length ≤ 100) (x4 : Option EV) : ∃ x4',
    forGo (gN 4) (sSet 3 (e2 addD (eV 3) (eFrz (fLc (dRg (g1 (eV 2))) [5] (gN 5) tYesD (e2 addD (eV 4) (eTup (aCons (eV 5) aNil))))))) (found.map dSt) [x0, x1, some (.dat (dN size)), some (.dat (.list [])), x4, none] [] =
      .ok (.nx [x0, x1, some (.dat (dN size)), some (.dat (.list ((found.flatMap (extL size)).map dSt))), x4', none]) [] := by
  obtain ⟨env', s', e, q⟩ := for_eq (g := gN 4) (b := sSet 3 (e2 addD (eV 3) (eFrz (fLc (dRg (g1 (eV 2))) [5] (gN 5) tYesD (e2 addD (eV 4) (eTup (aCons (eV 5) aNil))))))) (fun i env s => s = [] ∧ ∃ x4, env = [x0, x1, some (.dat (dN size)), some (.dat (.list (((found.take i).flatMap (extL size)).map dSt))), x4, none]) (ys := found.map dSt) (env := [x0, x1, some (.dat (dN size)), some (.dat (.list [])), x4, none]) (s := []) ⟨rfl, x4, by simp⟩ (by
    rintro i x env s hx ⟨rfl, y4, rfl⟩
    rw [List.getElem?_map] at hx
    cases hp : found[i]? with
    | none => rw [hp] at hx; cases hx
    | some p =>
      rw [hp] at hx
      cases hx
      have hi := (List.getElem?_eq_some_iff.mp hp).1
      have et : found.take (i + 1) = found.take i ++ [p] := by rw [List.take_succ, hp]; rfl
      have hl : ((found.take i).flatMap (extL size)).length + (extL size p).length ≤ 10000000 := by
        have e1 : ((found.take (i + 1)).flatMap (extL size)).length = (i + 1) * size := by
          rw [ext_len, List.length_take, Nat.min_eq_left (by omega)]
        rw [et, List.flatMap_append, List.length_append] at e1
        simp only [List.flatMap_cons, List.flatMap_nil, List.append_nil] at e1
        have : (i + 1) * size ≤ found.length * size := Nat.mul_le_mul_right _ hi
        omega
      have hz : 16000000 ≤ sizeLine := by decide +kernel
      have hpl := hm p (List.mem_of_getElem? hp)
      refine ⟨_, [_, _, _, some (.dat (.list (((found.take (i + 1)).flatMap (extL size)).map dSt))), some (.dat (dSt p)), none], [], rfl, ?_, rfl, _, rfl⟩
      rw [et, List.flatMap_append]
      have hr := rgOk0 (n := size) (by omega)
      have ed : dN size = .int (size : Nat) := rfl
      have ep : dSt p = .tuple (p.map dN) := rfl
      simp [ed, hr, ep]
      rw [lc_mapM (fun k => dSt (p ++ [k])) (hy := fun k _ => ⟨_, rfl, by simp, by
        have : p.length + 1 ≤ sizeLine := by omega
        simp [this, dSt]⟩)]
      have e2 : ((List.range size).map fun k => dSt (p ++ [k])) = (extL size p).map dSt := by
        unfold extL
        rw [List.map_map]
        rfl
      rw [e2]
      have e3 : addD [] (.dat (.list (((found.take i).flatMap (extL size)).map dSt))) (.dat (.list ((extL size p).map dSt))) = some (.list (((found.take i).flatMap (extL size)).map dSt ++ (extL size p).map dSt)) := by
        show (if _ then _ else _) = _
        rw [if_pos (by rw [List.length_map, List.length_map]; omega)]
      simp [e3, -List.map_flatMap])
  obtain ⟨rfl, x4', rfl⟩ := q
  refine ⟨x4', ?_⟩
  rw [e, List.length_map, List.take_length]
theorem law_all_eq {zs : List Nat} (hl : zs.length ≤ 7) (hb : ∀ z ∈ zs, z ≤ 9) : F__law_all [.dat (.list (zs.map dN))] [] = .ok (.list ((allL zs [[]]).map dSt)) [] := by
  have key : ∀ (ws : List Nat) (acc : List (List Nat)) (m : Nat) (x0 x2 x3 x4 : Option EV), m + ws.length ≤ 7 → (∀ z ∈ ws, z ≤ 9) → acc.length ≤ 9 ^ m → (∀ p ∈ acc, p.length ≤ m) → ∃ x2' x3' x4',
      forGo (gN 2) (sSeq (sSet 3 (eFrz (fLst aNil))) (sSeq (sFor (dI (eV 1)) (gN 4) (sSet 3 (e2 addD (eV 3) (eFrz (fLc (dRg (g1 (eV 2))) [5] (gN 5) tYesD (e2 addD (eV 4) (eTup (aCons (eV 5) aNil)))))))) (sSet 1 (eV 3)))) (ws.map dN) [x0, some (.dat (.list (acc.map dSt))), x2, x3, x4, none] [] =
        .ok (.nx [x0, some (.dat (.list ((allL ws acc).map dSt))), x2', x3', x4', none]) [] := by
    intro ws
    induction ws with
    | nil => intro acc m x0 x2 x3 x4 _ _ _ _; exact ⟨x2, x3, x4, rfl⟩
    | cons z ws ih =>
      intro acc m x0 x2 x3 x4 h1 h2 h3 h4
      rw [List.length_cons] at h1
      have hz := h2 z List.mem_cons_self
      have hp : 9 ^ m ≤ 9 ^ 6 := Nat.pow_le_pow_right (by decide) (by omega)
      have hm : acc.length * z ≤ 9 ^ m * 9 := Nat.mul_le_mul h3 hz
      have h9 : 9 ^ m * 9 ≤ 9 ^ 6 * 9 := Nat.mul_le_mul_right _ hp
      have h96 : 9 ^ 6 * 9 ≤ 10000000 := by decide
      obtain ⟨y4, e1⟩ := all_in (x0 := x0) (x1 := some (.dat (.list (acc.map dSt)))) (size := z) (by omega) (found := acc) (by omega) (fun p hp => by have := h4 p hp; omega) x4
      obtain ⟨a, b, c, e2⟩ := ih (acc.flatMap (extL z)) (m + 1) x0 (some (.dat (dN z))) (some (.dat (.list ((acc.flatMap (extL z)).map dSt)))) y4 (by omega) (fun w hw => h2 w (List.mem_cons_of_mem _ hw)) (by rw [ext_len, Nat.pow_succ]; omega) (fun p hp => by
        obtain ⟨q, hq, hp⟩ := List.mem_flatMap.mp hp
        obtain ⟨k, _, rfl⟩ := List.mem_map.mp hp
        have := h4 q hq
        rw [List.length_append, List.length_singleton]
        omega)
      refine ⟨a, b, c, ?_⟩
      rw [List.map_cons, for_cons]
      simp [e1, -List.map_flatMap]
      exact e2
  obtain ⟨a, b, c, e⟩ := key zs [[]] 0 (some (.dat (.list (zs.map dN)))) none none none (by omega) hb (by simp) (by simp)
  rw [show ([[]] : List (List Nat)).map dSt = [.tuple []] from rfl] at e
  simp [F__law_all, d__law_all, e]
end Lw

set_option maxHeartbeats 2000000
/-! which sets -/
namespace Lw
open PySem PySem.Spec PyProof.Rows L2 Mx
theorem nbB_iff {R : List (List Nat)} {s : List Nat} {r : Nat} : nbB R s r = true ↔ ∃ o ∈ rowAt R r, o ∈ s := by
  unfold nbB
  rw [List.any_eq_true]
  simp
theorem frB_iff {R : List (List Nat)} {s : List Nat} : frB R s = true ↔ ∀ r ∈ s, ∀ o ∈ rowAt R r, o ∉ s := by
  unfold frB
  rw [Bool.not_eq_true', List.any_eq_false]
  constructor
  · intro h r hr o ho hs
    exact h r hr (nbB_iff.mpr ⟨o, ho, hs⟩)
  · intro h r hr z
    obtain ⟨o, ho, hs⟩ := nbB_iff.mp z
    exact h r hr o ho hs
theorem lgB_iff {R : List (List Nat)} {rooms s : List Nat} : lgB R rooms s = true ↔ ∀ r ∈ rooms, r ∈ s ∨ ∃ o ∈ rowAt R r, o ∈ s := by
  unfold lgB
  rw [List.all_eq_true]
  constructor
  · intro h r hr
    have := h r hr
    rw [Bool.or_eq_true, decide_eq_true_eq, nbB_iff] at this
    exact this
  · intro h r hr
    rw [Bool.or_eq_true, decide_eq_true_eq, nbB_iff]
    exact h r hr
def symR (R : List (List Nat)) : Prop := (∀ a b, b ∈ rowAt R a ↔ a ∈ rowAt R b) ∧ ∀ a, a ∉ rowAt R a
theorem freeL_mem {R : List (List Nat)} (hR : symR R) : ∀ (rs : List Nat) (acc : List (List Nat)), (∀ a ∈ acc, frB R a = true) → ∀ s, s ∈ freeL R rs acc ↔ ∃ a ∈ acc, ∃ t : List Nat, t.Sublist rs ∧ s = a ++ t ∧ frB R s = true
  | [], acc, hf, s => by
    show s ∈ acc ↔ _
    constructor
    · intro h
      exact ⟨s, h, [], List.Sublist.refl _, by simp, hf s h⟩
    · rintro ⟨a, ha, t, ht, rfl, _⟩
      rw [List.sublist_nil.mp ht, List.append_nil]
      exact ha
  | r :: rs, acc, hf, s => by
    rw [freeL, freeL_mem hR rs]
    · constructor
      · rintro ⟨a, ha, t, ht, rfl, hs⟩
        rcases List.mem_append.mp ha with ha | ha
        · exact ⟨a, ha, t, ht.cons r, rfl, hs⟩
        · obtain ⟨b, hb, rfl⟩ := List.mem_map.mp ha
          exact ⟨b, (List.mem_filter.mp hb).1, r :: t, List.Sublist.cons_cons r ht, by simp, hs⟩
      · rintro ⟨a, ha, t, ht, rfl, hs⟩
        cases ht with
        | cons _ ht => exact ⟨a, List.mem_append_left _ ha, t, ht, rfl, hs⟩
        | cons_cons _ ht =>
          rename_i t
          refine ⟨a ++ [r], List.mem_append_right _ (List.mem_map.mpr ⟨a, List.mem_filter.mpr ⟨ha, ?_⟩, rfl⟩), t, ht, by simp, hs⟩
          rw [Bool.not_eq_true']
          cases e : nbB R a r with
          | false => rfl
          | true =>
            obtain ⟨o, ho, hoa⟩ := nbB_iff.mp e
            exact absurd (List.mem_append_left _ hoa) (frB_iff.mp hs r (by simp) o ho)
    · intro a ha
      rcases List.mem_append.mp ha with ha | ha
      · exact hf a ha
      · obtain ⟨b, hb, rfl⟩ := List.mem_map.mp ha
        obtain ⟨hb1, hb2⟩ := List.mem_filter.mp hb
        have hfb := frB_iff.mp (hf b hb1)
        have hn : ∀ o ∈ rowAt R r, o ∉ b := fun o ho hob => by
          rw [nbB_iff.mpr ⟨o, ho, hob⟩] at hb2
          cases hb2
        refine frB_iff.mpr fun q hq o ho hoq => ?_
        rcases List.mem_append.mp hq with hq | hq <;> rcases List.mem_append.mp hoq with hoq | hoq
        · exact hfb q hq o ho hoq
        · rw [List.mem_singleton.mp hoq] at ho
          exact hn q ((hR.1 q r).mp ho) hq
        · rw [List.mem_singleton.mp hq] at ho
          exact hn o ho hoq
        · rw [List.mem_singleton.mp hq, List.mem_singleton.mp hoq] at ho
          exact hR.2 r ho
theorem freeL_nodup {R : List (List Nat)} : ∀ (rs : List Nat) (acc : List (List Nat)), rs.Nodup → acc.Nodup → (∀ a ∈ acc, ∀ x ∈ a, x ∉ rs) → (freeL R rs acc).Nodup
  | [], acc, _, h, _ => h
  | r :: rs, acc, hr, h, hd => by
    have hr' := List.nodup_cons.mp hr
    refine freeL_nodup rs _ hr'.2 (List.nodup_append.mpr ⟨h, ?_, fun x hx y hy e => ?_⟩) fun a ha x hx => ?_
    · show List.Pairwise (fun a b => a ≠ b) _
      rw [List.pairwise_map]
      exact (h.filter _).imp fun ne e => ne (List.append_cancel_right e)
    · subst e
      obtain ⟨b, hb, rfl⟩ := List.mem_map.mp hy
      exact hd _ hx r (by simp) List.mem_cons_self
    · rcases List.mem_append.mp ha with ha | ha
      · exact fun z => hd a ha x hx (List.mem_cons_of_mem _ z)
      · obtain ⟨b, hb, rfl⟩ := List.mem_map.mp ha
        rcases List.mem_append.mp hx with hx | hx
        · exact fun z => hd b (List.mem_filter.mp hb).1 x hx (List.mem_cons_of_mem _ z)
        · rw [List.mem_singleton.mp hx]
          exact hr'.1
theorem symS {n : Nat} {ds : List (Nat × Nat)} (h : HouseOk n ds) : symR (nearS n ds) := ⟨fun _ _ => near_symm h, fun _ => near_self h⟩
theorem lgL_mem {R : List (List Nat)} (hR : symR R) {rooms s : List Nat} : s ∈ lgL R rooms ↔ s.Sublist rooms ∧ frB R s = true ∧ lgB R rooms s = true := by
  unfold lgL
  rw [sortS_mem, List.mem_filter, freeL_mem hR]
  · constructor
    · rintro ⟨⟨a, ha, t, ht, rfl, h1⟩, h2⟩
      rw [List.mem_singleton.mp ha] at h1 h2 ⊢
      exact ⟨ht, h1, h2⟩
    · rintro ⟨h1, h2, h3⟩
      exact ⟨⟨[], by simp, s, h1, rfl, h2⟩, h3⟩
  · intro a ha
    rw [List.mem_singleton.mp ha]
    rfl
theorem asc_range (n : Nat) : Asc (List.range n) := List.pairwise_lt_range
theorem asc_nodup {l : List Nat} (h : Asc l) : l.Nodup := h.imp fun q => by omega
theorem asc_sub {l m : List Nat} (h : Asc m) (s : l.Sublist m) : Asc l := h.sublist s
/-- an ascending list is what it filters out of another one that holds it -/
theorem asc_filter : ∀ {m l : List Nat}, Asc m → Asc l → (∀ x ∈ l, x ∈ m) → m.filter (fun x => decide (x ∈ l)) = l
  | [], [], _, _, _ => rfl
  | [], x :: l, _, _, h => by
    have := h x List.mem_cons_self
    cases this
  | y :: m, l, hm, hl, h => by
    have hm' := List.pairwise_cons.mp hm
    by_cases e : y ∈ l
    · cases l with
      | nil => cases e
      | cons x l =>
        have hl' := List.pairwise_cons.mp hl
        have exy : x = y := by
          rcases List.mem_cons.mp e with z | z
          · exact z.symm
          · have h1 := hl'.1 y z
            rcases List.mem_cons.mp (h x List.mem_cons_self) with q | q
            · exact q
            · have := hm'.1 x q
              omega
        subst exy
        rw [List.filter_cons, if_pos (by simp)]
        congr 1
        have ih := asc_filter hm'.2 hl'.2 fun z hz => by
          rcases List.mem_cons.mp (h z (List.mem_cons_of_mem _ hz)) with q | q
          · have := hl'.1 z hz
            omega
          · exact q
        rw [← ih]
        refine List.filter_congr fun z hz => ?_
        have := hm'.1 z hz
        rw [ih]
        simp only [List.mem_cons]
        rw [decide_eq_decide]
        constructor
        · rintro (q | q)
          · omega
          · exact q
        · exact .inr
    · rw [List.filter_cons, if_neg (by simpa using e)]
      exact asc_filter hm'.2 hl fun z hz => by
        rcases List.mem_cons.mp (h z hz) with q | q
        · rw [q] at hz
          exact absurd hz e
        · exact q
theorem sub_of_asc {m l : List Nat} (hm : Asc m) (hl : Asc l) (h : ∀ x ∈ l, x ∈ m) : l.Sublist m := by
  rw [← asc_filter hm hl h]
  exact List.filter_sublist
theorem asc_ext {l m : List Nat} (hl : Asc l) (hm : Asc m) (h : ∀ x, x ∈ l ↔ x ∈ m) : l = m := by
  have s1 := sub_of_asc hm hl fun x hx => (h x).mp hx
  have s2 := sub_of_asc hl hm fun x hx => (h x).mpr hx
  exact s1.eq_of_length (Nat.le_antisymm s1.length_le s2.length_le)
theorem asc_filt {l : List Nat} (h : Asc l) (p : Nat → Bool) : Asc (l.filter p) := h.filter p
end Lw

set_option maxHeartbeats 2000000
/-! alike, any data -/
namespace Lw
open PySem PySem.Spec PyProof.Rows L2 Mx
theorem rgOkM {n : Nat} (h : n ≤ 1000000) : rgOk 0 (n : Int) = true := by
  rw [rgOk_iff]
  omega
def alD : Nat → Dat → Bool
  | 0, _ => false
  | _ + 1, .int _ => true
  | _ + 1, .bool _ => true
  | _ + 1, .none => true
  | k + 1, .tuple xs => decide (xs.length ≤ 1000000) && xs.all (alD k)
  | k + 1, .list xs => decide (xs.length ≤ 1000000) && xs.all (alD k)
  | _ + 1, _ => false
theorem alike_al : ∀ (k : Nat) (d : Dat), alD k d = true → F__law_alike_n k [.dat d, .dat d] [] = .ok (.bool true) []
  | 0, _, h => by cases h
  | k + 1, .int i, _ => alike_int k i
  | k + 1, .bool b, _ => by
    cases b <;> simp [F__law_alike_n, F__law_alike_1, d__law_alike]
  | k + 1, .none, _ => by
    have e : shp 60 .none = true := rfl
    have e2 : PyData.eqv .none .none = true := rfl
    have e1 : PyData.eqv (.bool false) (.bool false) = true := rfl
    simp [F__law_alike_n, F__law_alike_1, d__law_alike, e, e1, e2]
  | k + 1, .tuple xs, h => by
    rw [alD, Bool.and_eq_true, decide_eq_true_eq, List.all_eq_true] at h
    have e1 : PyData.eqv (.bool false) (.bool false) = true := rfl
    have hr := rgOkM h.1
    simp [F__law_alike_n, F__law_alike_1, d__law_alike, e1, hr]
    rw [lc_filM (fun _ => false) dN (hy := fun o ho => ⟨_, rfl, by
      have ho' : o < xs.length := List.mem_range.mp ho
      have q : atI xs (o : Int) = some xs[o] := atI_nat (List.getElem?_eq_getElem ho')
      have q2 := alike_al k xs[o] (h.2 _ (List.getElem_mem _))
      simp [dN, q, q2], fun z => by cases z⟩)]
    simp
  | k + 1, .list xs, h => by
    rw [alD, Bool.and_eq_true, decide_eq_true_eq, List.all_eq_true] at h
    have e1 : PyData.eqv (.bool true) (.bool true) = true := rfl
    have hr := rgOkM h.1
    simp [F__law_alike_n, F__law_alike_1, d__law_alike, e1, hr]
    rw [lc_filM (fun _ => false) dN (hy := fun o ho => ⟨_, rfl, by
      have ho' : o < xs.length := List.mem_range.mp ho
      have q : atI xs (o : Int) = some xs[o] := atI_nat (List.getElem?_eq_getElem ho')
      have q2 := alike_al k xs[o] (h.2 _ (List.getElem_mem _))
      simp [dN, q, q2], fun z => by cases z⟩)]
    simp
theorem al_st (k : Nat) (st : List Nat) (h : st.length ≤ 1000000) : alD (k + 2) (dSt st) = true := by
  show (decide ((st.map dN).length ≤ 1000000) && (st.map dN).all (alD (k + 1))) = true
  rw [List.length_map, decide_eq_true h, Bool.true_and, List.all_map, List.all_eq_true]
  exact fun _ _ => rfl
theorem al_sts (k : Nat) (l : List (List Nat)) (h : l.length ≤ 1000000) (hb : ∀ s ∈ l, s.length ≤ 1000000) : alD (k + 3) (.list (l.map dSt)) = true := by
  show (decide ((l.map dSt).length ≤ 1000000) && (l.map dSt).all (alD (k + 2))) = true
  rw [List.length_map, decide_eq_true h, Bool.true_and, List.all_map, List.all_eq_true]
  exact fun s hs => al_st k s (hb s hs)
theorem nbB_same {n : Nat} {ds : List (Nat × Nat)} (h : HouseOk n ds) (s : List Nat) (r : Nat) : nbB (nearL n ds) s r = nbB (nearS n ds) s r := by
  rw [Bool.eq_iff_iff, nbB_iff, nbB_iff]
  constructor
  · rintro ⟨o, ho, hs⟩
    exact ⟨o, (near_memS h).mpr ((near_memL h).mp ho), hs⟩
  · rintro ⟨o, ho, hs⟩
    exact ⟨o, (near_memL h).mpr ((near_memS h).mp ho), hs⟩
end Lw

set_option maxHeartbeats 4000000
namespace Lw
open PySem PySem.Spec PyProof.Rows L2 Mx
theorem sortAF_ref {s : Sto} {i : Nat} {l : List (List Nat)} (h : s[i]? = some (.lst (l.map dSt))) (hn : ∀ s ∈ l, s ≠ []) : sortAF s [.ref i] = some ((sortS l).map dSt) := by
  have v : view s (.ref i) = some (.list (l.map dSt)) := by simp [h]
  have e1 := sortAF_st s hn
  cases l with
  | nil =>
    have : sortIF s [.ref i] = some [] := by
      unfold sortIF
      simp [h]
      rfl
    rw [u_sortAF, this]
    rfl
  | cons a r =>
    have : sortIF s [.ref i] = none := by
      unfold sortIF
      simp [h]
      rfl
    rw [u_sortAF, this]
    show sortDF s _ = _
    unfold sortDF
    simp only [v]
    rw [if_pos (okS_dSt hn), sortD_dSt]
def rmOf (n : Nat) (mk : List Nat) : List Nat := (List.range n).filter fun r => decide (stA mk r = 1)
theorem rm_asc (n : Nat) (mk : List Nat) : Asc (rmOf n mk) := asc_filt (asc_range n) _
theorem rm_lt {n : Nat} {mk : List Nat} : ∀ x ∈ rmOf n mk, x < n := fun x hx => List.mem_range.mp (List.mem_filter.mp hx).1
def fitB (n : Nat) (R : List (List Nat)) (s : List Nat) : Bool := frB R s && lgB R (List.range n) s
@[simp] theorem eqv_lN0 (l : List Nat) : PyData.eqv (.list (l.map dN)) (.list []) = decide (l = []) := by
  cases l <;> simp [PyData.eqv, PyData.eqvAll]
@[simp] theorem shp_lN0 (l : List Nat) : shp 60 (.list (l.map dN)) = true := shp_lN l
theorem filt_nb {R : List (List Nat)} {s : List Nat} {r : Nat} : decide ((rowAt R r).filter (fun o => decide (o ∈ s)) = []) = !nbB R s r := by
  rw [Bool.eq_iff_iff, decide_eq_true_eq, List.filter_eq_nil_iff, Bool.not_eq_true']
  unfold nbB
  rw [List.any_eq_false]
theorem dec_fr {R : List (List Nat)} {s : List Nat} : decide (s.filter (fun r => nbB R s r) = []) = frB R s := by
  rw [Bool.eq_iff_iff, decide_eq_true_eq, List.filter_eq_nil_iff]
  unfold frB
  rw [Bool.not_eq_true', List.any_eq_false]
theorem dec_lg {R : List (List Nat)} {s : List Nat} {n : Nat} : decide ((List.range n).filter (fun r => !decide (r ∈ s) && !nbB R s r) = []) = lgB R (List.range n) s := by
  rw [Bool.eq_iff_iff, decide_eq_true_eq, List.filter_eq_nil_iff]
  unfold lgB
  rw [List.all_eq_true]
  constructor
  · intro h x hx
    have := h x hx
    cases e1 : decide (x ∈ s) <;> cases e2 : nbB R s x <;> simp_all
  · intro h x hx
    have := h x hx
    cases e1 : decide (x ∈ s) <;> cases e2 : nbB R s x <;> simp_all
theorem all_len {b : Nat} : ∀ (zs : List Nat) (acc : List (List Nat)), (∀ z ∈ zs, z ≤ b) → (allL zs acc).length ≤ acc.length * b ^ zs.length
  | [], acc, _ => by simp [allL]
  | z :: zs, acc, h => by
    have ih := all_len zs (acc.flatMap (extL z)) fun w hw => h w (List.mem_cons_of_mem _ hw)
    rw [ext_len] at ih
    have hz := h z List.mem_cons_self
    rw [allL, List.length_cons, Nat.pow_succ, Nat.mul_comm (b ^ zs.length) b, ← Nat.mul_assoc]
    exact Nat.le_trans ih (Nat.mul_le_mul_right _ (Nat.mul_le_mul_left _ hz))
theorem lgL_len (R : List (List Nat)) (n : Nat) (hn : n ≤ 8) : (lgL R (List.range n)).length ≤ 256 := by
  unfold lgL
  rw [(sortS_perm _).length_eq]
  have h1 := List.length_filter_le (lgB R (List.range n)) (freeL R (List.range n) [[]])
  have h2 := freeL_len R (List.range n) [[]]
  rw [List.length_range] at h2
  have h3 : 2 ^ n ≤ 2 ^ 8 := Nat.pow_le_pow_right (by decide) hn
  simp at h2
  omega
theorem freeL_small {R : List (List Nat)} : ∀ (rs : List Nat) (acc : List (List Nat)) (m : Nat), (∀ a ∈ acc, a.length ≤ m) → ∀ s ∈ freeL R rs acc, s.length ≤ m + rs.length
  | [], acc, m, h, s, hs => h s hs
  | r :: rs, acc, m, h, s, hs => by
    have := freeL_small rs _ (m + 1) (fun a ha => by
      rcases List.mem_append.mp ha with ha | ha
      · have := h a ha
        omega
      · obtain ⟨b, hb, rfl⟩ := List.mem_map.mp ha
        have := h b (List.mem_filter.mp hb).1
        rw [List.length_append, List.length_singleton]
        omega) s hs
    rw [List.length_cons]
    omega
theorem lgL_small {R : List (List Nat)} {rooms s : List Nat} (h : s ∈ lgL R rooms) : s.length ≤ rooms.length := by
  unfold lgL at h
  rw [sortS_mem] at h
  have := freeL_small rooms [[]] 0 (by simp) s (List.mem_filter.mp h).1
  omega
theorem gd {l : List Nat} {i : Nat} (h : i < l.length) : l.getD i 0 = l[i] := by
  rw [List.getD_eq_getElem?_getD, List.getElem?_eq_getElem h]
  rfl
theorem gdr {n i : Nat} (h : i < n) : (List.replicate n 2).getD i 0 = 2 := by
  rw [List.getD_eq_getElem?_getD, List.getElem?_replicate, if_pos h]
  rfl
theorem rm_inj {n : Nat} {a b : List Nat} (ha : a.length = n) (hb : b.length = n) (h1 : ∀ i, i < n → a.getD i 0 < 2) (h2 : ∀ i, i < n → b.getD i 0 < 2) (e : rmOf n a = rmOf n b) : a = b := by
  refine List.ext_getElem (by omega) fun i hi hj => ?_
  have ea : ∀ r, r ∈ rmOf n a ↔ r < n ∧ stA a r = 1 := fun r => by unfold rmOf; simp
  have eb : ∀ r, r ∈ rmOf n b ↔ r < n ∧ stA b r = 1 := fun r => by unfold rmOf; simp
  have x := ea i
  rw [e, eb i] at x
  have h1 := h1 i (by omega)
  have h2 := h2 i (by omega)
  unfold stA at x
  rw [gd hi] at h1 x
  rw [gd hj] at h2 x
  have : i < n := by omega
  simp only [this, true_and] at x
  omega
theorem marks_mem {n : Nat} {mk : List Nat} : mk ∈ allL (List.replicate n 2) [[]] ↔ mk.length = n ∧ ∀ i, i < n → mk.getD i 0 < 2 := by
  rw [mem_all]
  constructor
  · rintro ⟨a, ha, t, rfl, h1, h2⟩
    rw [List.mem_singleton.mp ha, List.nil_append]
    rw [List.length_replicate] at h1 h2
    refine ⟨h1, fun i hi => ?_⟩
    have := h2 i hi
    rw [gdr hi] at this
    exact this
  · rintro ⟨h1, h2⟩
    refine ⟨[], by simp, mk, by simp, by simpa using h1, fun i hi => ?_⟩
    rw [List.length_replicate] at hi
    rw [gdr hi]
    exact h2 i hi
/-- each set of rooms comes of just one row of marks -/
theorem rm_marks {n : Nat} {s : List Nat} (h : s.Sublist (List.range n)) : ∃ mk ∈ allL (List.replicate n 2) [[]], rmOf n mk = s := by
  refine ⟨(List.range n).map fun r => if r ∈ s then 1 else 0, marks_mem.mpr ⟨by simp, fun i hi => ?_⟩, ?_⟩
  · rw [List.getD_eq_getElem?_getD, List.getElem?_map, List.getElem?_range hi]
    simp only [Option.map_some, Option.getD_some]
    split <;> decide
  · unfold rmOf
    have : (List.range n).filter (fun r => decide (stA ((List.range n).map fun r => if r ∈ s then 1 else 0) r = 1)) = (List.range n).filter fun r => decide (r ∈ s) := by
      refine List.filter_congr fun r hr => ?_
      rw [decide_eq_decide]
      unfold stA
      rw [List.getD_eq_getElem?_getD, List.getElem?_map, List.getElem?_range (List.mem_range.mp hr)]
      simp only [Option.map_some, Option.getD_some]
      split <;> simp_all
    rw [this]
    exact asc_filter (asc_range n) (asc_sub (asc_range n) h) fun x hx => h.subset hx
theorem rm_nodup (n : Nat) : ((allL (List.replicate n 2) [[]]).map (rmOf n)).Nodup := by
  show List.Pairwise (fun a b => a ≠ b) _
  rw [List.pairwise_map]
  have nd := nodup_all (m := 0) (List.replicate n 2) [[]] (by simp) (by simp)
  refine nd.imp_of_mem fun {a b} ha hb ne e => ne ?_
  have ha := marks_mem.mp ha
  have hb := marks_mem.mp hb
  exact rm_inj ha.1 hb.1 ha.2 hb.2 e
theorem marks_sets {n : Nat} {R : List (List Nat)} (hR : symR R) : sortS (((allL (List.replicate n 2) [[]]).map (rmOf n)).filter (fitB n R)) = lgL R (List.range n) := by
  unfold lgL
  refine sortS_eq ((rm_nodup n).filter _) ((freeL_nodup _ _ List.nodup_range (by simp) (by simp)).filter _) fun s => ?_
  rw [List.mem_filter, List.mem_filter, freeL_mem hR _ _ (fun a ha => by rw [List.mem_singleton.mp ha]; rfl)]
  unfold fitB
  rw [Bool.and_eq_true, List.mem_map]
  constructor
  · rintro ⟨⟨mk, _, rfl⟩, h1, h2⟩
    exact ⟨⟨[], by simp, rmOf n mk, List.filter_sublist, by simp, h1⟩, h2⟩
  · rintro ⟨⟨a, ha, t, ht, rfl, h1⟩, h2⟩
    rw [List.mem_singleton.mp ha, List.nil_append] at h1 h2 ⊢
    obtain ⟨mk, hm, e⟩ := rm_marks ht
    exact ⟨⟨mk, hm, e⟩, h1, h2⟩
end Lw

set_option maxHeartbeats 4000000
/-! cells of numbers -/
namespace Lw
open PySem PySem.Spec PyProof.Rows L2 Mx
theorem setP_eq {st : List Nat} {s : Sto} {c r k : Nat} (hs : s[c]? = some (.lst (st.map dN))) (hr : r < st.length) : setLF s (.ref c) (.dat (.int (r : Nat))) (.dat (.int (k : Nat))) = some (s.set c (.lst ((st.set r k).map dN))) := by
  have hx : ixN (st.map dN).length (r : Int) = some r := ixN_lt (by rw [List.length_map]; exact hr)
  unfold setLF
  simp only [hs, hx]
  rw [List.map_set]
  rfl
theorem zeros_rep (n : Nat) : (List.replicate n [PyData.int 0]).flatten = (List.replicate n 0).map dN := by
  induction n with
  | zero => rfl
  | succ n ih => rw [List.replicate_succ, List.replicate_succ, List.flatten_cons, ih]; rfl
theorem rep_zero {n : Nat} (hn : n ≤ 1000) (s : Sto) : repF s (.dat (.list [.int 0])) (.dat (.int (n : Nat))) = some ((List.replicate n 0).map dN) := by
  have e1 : wIn 9223372036854775808 (n : Int) = true := wIn_iff.mpr ⟨by omega, by omega⟩
  have hz : 1000 ≤ sizeLine := by decide
  show (if wIn 9223372036854775808 (n : Int) = true ∧ 1 * n ≤ sizeLine then some (List.replicate n [PyData.int 0]).flatten else none) = _
  rw [if_pos ⟨e1, by omega⟩, zeros_rep]
theorem aug_eq {ys : List Nat} {j v : Nat} {s : Sto} {c : Nat} {env : Mx.Env} {o i e : DE} (ho : ∀ s, o env s = .ok (.ref c) s) (hi : ∀ s, i env s = .ok (.dat (.int (j : Nat))) s) (he : ∀ s, e env s = .ok (.dat (.int (v : Nat))) s) (hs : s[c]? = some (.lst (ys.map dN))) (hj : j < ys.length) :
    sAugL (fun i j => i + j) o i e env s = .ok (.nx env) (s.set c (.lst ((ys.set j (ys.getD j 0 + v)).map dN))) := by
  have e1 : atI (ys.map dN) (j : Int) = some (.int ((ys.getD j 0 : Nat) : Int)) := at_map (f := dN) (by rw [List.getElem?_eq_getElem hj, gd hj])
  have e2 : ixN (ys.map dN).length (j : Int) = some j := ixN_lt (by rw [List.length_map]; exact hj)
  unfold sAugL
  simp only [ho, b_ok, hi, hs, e1, he, e2]
  rw [List.map_set]
  have e3 : ((ys.getD j 0 : Nat) : Int) + (v : Int) = ((ys.getD j 0 + v : Nat) : Int) := by omega
  rw [e3]
  rfl
theorem getD_set {f : List Nat} {j k v : Nat} (hj : j < f.length) : (f.set j v).getD k 0 = if k = j then v else f.getD k 0 := by
  rw [List.getD_eq_getElem?_getD, List.getD_eq_getElem?_getD, List.getElem?_set]
  by_cases e : j = k
  · subst e
    simp [hj]
  · rw [if_neg e, if_neg fun z => e z.symm]
end Lw

set_option maxHeartbeats 4000000
/-! rows of neighbors; a thing drawn of a list -/
namespace Lw
open PySem PySem.Spec PyProof.Rows L2 Mx
def dLay (L : List (List Nat)) : Dat := .tuple (L.map dSt)
theorem nodup_le {α : Type} [DecidableEq α] : ∀ {l m : List α}, l.Nodup → (∀ x ∈ l, x ∈ m) → l.length ≤ m.length
  | [], _, _, _ => Nat.zero_le _
  | a :: l, m, h, hs => by
    have h' := List.nodup_cons.mp h
    have ha := hs a List.mem_cons_self
    have := nodup_le (l := l) (m := m.erase a) h'.2 fun x hx => (List.mem_erase_of_ne (fun e => h'.1 (by rw [← e]; exact hx))).mpr (hs x (List.mem_cons_of_mem _ hx))
    rw [List.length_erase_of_mem ha] at this
    have : 0 < m.length := List.length_pos_of_mem ha
    rw [List.length_cons]
    omega
section
variable {R : List (List Nat)} {n : Nat} (h : RowsOk R n)
include h
theorem row_lt {r o : Nat} (ho : o ∈ rowAt R r) : o < n := by
  by_cases hr : r < R.length
  · refine h.lt (rowAt R r) ?_ o ho
    unfold rowAt
    rw [List.getD_eq_getElem?_getD, List.getElem?_eq_getElem hr]
    exact List.getElem_mem _
  · unfold rowAt at ho
    rw [List.getD_eq_getElem?_getD, List.getElem?_eq_none_iff.mpr (by omega)] at ho
    simp at ho
end
/-! rows of neighbours -/
theorem near_nodup {n : Nat} {ds : List (Nat × Nat)} (h : HouseOk n ds) (r : Nat) : (rowAt (nearL n ds) r).Nodup := by
  have key : ∀ l : List (Nat × Nat), (∀ p ∈ l, p.1 < p.2 ∧ p.2 < n) → l.Nodup → ∀ r, (rowAt (nearL n l) r).Nodup := by
    refine snoc_ind (fun _ _ r => by
      simp [rowAt, nearL, List.getElem?_replicate]
      split <;> simp) fun l a ih hb nd r => ?_
    have hb' : ∀ p ∈ l, p.1 < p.2 ∧ p.2 < n := fun p hp => hb p (by simp [hp])
    have nd' := List.nodup_append.mp nd
    have ih := ih hb' nd'.1
    have ha := hb a (by simp)
    have hna : a ∉ l := fun z => nd'.2.2 a z a (by simp) rfl
    have hbd : ∀ p ∈ l, p.1 < n ∧ p.2 < n := fun p hp => by
      have := hb' p hp
      omega
    unfold rowAt at ih ⊢
    rw [nearL_snoc, addRow_at _ _ _ _ (by rw [addRow_len, nearL_len]; exact ha.2), addRow_at _ _ _ _ (by rw [nearL_len]; omega), addRow_at _ _ _ _ (by rw [nearL_len]; omega)]
    have snd : ∀ (q x : Nat), ((q, x) = a ∨ (x, q) = a) → q ≠ x → ((nearL n l).getD q [] ++ [x]).Nodup := fun q x hqx hne => by
      refine List.nodup_append.mpr ⟨ih q, by simp, fun y hy z hz e => ?_⟩
      subst e
      rw [List.mem_singleton.mp hz] at hy
      rcases (nearL_mem n q x l hbd).mp hy with w | w
      · rcases hqx with e | e
        · rw [e] at w
          exact hna w
        · have h1 := hb' _ w
          have h2 := ha
          rw [← e] at h2
          dsimp only at h1 h2
          omega
      · rcases hqx with e | e
        · have h1 := hb' _ w
          have h2 := ha
          rw [← e] at h2
          dsimp only at h1 h2
          omega
        · rw [e] at w
          exact hna w
    by_cases e1 : r = a.2
    · rw [if_pos e1, if_neg (by omega)]
      exact snd a.2 a.1 (.inr rfl) (by omega)
    · rw [if_neg e1]
      by_cases e2 : r = a.1
      · rw [if_pos e2]
        exact snd a.1 a.2 (.inl rfl) (by omega)
      · rw [if_neg e2]
        exact ih r
  exact key ds (fun p hp => h.rng hp) (h.srt.imp fun {a b} q e => by
    subst e
    unfold lexB at q
    simp at q) r
theorem near_few {n : Nat} {ds : List (Nat × Nat)} (h : HouseOk n ds) (r : Nat) : (rowAt (nearL n ds) r).length + 1 ≤ n ∨ r ≥ n := by
  by_cases hr : r < n
  · left
    have hnot : r ∉ rowAt (nearL n ds) r := fun z => near_self h (by rw [rowAt_nearS, sortN_mem]; exact z)
    have := nodup_le (l := r :: rowAt (nearL n ds) r) (m := List.range n) (List.nodup_cons.mpr ⟨hnot, near_nodup h r⟩) fun x hx => by
      rcases List.mem_cons.mp hx with rfl | hx
      · exact List.mem_range.mpr hr
      · exact List.mem_range.mpr (row_lt (rowsL h) hx)
    rw [List.length_cons, List.length_range] at this
    exact this
  · right
    omega
def maxN : List Nat → Nat
  | [] => 0
  | a :: r => max a (maxN r)
theorem maxN_le {l : List Nat} {x : Nat} (h : x ∈ l) : x ≤ maxN l := by
  induction l with
  | nil => cases h
  | cons a r ih =>
    rw [maxN]
    rcases List.mem_cons.mp h with z | z
    · omega
    · have := ih z
      omega
theorem maxN_mem : ∀ {l : List Nat}, l ≠ [] → maxN l ∈ l
  | [], h => absurd rfl h
  | [a], _ => by simp [maxN]
  | a :: b :: r, _ => by
    have := maxN_mem (l := b :: r) (by simp)
    rw [maxN]
    by_cases q : maxN (b :: r) ≤ a
    · rw [Nat.max_eq_left q]
      exact List.mem_cons_self
    · rw [Nat.max_eq_right (by omega)]
      exact List.mem_cons_of_mem _ this
theorem maxL_N : ∀ (r : List Nat) (a : Nat), maxL (a : Int) (r.map fun i => ((i : Nat) : Int)) = ((max a (maxN r) : Nat) : Int)
  | [], a => by
    show (a : Int) = _
    simp [maxN]
  | b :: r, a => by
    rw [List.map_cons, maxL, maxN]
    have : (if (a : Int) < (b : Int) then (b : Int) else (a : Int)) = ((max a b : Nat) : Int) := by
      split <;> omega
    rw [this, maxL_N r]
    congr 1
    omega
theorem maxBD_st (s : Sto) {st : List Nat} (h : st ≠ []) : maxBD s [.dat (dSt st)] = some (.int (maxN st : Nat)) := by
  cases st with
  | nil => exact absurd rfl h
  | cons a r =>
    have e : intsD ((a :: r).map dN) = some ((a :: r).map fun i => ((i : Nat) : Int)) := ints_mapN (a :: r)
    have e1 : maxAD s [.dat (dSt (a :: r))] = none := rfl
    rw [u_maxBD, e1]
    show bestTF maxL s _ = _
    unfold bestTF
    show (match intsD ((a :: r).map dN) with
      | some (a :: r) => some (PyData.int (maxL a r))
      | _ => none) = _
    rw [e]
    show some (PyData.int (maxL (a : Int) (r.map fun i => ((i : Nat) : Int)))) = _
    rw [maxL_N]
    rfl
theorem maxAD_ls (s : Sto) {l : List Nat} (h : l ≠ []) : maxBD s [.dat (.list (l.map dN))] = some (.int (maxN l : Nat)) := by
  cases l with
  | nil => exact absurd rfl h
  | cons a r =>
    have e : intsD ((a :: r).map dN) = some ((a :: r).map fun i => ((i : Nat) : Int)) := ints_mapN (a :: r)
    have e1 : maxD s [.dat (.list ((a :: r).map dN))] = some (.int (maxN (a :: r) : Nat)) := by
      unfold maxD
      simp only [v_dat, e]
      show some (PyData.int (maxL (a : Int) (r.map fun i => ((i : Nat) : Int)))) = _
      rw [maxL_N]
      rfl
    rw [u_maxBD, u_maxAD, e1]
def minA (a : Nat) : List Nat → Nat
  | [] => a
  | b :: r => minA (min a b) r
def minN : List Nat → Nat
  | [] => 0
  | a :: r => minA a r
theorem minA_le : ∀ (r : List Nat) (a : Nat), minA a r ≤ a ∧ ∀ x ∈ r, minA a r ≤ x
  | [], a => ⟨Nat.le_refl _, fun x h => by cases h⟩
  | b :: r, a => by
    have ih := minA_le r (min a b)
    refine ⟨by show minA (min a b) r ≤ a; omega, fun x hx => ?_⟩
    show minA (min a b) r ≤ x
    rcases List.mem_cons.mp hx with rfl | z
    · omega
    · exact ih.2 x z
theorem minA_mem : ∀ (r : List Nat) (a : Nat), minA a r ∈ a :: r
  | [], a => List.mem_cons_self
  | b :: r, a => by
    have ih := minA_mem r (min a b)
    show minA (min a b) r ∈ a :: b :: r
    rcases List.mem_cons.mp ih with z | z
    · rw [z]
      rcases Nat.le_total a b with q | q
      · rw [Nat.min_eq_left q]; simp
      · rw [Nat.min_eq_right q]; simp
    · exact List.mem_cons_of_mem _ (List.mem_cons_of_mem _ z)
theorem minN_le {l : List Nat} {x : Nat} (h : x ∈ l) : minN l ≤ x := by
  cases l with
  | nil => cases h
  | cons a r =>
    rcases List.mem_cons.mp h with rfl | z
    · exact (minA_le r _).1
    · exact (minA_le r _).2 x z
theorem minN_mem {l : List Nat} (h : l ≠ []) : minN l ∈ l := by
  cases l with
  | nil => exact absurd rfl h
  | cons a r => exact minA_mem r a
theorem minL_N : ∀ (r : List Nat) (a : Nat), minL (a : Int) (r.map fun i => ((i : Nat) : Int)) = ((minA a r : Nat) : Int)
  | [], a => rfl
  | b :: r, a => by
    rw [List.map_cons, minL, minA]
    have : (if (b : Int) < (a : Int) then (b : Int) else (a : Int)) = ((min a b : Nat) : Int) := by
      split <;> omega
    rw [this, minL_N r]
theorem minBD_ls (s : Sto) {l : List Nat} (h : l ≠ []) : minBD s [.dat (.list (l.map dN))] = some (.int (minN l : Nat)) := by
  cases l with
  | nil => exact absurd rfl h
  | cons a r =>
    have e : intsD ((a :: r).map dN) = some ((a :: r).map fun i => ((i : Nat) : Int)) := ints_mapN (a :: r)
    have e1 : Mx.minD s [.dat (.list ((a :: r).map dN))] = some (.int (minN (a :: r) : Nat)) := by
      unfold Mx.minD
      simp only [v_dat, e]
      show some (PyData.int (minL (a : Int) (r.map fun i => ((i : Nat) : Int)))) = _
      rw [minL_N]
      rfl
    rw [u_minBD, u_minAD, e1]
end Lw

set_option maxHeartbeats 4000000
/-! a drawn state without like neighbors -/
namespace Lw
open PySem PySem.Spec PyProof.Rows L2 Mx
end Lw

set_option maxHeartbeats 1000000
/-! rounds of the open rooms settle -/
namespace Lw
open PySem PySem.Spec PyProof.Rows L2 Mx
section
variable {n : Nat} {ds : List (Nat × Nat)} (h : HouseOk n ds)
include h
theorem mex_same (st : List Nat) (r : Nat) : mex (shown (rowAt (nearS n ds) r) st) = mex (shown (rowAt (nearL n ds) r) st) := by
  refine mex_congr fun x => ?_
  unfold shown
  rw [List.mem_map, List.mem_map]
  constructor
  · rintro ⟨o, ho, e⟩
    exact ⟨o, (near_memL h).mpr ((near_memS h).mp ho), e⟩
  · rintro ⟨o, ho, e⟩
    exact ⟨o, (near_memS h).mpr ((near_memL h).mp ho), e⟩
/-- all numbers up to and without k that are less than the room's are shown beside it -/
def Lev (n : Nat) (ds : List (Nat × Nat)) (k : Nat) (st : List Nat) (r : Nat) : Prop := ∀ j, j < k → j < stA st r → j ∈ shown (rowAt (nearS n ds) r) st
omit h in
theorem shown_at {row st : List Nat} {j : Nat} : j ∈ shown row st ↔ ∃ o ∈ row, stA st o = j := by
  unfold shown
  rw [List.mem_map]
theorem mex_n {st : List Nat} {r : Nat} (hs : st.length = n) (hr : r < n) : mex (shown (rowAt (nearS n ds) r) st) ≤ n := by
  have := hole (mex (shown (rowAt (nearS n ds) r) st)) ((List.range n).map (stA st)) fun k hk => by
    obtain ⟨o, ho, e⟩ := shown_at.mp (mex_lt hk)
    exact List.mem_map.mpr ⟨o, List.mem_range.mpr ((rowsS h).lt _ (row_mem (rowsS h) hs hr) o ho), e⟩
  simpa using this
theorem apart_le {st : List Nat} {r : Nat} (ha : Apart (nearS n ds) st r) : mex (shown (rowAt (nearS n ds) r) st) ≤ stA st r := by
  rcases Nat.lt_or_ge (stA st r) (mex (shown (rowAt (nearS n ds) r) st)) with z | z
  · obtain ⟨o, ho, e⟩ := shown_at.mp (mex_lt z)
    exact absurd e (ha o ho)
  · exact z
omit h in
theorem lev_ge {k : Nat} {st : List Nat} {r : Nat} (hl : Lev n ds k st r) : min k (stA st r) ≤ mex (shown (rowAt (nearS n ds) r) st) := by
  rcases Nat.lt_or_ge (mex (shown (rowAt (nearS n ds) r) st)) (min k (stA st r)) with z | z
  · exact absurd (hl _ (by omega) (by omega)) (mex_not _)
  · exact z
theorem key_at {st : List Nat} (hs : st.length = n) {r : Nat} (hr : r < n) (o : Nat) : stA (keyL (nearS n ds) st r) o = if o = r then mex (shown (rowAt (nearS n ds) r) st) else stA st o := by
  unfold keyL
  split
  · rename_i e
    subst e
    exact stA_set (by omega)
  · rename_i e
    exact stA_set_ne e
/-- one key in a row of keys: what is settled stays -/
theorem lev_step {k : Nat} {st : List Nat} (hs : st.length = n) {r q : Nat} (hr : r < n) (har : Apart (nearS n ds) st r) (hlr : Lev n ds k st r) {k2 : Nat} (hk : k2 ≤ k + 1) (hq : q < n) (hlq : Lev n ds k2 st q) : Lev n ds k2 (keyL (nearS n ds) st r) q := fun j h1 h2 => by
  have hm := apart_le h har
  have hg := lev_ge hlr
  have keep : ∀ o, stA st o = j → stA (keyL (nearS n ds) st r) o = j := fun o ho => by
    rw [key_at h hs hr]
    by_cases e : o = r
    · subst e
      rw [if_pos rfl]
      omega
    · rw [if_neg e]
      exact ho
  rw [key_at h hs hr] at h2
  have h2' : j < stA st q := by
    by_cases e : q = r
    · subst e
      rw [if_pos rfl] at h2
      omega
    · rw [if_neg e] at h2
      exact h2
  obtain ⟨o, ho, e⟩ := shown_at.mp (hlq j h1 h2')
  exact shown_at.mpr ⟨o, ho, keep o e⟩
theorem lev_key {k : Nat} {st : List Nat} (hs : st.length = n) {r : Nat} (hr : r < n) : Lev n ds k (keyL (nearS n ds) st r) r := fun j _ h2 => by
  rw [key_at h hs hr, if_pos rfl] at h2
  obtain ⟨o, ho, e⟩ := shown_at.mp (mex_lt h2)
  refine shown_at.mpr ⟨o, ho, ?_⟩
  rw [key_at h hs hr, if_neg fun z => ?_]
  · exact e
  · subst z
    exact near_self h ho
/-- a round of the rooms O: Lev k of all becomes Lev (k + 1) of all -/
theorem lev_round {k : Nat} {O : Nat → Prop} (hO : ∀ r, O r → r < n) : ∀ (ks st : List Nat) (D : Nat → Prop), st.length = n → (∀ r ∈ ks, O r) → (∀ r, O r → Apart (nearS n ds) st r) → (∀ r, O r → Lev n ds k st r) → (∀ r, D r → O r) → (∀ r, D r → Lev n ds (k + 1) st r) →
    (∀ r, O r → Lev n ds k (doneL (nearS n ds) st ks) r) ∧ (∀ r, (D r ∨ r ∈ ks) → Lev n ds (k + 1) (doneL (nearS n ds) st ks) r)
  | [], st, D, hs, _, _, hl, _, hd => ⟨hl, fun r hr => hd r (by simpa using hr)⟩
  | a :: ks, st, D, hs, hk, ha, hl, hDO, hd => by
    have oa := hk a List.mem_cons_self
    have la := hO a oa
    have := lev_round hO ks (keyL (nearS n ds) st a) (fun r => D r ∨ r = a) (by rw [keyL_len]; exact hs) (fun r hr => hk r (List.mem_cons_of_mem _ hr)) (fun r hr => key_keeps h hs la (ha r hr)) (fun r hr => lev_step h hs la (ha a oa) (hl a oa) (by omega) (hO r hr) (hl r hr)) (fun r hr => by
      rcases hr with z | rfl
      · exact hDO r z
      · exact oa) (fun r hr => by
      rcases hr with z | rfl
      · exact lev_step h hs la (ha a oa) (hl a oa) (Nat.le_refl _) (hO r (hDO r z)) (hd r z)
      · exact lev_key h hs la)
    refine ⟨this.1, fun r hr => this.2 r ?_⟩
    rcases hr with z | z
    · exact .inl (.inl z)
    · rcases List.mem_cons.mp z with z | z
      · exact .inl (.inr z)
      · exact .inr z
def roundsL (R : List (List Nat)) (O : List Nat) : Nat → List Nat → List Nat
  | 0, st => st
  | i + 1, st => doneL R (roundsL R O i st) O
omit h in
theorem rounds_len (R : List (List Nat)) (O : List Nat) : ∀ (i : Nat) (st : List Nat), (roundsL R O i st).length = st.length
  | 0, _ => rfl
  | i + 1, st => by rw [roundsL, doneL_len, rounds_len R O i]
theorem done_bound {O : List Nat} (hO : ∀ r ∈ O, r < n) {r : Nat} : ∀ (ks st : List Nat), st.length = n → (∀ k ∈ ks, k < n) → (r ∈ ks ∨ stA st r ≤ n) → stA (doneL (nearS n ds) st ks) r ≤ n
  | [], st, _, _, hr => by
    show stA st r ≤ n
    simpa using hr
  | a :: ks, st, hs, hk, hr => by
    have la := hk a List.mem_cons_self
    refine done_bound hO ks (keyL (nearS n ds) st a) (by rw [keyL_len]; exact hs) (fun q hq => hk q (List.mem_cons_of_mem _ hq)) ?_
    by_cases e : r = a
    · subst e
      refine .inr ?_
      rw [key_at h hs la, if_pos rfl]
      exact mex_n h hs la
    · rcases hr with z | z
      · rcases List.mem_cons.mp z with z | z
        · exact absurd z e
        · exact .inl z
      · refine .inr ?_
        rw [key_at h hs la, if_neg e]
        exact z
theorem rounds_lev {O : List Nat} (hO : ∀ r ∈ O, r < n) {st : List Nat} (hs : st.length = n) : ∀ i : Nat, (∀ r ∈ O, Apart (nearS n ds) (roundsL (nearS n ds) O (i + 1) st) r) ∧ (∀ r ∈ O, Lev n ds i (roundsL (nearS n ds) O (i + 1) st) r) ∧ (∀ r ∈ O, stA (roundsL (nearS n ds) O (i + 1) st) r ≤ n)
  | 0 => ⟨fun r hr => done_apart h O st (fun _ => False) hs hO (fun _ z => z.elim) r (.inr hr), fun r hr j hj => by omega, fun r hr => done_bound h hO O st hs hO (.inl hr)⟩
  | i + 1 => by
    obtain ⟨h1, h2, h3⟩ := rounds_lev hO hs i
    have hl : (roundsL (nearS n ds) O (i + 1) st).length = n := by rw [rounds_len]; exact hs
    refine ⟨fun r hr => done_apart h O _ (fun r => r ∈ O) hl hO h1 r (.inl hr), fun r hr => ?_, fun r hr => done_bound h hO O _ hl hO (.inl hr)⟩
    exact (lev_round h (O := fun r => r ∈ O) (fun r hr => hO r hr) O _ (fun _ => False) hl (fun r hr => hr) h1 h2 (fun _ z => z.elim) (fun _ z => z.elim)).2 r (.inr hr)
theorem rounds_rest {O : List Nat} (hO : ∀ r ∈ O, r < n) {st : List Nat} (hs : st.length = n) {r : Nat} (hr : r ∈ O) : mex (shown (rowAt (nearS n ds) r) (roundsL (nearS n ds) O (n + 2) st)) = stA (roundsL (nearS n ds) O (n + 2) st) r := by
  obtain ⟨h1, h2, h3⟩ := rounds_lev h hO hs (n + 1)
  have a := apart_le h (h1 r hr)
  have b := lev_ge (h2 r hr)
  have c := h3 r hr
  show mex (shown (rowAt (nearS n ds) r) (roundsL (nearS n ds) O (n + 1 + 1) st)) = stA (roundsL (nearS n ds) O (n + 1 + 1) st) r
  omega
end
end Lw

set_option maxHeartbeats 1000000
/-! rests, rounds -/
namespace Lw
open PySem PySem.Spec PyProof.Rows L2 Mx
def restB (R : List (List Nat)) (n : Nat) (st : List Nat) : Bool := (List.range n).all fun r => decide (mex (shown (rowAt R r) st) = stA st r)
theorem enumN_go (st : List Nat) : ∀ j, enumD j (st.map dN) = (List.range st.length).map fun i => .tuple [.int ((j + i : Nat) : Int), dN (stA st i)] := by
  induction st with
  | nil => intro j; rfl
  | cons a l ih =>
    intro j
    rw [List.map_cons, enumD, ih (j + 1), List.length_cons, List.range_succ_eq_map, List.map_cons, List.map_map]
    congr 1
    refine List.map_congr_left fun i _ => ?_
    show PyData.tuple [.int ((j + 1 + i : Nat) : Int), dN (stA l i)] = .tuple [.int ((j + (i + 1) : Nat) : Int), dN (stA (a :: l) (i + 1))]
    rw [show j + 1 + i = j + (i + 1) by omega]
    rfl
theorem perm_range : ∀ (m : Nat) (l : List Nat), (∀ r, r < m → r ∈ l) → l.length = m → l.Perm (List.range m)
  | 0, l, _, hl => by
    rw [List.length_eq_zero_iff.mp hl]
    exact List.Perm.refl _
  | m + 1, l, hc, hl => by
    have hm := hc m (by omega)
    have q := perm_range m (l.erase m) (fun r hr => (List.mem_erase_of_ne (by omega)).mpr (hc r (by omega))) (by rw [List.length_erase_of_mem hm]; omega)
    rw [List.range_succ]
    exact ((List.perm_cons_erase hm).trans (q.cons m)).trans (List.perm_append_singleton m _).symm
theorem perm_sort {n : Nat} {od : List Nat} (hl : od.length = n) (hc : ∀ r, r < n → r ∈ od) : (sortN od).map dN = (List.range n).map dN := by
  have p := (perm_range n od hc hl).map fun i => ((i : Nat) : Int)
  have e := sorted_uniq ((sortI_perm (od.map fun i => ((i : Nat) : Int))).trans p) (sortI_sorted _) (by
    rw [List.pairwise_map]
    exact List.pairwise_lt_range.imp fun h => by omega)
  rw [sortN_I] at e
  have e := congrArg (List.map PyData.int) e
  rw [List.map_map, List.map_map] at e
  exact e
theorem alike_dSt (k : Nat) (st : List Nat) (hl : st.length ≤ 1000) : F__law_alike_n (k + 2) [.dat (dSt st), .dat (dSt st)] [] = .ok (.bool true) [] := alike_tup (k + 1) _ (fun x hx => by
  obtain ⟨p, _, rfl⟩ := List.mem_map.mp hx
  exact alike_int k _) (by rw [List.length_map]; exact hl)
theorem eqv_llN (a b : List Nat) : PyData.eqv (.list (a.map dN)) (.list (b.map dN)) = decide (a = b) := by
  rw [PyData.eqv, eqvAll_dN]
theorem doneS {n : Nat} {ds : List (Nat × Nat)} (h : HouseOk n ds) (ks st : List Nat) : doneL (nearL n ds) st ks = doneL (nearS n ds) st ks := (done_same h ks st).symm
theorem all_dec (l : List Nat) (p : Nat → Bool) : decide (l.filter (fun r => !p r) = []) = l.all p := by
  rw [Bool.eq_iff_iff, decide_eq_true_eq, List.filter_eq_nil_iff, List.all_eq_true]
  constructor
  · intro h x hx
    have := h x hx
    simpa using this
  · intro h x hx
    have := h x hx
    simpa using this
section
variable {n : Nat} {ds : List (Nat × Nat)} (h : HouseOk n ds) {st od : List Nat} (hs : st.length = n)
include h hs
variable (hm : ∀ x ∈ st, x ≤ 60)
include hm
end
end Lw

set_option maxHeartbeats 4000000
/-! the items of lists and tuples -/
namespace Lw
open PySem PySem.Spec PyProof.Rows L2 Mx
@[simp] theorem eqv_stnil (l : List Nat) : PyData.eqv (dSt l) (.tuple []) = decide (l = []) := by
  cases l <;> simp [dSt, PyData.eqv, PyData.eqvAll]
@[simp] theorem shp_st60 (l : List Nat) : shp 60 (dSt l) = true := shp_dSt l
/-- the items of a list or tuple, by a name of its own -/
def seqD : EV → Option (List Dat)
  | .dat (.list ds) => some ds
  | .dat (.tuple ds) => some ds
  | _ => none
@[simp] theorem seq_l (ds : List Dat) : seqD (.dat (.list ds)) = some ds := rfl
@[simp] theorem seq_t (ds : List Dat) : seqD (.dat (.tuple ds)) = some ds := rfl
@[simp] theorem seq_st (l : List Nat) : seqD (.dat (dSt l)) = some (l.map dN) := rfl
@[simp] theorem seq_lay (l : List (List Nat)) : seqD (.dat (dLay l)) = some (l.map dSt) := rfl
@[simp high] theorem w_dI (m : DE) (env : Mx.Env) (s : Sto) : dI m env s = ((m env s).bind fun x s1 => match seqD x with
  | some ds => .ok ds s1
  | none => .fail) := by
  rw [u_dI]
  congr 1
  funext x s1
  cases x with
  | ref i => rfl
  | dat d => cases d <;> rfl
@[simp high] theorem w_aStar (a : DE) (r : DA) (env : Mx.Env) (s : Sto) : aStar a r env s = ((a env s).bind fun x s1 => match seqD x with
  | some ds => (r env s1).bind fun xs s2 => .ok (ds.map .dat ++ xs) s2
  | none => .fail) := by
  rw [u_aStar]
  congr 1
  funext x s1
  cases x with
  | ref i => rfl
  | dat d => cases d <;> rfl
@[simp high] theorem w_dEnum (m : DE) (env : Mx.Env) (s : Sto) : dEnum m env s = ((m env s).bind fun x s1 => match seqD x with
  | some ds => .ok (enumD 0 ds) s1
  | none => .fail) := by
  rw [u_dEnum]
  congr 1
  funext x s1
  cases x with
  | ref i => rfl
  | dat d => cases d <;> rfl
theorem seq_ok {a b : DS} {env env1 : Mx.Env} {s s1 : Sto} {r : Mx.R Out} (ha : a env s = .ok (.nx env1) s1) (hb : b env1 s1 = r) : sSeq a b env s = r := by
  rw [u_sSeq, ha]
  exact hb
theorem wp_ok_of {α : Type} {r : Mx.R α} {Q : α → Sto → Prop} {E : Exc → Sto → Prop} {a : α} {s : Sto} (h : r = .ok a s) (q : Q a s) : r.wp Q E := by
  rw [h]
  exact q
theorem tAnd_ok {a b : DT} {env : Mx.Env} {s : Sto} {c : Bool} (ha : a env s = .ok true s) (hb : b env s = .ok c s) : tAndD a b env s = .ok c s := by
  rw [u_tAndD, ha, b_ok, if_pos rfl, hb]
theorem wp_seq {a b : DS} {env : Mx.Env} {s : Sto} {Q : Out → Sto → Prop} {E : Exc → Sto → Prop} (h : (a env s).wp (fun o s' => match o with
  | .nx e' => (b e' s').wp Q E
  | o => Q o s') E) : (sSeq a b env s).wp Q E := by
  rw [u_sSeq, R.wp_bind]
  refine R.wp_mono (fun o s' q => ?_) (fun _ _ z => z) _ h
  cases o <;> exact q
theorem wp_seq1 {a b : DS} {env env1 : Mx.Env} {s s1 : Sto} {Q : Out → Sto → Prop} {E : Exc → Sto → Prop} (e : a env s = .ok (.nx env1) s1) (h : (b env1 s1).wp Q E) : (sSeq a b env s).wp Q E := wp_seq (by
  rw [e]
  exact h)
end Lw

set_option maxHeartbeats 400000
/-! sorted lists of any data -/
namespace Lw
open PySem PySem.Spec PyProof.Rows L2 Mx
def insG {α : Type} (lt : α → α → Bool) (a : α) : List α → List α
  | [] => [a]
  | b :: l => if lt b a = true then b :: insG lt a l else a :: b :: l
def sortG {α : Type} (lt : α → α → Bool) : List α → List α
  | [] => []
  | a :: l => insG lt a (sortG lt l)
section
variable {α : Type} {lt : α → α → Bool}
theorem insG_perm (a : α) : ∀ l : List α, (insG lt a l).Perm (a :: l)
  | [] => List.Perm.refl _
  | b :: l => by
    unfold insG
    split
    · exact ((insG_perm a l).cons b).trans (List.Perm.swap _ _ _)
    · exact List.Perm.refl _
theorem sortG_perm : ∀ l : List α, (sortG lt l).Perm l
  | [] => List.Perm.refl _
  | a :: l => (insG_perm a _).trans ((sortG_perm l).cons a)
theorem sortG_mem {x : α} {l : List α} : x ∈ sortG lt l ↔ x ∈ l := (sortG_perm l).mem_iff
theorem insG_sorted (tr : ∀ a b c, lt b a = false → lt c b = false → lt c a = false) (as : ∀ a b, lt a b = true → lt b a = false) (a : α) : ∀ l : List α, l.Pairwise (fun x y => lt y x = false) → (insG lt a l).Pairwise fun x y => lt y x = false
  | [], _ => by simp [insG]
  | b :: l, h => by
    have h' := List.pairwise_cons.mp h
    unfold insG
    split
    · rename_i q
      refine List.pairwise_cons.mpr ⟨fun x hx => ?_, insG_sorted tr as a l h'.2⟩
      rcases List.mem_cons.mp ((insG_perm a l).mem_iff.mp hx) with z | z
      · rw [z]
        exact as _ _ q
      · exact h'.1 x z
    · rename_i q
      have q : lt b a = false := by simpa using q
      refine List.pairwise_cons.mpr ⟨fun x hx => ?_, h⟩
      rcases List.mem_cons.mp hx with z | z
      · rw [z]
        exact q
      · exact tr a b x q (h'.1 x z)
theorem sortG_sorted (tr : ∀ a b c, lt b a = false → lt c b = false → lt c a = false) (as : ∀ a b, lt a b = true → lt b a = false) : ∀ l : List α, (sortG lt l).Pairwise fun x y => lt y x = false
  | [] => List.Pairwise.nil
  | a :: l => insG_sorted tr as a _ (sortG_sorted tr as l)
theorem sortG_eq (tr : ∀ a b c, lt b a = false → lt c b = false → lt c a = false) (as : ∀ a b, lt a b = true → lt b a = false) (an : ∀ a b, lt b a = false → lt a b = false → a = b) {l m : List α} (p : l.Perm m) (hm : m.Pairwise fun x y => lt y x = false) : sortG lt l = m :=
  uniq_sorted (r := fun x y => lt y x = false) ((sortG_perm l).trans p) (sortG_sorted tr as l) hm fun a _ b _ h1 h2 => an a b h1 h2
theorem insD_enc {enc : α → Dat} (he : ∀ a b, ltD (enc a) (enc b) = lt a b) (a : α) : ∀ l : List α, insD (enc a) (l.map enc) = (insG lt a l).map enc
  | [] => rfl
  | b :: l => by
    rw [List.map_cons, insD, insG, he]
    split
    · rw [insD_enc he a l]
      rfl
    · rfl
theorem sortD_enc {enc : α → Dat} (he : ∀ a b, ltD (enc a) (enc b) = lt a b) : ∀ l : List α, sortD (l.map enc) = (sortG lt l).map enc
  | [] => rfl
  | a :: l => by
    rw [List.map_cons, sortD, sortD_enc he l, insD_enc he]
    rfl
end
end Lw

set_option maxHeartbeats 400000
/-! results that are one -/
namespace Lw
open PySem PySem.Spec PyProof.Rows L2 Mx
def DP {α : Type} (r : Mx.R α) (Q : α → Sto → Prop) : Prop := ∃ a s, r = .ok a s ∧ Q a s
theorem DP_ok {α : Type} {a : α} {s : Sto} {Q : α → Sto → Prop} (h : Q a s) : DP (.ok a s) Q := ⟨a, s, rfl, h⟩
theorem DP_of {α : Type} {r : Mx.R α} {a : α} {s : Sto} {Q : α → Sto → Prop} (e : r = .ok a s) (h : Q a s) : DP r Q := ⟨a, s, e, h⟩
theorem DP_mono {α : Type} {r : Mx.R α} {Q Q' : α → Sto → Prop} (h : DP r Q) (q : ∀ a s, Q a s → Q' a s) : DP r Q' := by
  obtain ⟨a, s, e, h⟩ := h
  exact ⟨a, s, e, q a s h⟩
theorem DP_bind {α β : Type} {r : Mx.R α} {f : α → Sto → Mx.R β} {Q : β → Sto → Prop} (h : DP r fun a s => DP (f a s) Q) : DP (r.bind f) Q := by
  obtain ⟨a, s, e, b, s', e', h⟩ := h
  rw [e]
  exact ⟨b, s', e', h⟩
theorem DP_seq {a b : DS} {env : Mx.Env} {s : Sto} {Q : Out → Sto → Prop} (h : DP (a env s) fun o s' => match o with
    | .nx e => DP (b e s') Q
    | .cnt e => Q (.cnt e) s'
    | .brk e => Q (.brk e) s'
    | .ret v => Q (.ret v) s') : DP (sSeq a b env s) Q := by
  obtain ⟨o, s', e, h⟩ := h
  show DP ((a env s).bind _) Q
  rw [e]
  cases o with
  | nx e => exact h
  | cnt e => exact ⟨_, _, rfl, h⟩
  | brk e => exact ⟨_, _, rfl, h⟩
  | ret v => exact ⟨_, _, rfl, h⟩
theorem DP_seq1 {a b : DS} {env env1 : Mx.Env} {s s1 : Sto} {Q : Out → Sto → Prop} (e : a env s = .ok (.nx env1) s1) (h : DP (b env1 s1) Q) : DP (sSeq a b env s) Q := DP_seq ⟨_, _, e, h⟩
theorem DP_forGo {g : DG} {b : DS} {Q : Out → Sto → Prop} (I : Nat → Mx.Env → Sto → Prop) : ∀ (ys : List Dat) (j : Nat) (env : Mx.Env) (s : Sto),
    (∀ i x env s, ys[i]? = some x → I (j + i) env s → ∃ env1, g env x = some env1 ∧ DP (b env1 s) fun o s' => match o with
      | .nx e => I (j + i + 1) e s'
      | .cnt e => I (j + i + 1) e s'
      | .brk e => Q (.nx e) s'
      | .ret v => Q (.ret v) s') →
    (∀ env s, I (j + ys.length) env s → Q (.nx env) s) → I j env s → DP (forGo g b ys env s) Q
  | [], j, env, s, _, fin, h => ⟨_, _, rfl, fin env s h⟩
  | x :: ys, j, env, s, step, fin, h => by
    obtain ⟨env1, e1, o, s', e2, q⟩ := step 0 x env s rfl h
    have nxt : ∀ e', I (j + 0 + 1) e' s' → DP (forGo g b ys e' s') Q := fun e' q => DP_forGo I ys (j + 1) e' s' (fun i x env s hx hi => by
      have := step (i + 1) x env s hx (by rw [show j + (i + 1) = j + 1 + i by omega]; exact hi)
      rw [show j + (i + 1) = j + 1 + i by omega] at this
      exact this) (fun env s hi => fin env s (by rw [List.length_cons, show j + (ys.length + 1) = j + 1 + ys.length by omega]; exact hi)) q
    rw [for_cons, e1]
    show DP ((b env1 s).bind _) Q
    rw [e2]
    cases o with
    | nx e => exact nxt e q
    | cnt e => exact nxt e q
    | brk e => exact ⟨_, _, rfl, q⟩
    | ret v => exact ⟨_, _, rfl, q⟩
theorem DP_for {g : DG} {b : DS} {Q : Out → Sto → Prop} (I : Nat → Mx.Env → Sto → Prop) {ys : List Dat} {env : Mx.Env} {s : Sto} (h : I 0 env s)
    (step : ∀ i x env s, ys[i]? = some x → I i env s → ∃ env1, g env x = some env1 ∧ DP (b env1 s) fun o s' => match o with
      | .nx e => I (i + 1) e s'
      | .cnt e => I (i + 1) e s'
      | .brk e => Q (.nx e) s'
      | .ret v => Q (.ret v) s')
    (fin : ∀ env s, I ys.length env s → Q (.nx env) s) : DP (forGo g b ys env s) Q :=
  DP_forGo I ys 0 env s (fun i x env s hx hi => by
    rw [Nat.zero_add] at hi ⊢
    exact step i x env s hx hi) (fun env s hi => fin env s (by rw [Nat.zero_add] at hi; exact hi)) h
theorem DP_while {c : DT} {b : DS} {Q : Out → Sto → Prop} (I : Nat → Mx.Env → Sto → Prop)
    (step : ∀ m env s, I m env s → (c env s = .ok false s ∧ Q (.nx env) s) ∨ (c env s = .ok true s ∧ DP (b env s) fun o s' => match o with
      | .nx e => ∃ m', m' < m ∧ I m' e s'
      | .cnt e => ∃ m', m' < m ∧ I m' e s'
      | .brk e => Q (.nx e) s'
      | .ret v => Q (.ret v) s')) : ∀ (fuel m : Nat) (env : Mx.Env) (s : Sto), m < fuel → I m env s → DP (sWhile fuel c b env s) Q
  | 0, m, _, _, hf, _ => by omega
  | fuel + 1, m, env, s, hf, h => by
    rcases step m env s h with ⟨e, q⟩ | ⟨e, o, s', e2, q⟩
    · show DP ((c env s).bind _) Q
      rw [e]
      exact ⟨_, _, rfl, q⟩
    · show DP ((c env s).bind _) Q
      rw [e, b_ok, if_pos rfl, e2]
      cases o with
      | nx e =>
        obtain ⟨m', hm, hi⟩ := q
        exact DP_while I step fuel m' e s' (by omega) hi
      | cnt e =>
        obtain ⟨m', hm, hi⟩ := q
        exact DP_while I step fuel m' e s' (by omega) hi
      | brk e => exact ⟨_, _, rfl, q⟩
      | ret v => exact ⟨_, _, rfl, q⟩
end Lw

set_option maxHeartbeats 4000000
/-! lists of states: in, index, slices -/
namespace Lw
open PySem PySem.Spec PyProof.Rows L2 Mx
theorem any_st (st : List Nat) (l : List (List Nat)) : ((l.map dSt).any fun z => PyData.eqv z (dSt st)) = decide (st ∈ l) := by
  rw [List.any_map]
  induction l with
  | nil => rfl
  | cons a r ih =>
    rw [List.any_cons, ih]
    show (PyData.eqv (dSt a) (dSt st) || _) = _
    rw [eqv_dSt]
    by_cases h : a = st
    · simp [h]
    · have : ¬ st = a := fun z => h z.symm
      simp [h, this]
theorem shp_sts (k : Nat) (l : List (List Nat)) : shp (k + 3) (.list (l.map dSt)) = true := by
  show (l.map dSt).all (shp (k + 2)) = true
  rw [List.all_map, List.all_eq_true]
  intro s _
  show (s.map dN).all (shp (k + 1)) = true
  rw [List.all_map, List.all_eq_true]
  exact fun _ _ => shp_dN _ _
@[simp high] theorem inD_sts (s : Sto) (st : List Nat) (l : List (List Nat)) : inD s (.dat (dSt st)) (.dat (.list (l.map dSt))) = some (decide (st ∈ l)) := by
  have e1 : flatD (dSt st) = false := rfl
  have e2 := shp_sts 57 l
  have e3 := shp_st60 st
  have e4 := any_st st l
  have ev : view s (.dat (.list (l.map dSt))) = some (.list (l.map dSt)) := rfl
  unfold inD
  rw [ev]
  show (if (flatD (dSt st) && _) = true then _ else _) = _
  rw [e1, Bool.false_and, if_neg (by decide), e3, e2, e4]
  rfl
theorem mex_iff {xs : List Nat} {m : Nat} : mex xs = m ↔ m ∉ xs ∧ ∀ k, k < m → k ∈ xs := by
  constructor
  · rintro rfl
    exact ⟨mex_not xs, fun k hk => mex_lt hk⟩
  · rintro ⟨h1, h2⟩
    exact mex_eq h1 h2
theorem restB_all {R : List (List Nat)} {n : Nat} {st : List Nat} : restB R n st = true ↔ ∀ r, r < n → mex (shown (rowAt R r) st) = stA st r := by
  unfold restB
  rw [List.all_eq_true]
  simp
theorem st_ext {n : Nat} {a b : List Nat} (ha : a.length = n) (hb : b.length = n) (e : ∀ r, r < n → stA a r = stA b r) : a = b := by
  refine List.ext_getElem (by omega) fun i h1 h2 => ?_
  have := e i (by omega)
  unfold stA at this
  rw [gd h1, gd h2] at this
  exact this
theorem len_rows {R : List (List Nat)} {n : Nat} (h : RowsOk R n) (s : Sto) : lenD s [.dat (dRows R)] = some (.int (n : Nat)) := by
  show some (PyData.int ((R.map fun r => PyData.list (r.map dN)).length : Nat)) = _
  rw [List.length_map, h.len]
def zerosOf (n : Nat) (st : List Nat) : List Nat := (List.range n).filter fun r => decide (stA st r = 0)
theorem view_lst {s : Sto} {c : Nat} {xs : List Dat} (h : s[c]? = some (.lst xs)) : view s (.ref c) = some (.list xs) := by
  rw [v_ref, h]
theorem inD_ref {s : Sto} {c : Nat} {l : List (List Nat)} (h : s[c]? = some (.lst (l.map dSt))) (st : List Nat) : inD s (.dat (dSt st)) (.ref c) = some (decide (st ∈ l)) := by
  have e := inD_sts s st l
  unfold inD at e ⊢
  rw [view_lst h]
  exact e
theorem find_st (x : List Nat) : ∀ (l : List (List Nat)) (j : Nat), x ∈ l → findD (dSt x) j (l.map dSt) = some (j + l.idxOf x)
  | [], _, h => by cases h
  | a :: l, j, h => by
    rw [List.map_cons, findD, eqv_dSt, List.idxOf_cons]
    by_cases e : a = x
    · subst e
      simp
    · have hx : x ∈ l := by
        rcases List.mem_cons.mp h with z | z
        · exact absurd z.symm e
        · exact z
      have e2 : (a == x) = false := by simpa using e
      have e3 : ¬ x = a := fun z => e z.symm
      simp only [e2, e, e3, decide_false, Bool.false_eq_true, if_false, cond_false]
      rw [find_st x l (j + 1) hx]
      congr 1
      omega
theorem index_ref {s : Sto} {c : Nat} {l : List (List Nat)} (h : s[c]? = some (.lst (l.map dSt))) {st : List Nat} (hm : st ∈ l) : indexF s (.ref c) [.dat (dSt st)] = some (.int (l.idxOf st : Nat), s) := by
  have e := find_st st l 0 hm
  have e2 := shp_sts 57 l
  have e3 := shp_st60 st
  unfold indexF
  rw [view_lst h]
  show (if (shp 60 (.list (l.map dSt)) && shp 60 (dSt st)) = true then _ else _) = _
  rw [e2, e3, if_pos (by decide), e, Nat.zero_add]
  rfl
theorem cut_from {ds : List Dat} {f : Nat} : Mx.cutD ds (some (f : Int)) none = ds.drop f := by
  unfold Mx.cutD
  rw [HT.sIx_none, HT.sIx_nat]
  by_cases h : f ≤ ds.length
  · rw [Nat.min_eq_left h, List.take_of_length_le (by rw [List.length_drop]; omega)]
  · rw [Nat.min_eq_right (by omega), Nat.sub_self, List.take_zero, List.drop_eq_nil_of_le (by omega)]
theorem cut_two {ds : List Dat} {a b : Nat} (h : a ≤ b) : Mx.cutD ds (some (a : Int)) (some (b : Int)) = (ds.drop a).take (b - a) := by
  unfold Mx.cutD
  rw [HT.sIx_nat, HT.sIx_nat]
  by_cases h2 : b ≤ ds.length
  · rw [Nat.min_eq_left h2, Nat.min_eq_left (by omega)]
  · rw [Nat.min_eq_right (by omega : ds.length ≤ b)]
    by_cases h1 : a ≤ ds.length
    · rw [Nat.min_eq_left h1, List.take_of_length_le (by rw [List.length_drop]; omega), List.take_of_length_le (by rw [List.length_drop]; omega)]
    · rw [Nat.min_eq_right (by omega : ds.length ≤ a), List.drop_eq_nil_of_le (Nat.le_refl _), List.drop_eq_nil_of_le (by omega), List.take_nil, List.take_nil]
theorem at_sts (l : List (List Nat)) {i : Nat} (h : i < l.length) : atI (l.map dSt) (i : Int) = some (dSt (l.getD i [])) := at_map (by
  rw [List.getElem?_eq_getElem h, List.getD_eq_getElem?_getD, List.getElem?_eq_getElem h]
  rfl)
theorem ix_sts (s : Sto) (l : List (List Nat)) {i : Nat} (h : i < l.length) : ixD s (.dat (.list (l.map dSt))) (.dat (.int (i : Nat))) = some (dSt (l.getD i [])) := at_sts l h
theorem ix_ref {s : Sto} {c : Nat} {l : List (List Nat)} (hc : s[c]? = some (.lst (l.map dSt))) {i : Nat} (h : i < l.length) : ixD s (.ref c) (.dat (.int (i : Nat))) = some (dSt (l.getD i [])) := by
  have e := at_sts l h
  unfold ixD
  rw [view_lst hc]
  exact e
theorem eqvAll_st : ∀ a b : List (List Nat), PyData.eqvAll (a.map dSt) (b.map dSt) = decide (a = b)
  | [], [] => by simp [PyData.eqvAll]
  | [], _ :: _ => by simp [PyData.eqvAll]
  | _ :: _, [] => by simp [PyData.eqvAll]
  | x :: a, y :: b => by
    rw [List.map_cons, List.map_cons, PyData.eqvAll, eqv_dSt, eqvAll_st a b]
    by_cases e : x = y <;> simp [e]
theorem eqD_sts (s : Sto) (a b : List (List Nat)) : eqD s (.dat (.list (a.map dSt))) (.dat (.list (b.map dSt))) = some (.bool (decide (a = b))) := by
  show (if shp 60 (.list (a.map dSt)) && shp 60 (.list (b.map dSt)) then some (PyData.bool (PyData.eqvAll (a.map dSt) (b.map dSt))) else none) = _
  rw [shp_sts, shp_sts, eqvAll_st]
  rfl
theorem neD_sts (s : Sto) (a b : List (List Nat)) : neD s (.dat (.list (a.map dSt))) (.dat (.list (b.map dSt))) = some (.bool (!decide (a = b))) := by
  show (if shp 60 (.list (a.map dSt)) && shp 60 (.list (b.map dSt)) then some (PyData.bool (!PyData.eqvAll (a.map dSt) (b.map dSt))) else none) = _
  rw [shp_sts, shp_sts, eqvAll_st]
  rfl
/-- ascending lists of the same states are the same -/
theorem srt_ext {l m : List (List Nat)} (nl : l.Nodup) (nm : m.Nodup) (sl : l.Pairwise fun x y => ltS y x = false) (sm : m.Pairwise fun x y => ltS y x = false) (h : ∀ s, s ∈ l ↔ s ∈ m) : l = m := by
  rw [← sortS_id sl, ← sortS_id sm]
  exact sortS_eq nl nm h
end Lw

set_option maxHeartbeats 4000000
/-! comparisons of numbers, lists and states -/
namespace Lw
open PySem PySem.Spec PyProof.Rows L2 Mx
theorem eq_NN (s : Sto) (a b : Nat) : eqD s (.dat (dN a)) (.dat (dN b)) = some (.bool (decide (a = b))) := by
  have e : PyData.eqv (dN a) (dN b) = decide (a = b) := eqv_dN a b
  show (if shp 60 (dN a) && shp 60 (dN b) then some (PyData.bool (PyData.eqv (dN a) (dN b))) else none) = _
  rw [e]
  rfl
theorem ne_NN (s : Sto) (a b : Nat) : neD s (.dat (dN a)) (.dat (dN b)) = some (.bool (!decide (a = b))) := by
  have e : PyData.eqv (dN a) (dN b) = decide (a = b) := eqv_dN a b
  show (if shp 60 (dN a) && shp 60 (dN b) then some (PyData.bool (!PyData.eqv (dN a) (dN b))) else none) = _
  rw [e]
  rfl
theorem in_Ns (s : Sto) (a : Nat) (l : List Nat) : inD s (.dat (dN a)) (.dat (dSt l)) = some (decide (a ∈ l)) := by
  have := any_eqv l a
  rw [List.any_map] at this
  simp [dSt, dN, this]
theorem in_Nl (s : Sto) (a : Nat) (l : List Nat) : inD s (.dat (dN a)) (.dat (.list (l.map dN))) = some (decide (a ∈ l)) := by
  have := any_eqv l a
  rw [List.any_map] at this
  simp [dN, this]
theorem ne_BB (s : Sto) (a b : Bool) : neD s (.dat (.bool a)) (.dat (.bool b)) = some (.bool (a != b)) := by
  cases a <;> cases b <;> rfl
theorem eq_BB (s : Sto) (a b : Bool) : eqD s (.dat (.bool a)) (.dat (.bool b)) = some (.bool (a == b)) := by
  cases a <;> cases b <;> rfl
theorem eq_nilS (s : Sto) (l : List (List Nat)) : eqD s (.dat (.list (l.map dSt))) (.dat (.list [])) = some (.bool (decide (l = []))) := eqD_sts s l []
theorem ne_nilS (s : Sto) (l : List (List Nat)) : neD s (.dat (.list (l.map dSt))) (.dat (.list [])) = some (.bool (!decide (l = []))) := neD_sts s l []
theorem eq_nilN (s : Sto) (l : List Nat) : eqD s (.dat (.list (l.map dN))) (.dat (.list [])) = some (.bool (decide (l = []))) := by
  have e : PyData.eqv (.list (l.map dN)) (.list []) = decide (l = []) := eqv_llN l []
  show (if shp 60 (.list (l.map dN)) && shp 60 (.list []) then some (PyData.bool (PyData.eqv (.list (l.map dN)) (.list []))) else none) = _
  rw [e, shp_lN]
  rfl
theorem ne_nilN (s : Sto) (l : List Nat) : neD s (.dat (.list (l.map dN))) (.dat (.list [])) = some (.bool (!decide (l = []))) := by
  have e : PyData.eqv (.list (l.map dN)) (.list []) = decide (l = []) := eqv_llN l []
  show (if shp 60 (.list (l.map dN)) && shp 60 (.list []) then some (PyData.bool (!PyData.eqv (.list (l.map dN)) (.list []))) else none) = _
  rw [e, shp_lN]
  rfl
theorem eq_SS (s : Sto) (a b : List Nat) : eqD s (.dat (dSt a)) (.dat (dSt b)) = some (.bool (decide (a = b))) := by
  show (if shp 60 (dSt a) && shp 60 (dSt b) then some (PyData.bool (PyData.eqv (dSt a) (dSt b))) else none) = _
  rw [shp_st60, shp_st60, eqv_dSt]
  rfl
theorem ne_SS (s : Sto) (a b : List Nat) : neD s (.dat (dSt a)) (.dat (dSt b)) = some (.bool (!decide (a = b))) := by
  show (if shp 60 (dSt a) && shp 60 (dSt b) then some (PyData.bool (!PyData.eqv (dSt a) (dSt b))) else none) = _
  rw [shp_st60, shp_st60, eqv_dSt]
  rfl
end Lw

set_option maxHeartbeats 4000000
/-! runs as a structure: nothing unfolds by itself -/
namespace Lw
open PySem PySem.Spec PyProof.Rows L2 Mx
structure WP {α : Type} (r : Mx.R α) (Q : α → Sto → Prop) (E : Exc → Sto → Prop) : Prop where
  run : r.wp Q E
theorem W_iff {α : Type} {r : Mx.R α} {Q : α → Sto → Prop} {E : Exc → Sto → Prop} : WP r Q E ↔ r.wp Q E := ⟨fun h => h.run, fun h => ⟨h⟩⟩
@[simp] theorem W_ok {α : Type} (a : α) (s : Sto) (Q : α → Sto → Prop) (E : Exc → Sto → Prop) : WP (.ok a s) Q E ↔ Q a s := W_iff
@[simp] theorem W_pick {α : Type} (n : Nat) (f : Nat → Mx.R α) (Q : α → Sto → Prop) (E : Exc → Sto → Prop) : WP (.pick n f) Q E ↔ ∀ i, i < n → WP (f i) Q E :=
  ⟨fun h i hi => ⟨h.run i hi⟩, fun h => ⟨fun i hi => (h i hi).run⟩⟩
theorem W_mono {α : Type} {r : Mx.R α} {Q Q' : α → Sto → Prop} {E : Exc → Sto → Prop} (q : ∀ a s, Q a s → Q' a s) (h : WP r Q E) : WP r Q' E := ⟨R.wp_mono q (fun _ _ z => z) _ h.run⟩
theorem W_bind {α β : Type} (r : Mx.R α) (f : α → Sto → Mx.R β) (Q : β → Sto → Prop) (E : Exc → Sto → Prop) : WP (r.bind f) Q E ↔ WP r (fun a s => WP (f a s) Q E) E := by
  rw [W_iff, R.wp_bind, W_iff]
  constructor
  · exact fun h => R.wp_mono (fun _ _ q => ⟨q⟩) (fun _ _ z => z) _ h
  · exact fun h => R.wp_mono (fun _ _ q => q.run) (fun _ _ z => z) _ h
theorem W_outR {g : Sto → Option Sto} {Q : EV → Sto → Prop} {E : Exc → Sto → Prop} (r : Mx.R Dat) : WP (outR g r) Q E ↔ WP r (fun d s => ∃ s', g s = some s' ∧ Q (.dat d) s') noE := by
  rw [W_iff, wp_outR_iff, W_iff]
theorem W_seq {a b : DS} {env : Mx.Env} {s : Sto} {Q : Out → Sto → Prop} {E : Exc → Sto → Prop} (h : ∀ B : DS, B = b → WP (a env s) (fun o s' => match o with
  | .nx e' => WP (B e' s') Q E
  | o => Q o s') E) : WP (sSeq a b env s) Q E := ⟨wp_seq (by
  refine R.wp_mono (fun o s' q => ?_) (fun _ _ z => z) _ (h b rfl).run
  cases o
  · exact q.run
  all_goals exact q)⟩
theorem W_of {α : Type} {r : Mx.R α} {Q : α → Sto → Prop} {E : Exc → Sto → Prop} {a : α} {s : Sto} (h : r = .ok a s) (q : Q a s) : WP r Q E := ⟨wp_ok_of h q⟩
/-- a first statement that draws nothing -/
theorem W_det {a b : DS} {env env1 : Mx.Env} {s s1 : Sto} {Q : Out → Sto → Prop} {E : Exc → Sto → Prop} (e : a env s = .ok (.nx env1) s1) (h : WP (b env1 s1) Q E) : WP (sSeq a b env s) Q E := ⟨wp_seq1 e h.run⟩
theorem W_for {g : DG} {b : DS} {Q : Out → Sto → Prop} {E : Exc → Sto → Prop} (I : Nat → Mx.Env → Sto → Prop) {ys : List Dat} {env : Mx.Env} {s : Sto} (h : I 0 env s)
    (step : ∀ i x env s, ys[i]? = some x → I i env s → ∃ env1, g env x = some env1 ∧ WP (b env1 s) (fun o s' => match o with | .nx e' => I (i + 1) e' s' | .cnt e' => I (i + 1) e' s' | .brk e' => Q (.nx e') s' | .ret v => Q (.ret v) s') E)
    (fin : ∀ env s, I ys.length env s → Q (.nx env) s) : WP (forGo g b ys env s) Q E :=
  ⟨for_wp I h (fun i x env s hx hi => let ⟨e1, h1, h2⟩ := step i x env s hx hi; ⟨e1, h1, h2.run⟩) fin⟩
theorem W_lc {g : DG} {t : DT} {m : DE} {env : Mx.Env} {E : Exc → Sto → Prop} (I : Nat → List Dat → Sto → Prop) {ys : List Dat} {s : Sto} {Q : List Dat → Sto → Prop} (h : I 0 [] s)
    (step : ∀ i x acc s, ys[i]? = some x → I i acc s → ∃ env1, g env x = some env1 ∧ WP (t env1 s) (fun k s1 => if k = true then WP (m env1 s1) (fun y s2 => ∃ d, y = .dat d ∧ I (i + 1) (acc ++ [d]) s2) E else I (i + 1) acc s1) E)
    (fin : ∀ acc s, I ys.length acc s → Q acc s) : WP (lcGo g t m env ys s) Q E :=
  ⟨lc_wp I ys 0 [] s Q (fun i x acc s hx hi => by
    rw [Nat.zero_add] at hi ⊢
    obtain ⟨e1, h1, h2⟩ := step i x acc s hx hi
    refine ⟨e1, h1, R.wp_mono (fun k s1 q => ?_) (fun _ _ z => z) _ h2.run⟩
    split
    · rename_i hk
      rw [if_pos hk] at q
      exact q.run
    · rename_i hk
      rw [if_neg hk] at q
      exact q) (fun acc s hi => fin acc s (by rw [Nat.zero_add] at hi; exact hi)) h⟩
end Lw

set_option maxHeartbeats 4000000
/-! the draws, as runs -/
namespace Lw
open PySem PySem.Spec PyProof.Rows L2 Mx
theorem law_house_W {m : Nat} {mi : Int} (e : mi = ((m : Nat) : Int)) (hm : 1 ≤ m) (hm8 : m ≤ 8) {Q : Dat → Sto → Prop} (q : ∀ n ds, HouseOk n ds → n ≤ m → Q (dHouse n ds) [.row]) : WP (F__law_house [.ref 0, .dat (.int mi)] [.row]) Q noE := by
  subst e
  exact ⟨law_house_wp hm hm8 q⟩
end Lw

set_option maxHeartbeats 400000
/-! drawn sets of rooms -/
namespace Lw
open PySem PySem.Spec PyProof.Rows L2 Mx
def InvRm (n i : Nat) (acc : List Dat) (s : Sto) : Prop := s = [.row] ∧ ∃ l : List Nat, acc = l.map dN ∧ l.Sublist (List.range i)
theorem law_rooms_W {n v : Nat} {env : Mx.Env} (h1 : env[1]? = some (some (.ref 0))) (hv : 1 < v) (hv2 : v < env.length) {Q : List Dat → Sto → Prop} (q : ∀ l : List Nat, l.Sublist (List.range n) → Q (l.map dN) [.row]) :
    WP (lcGo (gN v) (tru (e2 eqD (eCall1 takenF (aCons (eV 1) (aCons (eC (.int 2)) aNil))) (eC (.int 0)))) (eV v) env ((List.range n).map dN) [.row]) Q noE := by
  refine W_mono (fun r s => ?_) (W_lc (I := InvRm n) (Q := InvRm n n) ⟨rfl, [], rfl, List.Sublist.refl _⟩ ?_ ?_)
  · rintro ⟨rfl, l, e, hs⟩
    subst e
    exact q l hs
  · rintro i x acc s hx ⟨rfl, l, rfl, hs⟩
    have hi := (List.getElem?_eq_some_iff.mp hx).1
    rw [List.length_map, List.length_range] at hi
    rw [List.getElem?_map, List.getElem?_range hi] at hx
    cases hx
    refine ⟨_, rfl, ⟨?_⟩⟩
    have g1 : (env.set v (some (.dat (dN i))))[1]? = some (some (.ref 0)) := by rw [List.getElem?_set_ne (by omega)]; exact h1
    have g2 : (env.set v (some (.dat (dN i))))[v]? = some (some (.dat (dN i))) := List.getElem?_set_self hv2
    simp [R.wp_bind, wp_outR_iff, g1, g2]
    intro t ht
    by_cases e : t = 0
    · subst e
      simp
      refine ⟨rfl, l ++ [i], by simp, ?_⟩
      try rw [Nat.zero_add]
      rw [List.range_succ]
      exact hs.append (List.Sublist.refl _)
    · simp [e]
      refine ⟨rfl, l, rfl, ?_⟩
      rw [List.range_succ]
      exact hs.trans (List.sublist_append_left _ _)
  · rintro acc s ⟨rfl, l, rfl, hs⟩
    rw [List.length_map, List.length_range] at hs
    exact ⟨rfl, l, rfl, hs⟩
end Lw

set_option maxHeartbeats 4000000
/-! states without like neighbors; idle keys -/
namespace Lw
open PySem PySem.Spec PyProof.Rows L2 Mx
theorem sum_dSt (s : Sto) (l : List Nat) : sumBD s [.dat (dSt l)] = some (.int (l.sum : Nat)) := by
  have e : intsD (l.map dN) = some (l.map fun i => ((i : Nat) : Int)) := ints_mapN l
  have q : (l.map fun i => ((i : Nat) : Int)).sum = ((l.sum : Nat) : Int) := by
    clear e
    induction l with
    | nil => rfl
    | cons a l ih =>
      rw [List.map_cons, List.sum_cons, ih, List.sum_cons]
      omega
  have e1 : sumD s [.dat (dSt l)] = none := rfl
  rw [u_sumBD, e1]
  show (intsD (l.map dN)).map (fun ns => PyData.int ns.sum) = _
  rw [e, Option.map_some, q]
section
variable {n : Nat} {ds : List (Nat × Nat)} (h : HouseOk n ds) {st ks : List Nat} (hs : st.length = n) (hm : ∀ x ∈ st, x ≤ 60)
include h hs hm
end
end Lw

set_option maxHeartbeats 4000000
/-! houses put together -/
namespace Lw
open PySem PySem.Spec PyProof.Rows L2 Mx
def pl (p : Nat × Nat) : List Nat := [p.1, p.2]
def lp : List Nat → Nat × Nat
  | [a, b] => (a, b)
  | _ => (0, 0)
theorem lp_pl (p : Nat × Nat) : lp (pl p) = p := rfl
theorem dSt_pl (p : Nat × Nat) : dSt (pl p) = dPr p := rfl
def sortP (l : List (Nat × Nat)) : List (Nat × Nat) := (sortS (l.map pl)).map lp
theorem map_pl (l : List (Nat × Nat)) : (l.map pl).map dSt = l.map dPr := by
  rw [List.map_map]
  rfl
theorem sortP_pl (l : List (Nat × Nat)) : (sortP l).map pl = sortS (l.map pl) := by
  unfold sortP
  rw [List.map_map]
  have : ∀ s ∈ sortS (l.map pl), (pl ∘ lp) s = s := fun s hs => by
    obtain ⟨p, _, rfl⟩ := List.mem_map.mp (sortS_mem.mp hs)
    rfl
  conv => rhs; rw [← List.map_id (sortS (l.map pl))]
  exact List.map_congr_left this
theorem sortP_perm (l : List (Nat × Nat)) : (sortP l).Perm l := by
  unfold sortP
  have h := (sortS_perm (l.map pl)).map lp
  rw [List.map_map] at h
  have e : l.map (lp ∘ pl) = l := by
    conv => rhs; rw [← List.map_id l]
    exact List.map_congr_left fun p _ => rfl
  rw [e] at h
  exact h
theorem sortP_mem {p : Nat × Nat} {l : List (Nat × Nat)} : p ∈ sortP l ↔ p ∈ l := (sortP_perm l).mem_iff
theorem sortP_dat (l : List (Nat × Nat)) : (sortS (l.map pl)).map dSt = (sortP l).map dPr := by
  rw [← sortP_pl, map_pl]
theorem sort_pr (s : Sto) (l : List (Nat × Nat)) : sortAF s [.dat (.list (l.map dPr))] = some ((sortP l).map dPr) := by
  rw [← map_pl, sortAF_st s (l := l.map pl) (fun x hx => by
    obtain ⟨p, _, rfl⟩ := List.mem_map.mp hx
    simp [pl]), sortP_dat]
theorem sort_prR {s : Sto} {c : Nat} {l : List (Nat × Nat)} (h : s[c]? = some (.lst (l.map dPr))) : sortAF s [.ref c] = some ((sortP l).map dPr) := by
  rw [← map_pl] at h
  rw [sortAF_ref h (fun x hx => by
    obtain ⟨p, _, rfl⟩ := List.mem_map.mp hx
    simp [pl]), sortP_dat]
theorem lex_lt (p q : Nat × Nat) : ltS (pl p) (pl q) = lexB p q := by
  simp [pl, ltS, lexB]
  by_cases e : p.1 = q.1
  · simp [e]
    intro z
    omega
  · simp [e]
theorem sortP_id {l : List (Nat × Nat)} (h : l.Pairwise fun p q => lexB p q = true) : sortP l = l := by
  unfold sortP
  rw [sortS_id, List.map_map]
  · conv => rhs; rw [← List.map_id l]
    exact List.map_congr_left fun p _ => rfl
  · rw [List.pairwise_map]
    exact h.imp fun {p q} z => by
      rw [← lex_lt] at z
      cases e : ltS (pl q) (pl p) with
      | false => rfl
      | true =>
        have := ltS_trans _ _ _ z e
        rw [ltS_irrefl] at this
        cases this
theorem sortP_lex {l : List (Nat × Nat)} (nd : l.Nodup) : (sortP l).Pairwise fun p q => lexB p q = true := by
  have h := sortS_sorted (l.map pl)
  rw [← sortP_pl, List.pairwise_map] at h
  have nd2 : (sortP l).Nodup := (sortP_perm l).nodup_iff.mpr nd
  refine (h.and nd2).imp fun {p q} z => ?_
  rw [← lex_lt]
  cases e : ltS (pl p) (pl q) with
  | true => rfl
  | false =>
    have := ltS_total _ _ e z.1
    have e2 : lp (pl p) = lp (pl q) := by rw [this]
    exact absurd e2 z.2
theorem sortP_len (l : List (Nat × Nat)) : (sortP l).length = l.length := (sortP_perm l).length_eq
def shP (k : Nat) (p : Nat × Nat) : Nat × Nat := (p.1 + k, p.2 + k)
def besD (n : Nat) (ds es : List (Nat × Nat)) : List (Nat × Nat) := ds ++ es.map (shP n)
def crsP (n m : Nat) : List (Nat × Nat) := (List.range n).flatMap fun a => (List.range m).map fun b => (a, n + b)
def acrD (n m : Nat) (ds es : List (Nat × Nat)) : List (Nat × Nat) := sortP (besD n ds es ++ crsP n m)
def dbl (n : Nat) (ds : List (Nat × Nat)) : List (Nat × Nat) := ds.flatMap fun p => [(p.1, n + p.2), (p.2, n + p.1)]
def dblD (n : Nat) (ds : List (Nat × Nat)) : List (Nat × Nat) := sortP (dbl n ds)
theorem dbl_len (n : Nat) (ds : List (Nat × Nat)) : (dbl n ds).length = 2 * ds.length := by
  unfold dbl
  induction ds with
  | nil => rfl
  | cons a r ih => rw [List.flatMap_cons, List.length_append, ih, List.length_cons]; simp; omega
theorem crs_lenK (n m : Nat) : ∀ k, ((List.range k).flatMap fun a => (List.range m).map fun b => (a, n + b)).length = k * m
  | 0 => by simp
  | k + 1 => by
    rw [List.range_succ, List.flatMap_append, List.length_append, crs_lenK n m k, Nat.add_mul]
    simp
theorem crs_len (n m : Nat) : (crsP n m).length = n * m := crs_lenK n m n
section
variable {n m : Nat} {ds es : List (Nat × Nat)} (h : HouseOk n ds) (h2 : HouseOk m es)
include h h2
end
section
variable {n : Nat} {ds : List (Nat × Nat)} (h : HouseOk n ds)
include h
end
end Lw

set_option maxHeartbeats 4000000
/-! levels -/
namespace Lw
open PySem PySem.Spec PyProof.Rows L2 Mx
/-- the layers of a rest, and what is left -/
def fromL (n : Nat) (st : List Nat) (k : Nat) : List Nat := (List.range n).filter fun r => decide (k ≤ stA st r)
def atL (n : Nat) (st : List Nat) (k : Nat) : List Nat := (List.range n).filter fun r => decide (stA st r = k)
theorem from_zero (n : Nat) (st : List Nat) : fromL n st 0 = List.range n := by
  unfold fromL
  rw [List.filter_eq_self]
  simp
theorem from_step (n : Nat) (st : List Nat) (k : Nat) : (fromL n st k).filter (fun r => !decide (r ∈ atL n st k)) = fromL n st (k + 1) := by
  unfold fromL
  rw [List.filter_filter]
  refine List.filter_congr fun r hr => ?_
  have : decide (r ∈ atL n st k) = decide (stA st r = k) := by
    refine decide_eq_decide.mpr ?_
    unfold atL
    rw [List.mem_filter]
    simp [hr]
  rw [this]
  rw [Bool.eq_iff_iff]
  simp
  omega
theorem at_sub (n : Nat) (st : List Nat) (k : Nat) : (atL n st k).Sublist (fromL n st k) := by
  refine sub_of_asc (asc_filt (asc_range n) _) (asc_filt (asc_range n) _) fun x hx => ?_
  unfold atL at hx
  unfold fromL
  rw [List.mem_filter] at hx ⊢
  have := of_decide_eq_true hx.2
  exact ⟨hx.1, by simp [this]⟩
def okL (R : List (List Nat)) (n : Nat) (st : List Nat) (k : Nat) : Bool := frB R (atL n st k) && lgB R (fromL n st k) (atL n st k)
def lvF (R : List (List Nat)) (n : Nat) (st : List Nat) : Nat → Nat → Nat
  | 0, k => k
  | f + 1, k => if fromL n st k = [] then k else if okL R n st k = true then lvF R n st f (k + 1) else k
/-- the level to which a state is settled -/
def lvN (R : List (List Nat)) (n : Nat) (st : List Nat) : Nat := lvF R n st (n + 1) 0
theorem at_from (n : Nat) (st : List Nat) (k : Nat) : (fromL n st k).filter (fun r => decide (stA st r = k)) = atL n st k := by
  unfold fromL atL
  rw [List.filter_filter]
  refine List.filter_congr fun r _ => ?_
  rw [Bool.eq_iff_iff]
  simp
  omega
theorem from_less {R : List (List Nat)} {n : Nat} {st : List Nat} {k : Nat} (h0 : fromL n st k ≠ []) (h : okL R n st k = true) : (fromL n st (k + 1)).length < (fromL n st k).length := by
  unfold okL at h
  rw [Bool.and_eq_true] at h
  cases e : atL n st k with
  | nil =>
    rw [e, lgB_nil h0] at h
    cases h.2
  | cons x l =>
    have hx : x ∈ atL n st k := by rw [e]; exact List.mem_cons_self
    have hx2 := (at_sub n st k).subset hx
    rw [← from_step]
    have hs := List.filter_sublist (l := fromL n st k) (p := fun r => !decide (r ∈ atL n st k))
    rcases Nat.lt_or_ge ((fromL n st k).filter (fun r => !decide (r ∈ atL n st k))).length (fromL n st k).length with z | z
    · exact z
    · have e2 := hs.eq_of_length (Nat.le_antisymm hs.length_le z)
      rw [← e2] at hx2
      have := (List.mem_filter.mp hx2).2
      simp [hx] at this
theorem lv_same {R : List (List Nat)} {n : Nat} {st : List Nat} : ∀ (f g k : Nat), (fromL n st k).length < f → (fromL n st k).length < g → lvF R n st f k = lvF R n st g k
  | 0, _, _, h, _ => by omega
  | _, 0, _, _, h => by omega
  | f + 1, g + 1, k, h1, h2 => by
    rw [lvF, lvF]
    by_cases e : fromL n st k = []
    · rw [if_pos e, if_pos e]
    · rw [if_neg e, if_neg e]
      by_cases o : okL R n st k = true
      · rw [if_pos o, if_pos o]
        have := from_less e o
        exact lv_same f g (k + 1) (by omega) (by omega)
      · rw [if_neg o, if_neg o]
theorem lv_le {R : List (List Nat)} {n : Nat} {st : List Nat} : ∀ (f k : Nat), lvF R n st f k ≤ k + (fromL n st k).length
  | 0, k => by rw [lvF]; omega
  | f + 1, k => by
    rw [lvF]
    by_cases e : fromL n st k = []
    · rw [if_pos e]
      omega
    · rw [if_neg e]
      by_cases o : okL R n st k = true
      · rw [if_pos o]
        have := from_less e o
        have := lv_le (R := R) (n := n) (st := st) f (k + 1)
        omega
      · rw [if_neg o]
        omega
theorem from_len (n : Nat) (st : List Nat) (k : Nat) : (fromL n st k).length ≤ n := by
  have := List.length_filter_le (fun r => decide (k ≤ stA st r)) (List.range n)
  rw [List.length_range] at this
  exact this
theorem lvN_le (R : List (List Nat)) (n : Nat) (st : List Nat) : lvN R n st ≤ n := by
  have h1 := lv_le (R := R) (n := n) (st := st) (n + 1) 0
  have h2 := from_len n st 0
  unfold lvN
  omega
section
variable {n : Nat} {ds : List (Nat × Nat)} (h : HouseOk n ds) {st : List Nat} (hl : st.length = n) (hm : ∀ x ∈ st, x ≤ 60)
include h hl hm
end
end Lw

set_option maxHeartbeats 4000000
/-! what is settled stays -/
namespace Lw
open PySem PySem.Spec PyProof.Rows L2 Mx
theorem dec_lgR {R : List (List Nat)} {s l : List Nat} : decide (l.filter (fun r => !decide (r ∈ s) && !nbB R s r) = []) = lgB R l s := by
  rw [Bool.eq_iff_iff, decide_eq_true_eq, List.filter_eq_nil_iff]
  unfold lgB
  rw [List.all_eq_true]
  constructor
  · intro h x hx
    have := h x hx
    cases e1 : decide (x ∈ s) <;> cases e2 : nbB R s x <;> simp_all
  · intro h x hx
    have := h x hx
    cases e1 : decide (x ∈ s) <;> cases e2 : nbB R s x <;> simp_all
theorem from_nil {n : Nat} {st : List Nat} (hl : st.length = n) (hne : st ≠ []) (k : Nat) : fromL n st k = [] ↔ maxN st < k := by
  unfold fromL
  rw [List.filter_eq_nil_iff]
  constructor
  · intro h
    obtain ⟨i, hi, e⟩ := List.mem_iff_getElem.mp (maxN_mem hne)
    have := h i (List.mem_range.mpr (by omega))
    have e2 : stA st i = maxN st := by
      unfold stA
      rw [gd hi, e]
    rw [e2] at this
    simpa using this
  · intro h r hr
    have hr := List.mem_range.mp hr
    have : stA st r ≤ maxN st := by
      unfold stA
      rw [gd (by omega)]
      exact maxN_le (List.getElem_mem _)
    simp
    omega
def Setl (R : List (List Nat)) (n : Nat) (st : List Nat) (L : Nat) : Prop := ∀ j, j < L → okL R n st j = true ∧ fromL n st j ≠ []
theorem setl_go {R : List (List Nat)} {n : Nat} {st : List Nat} : ∀ (f k : Nat), Setl R n st k → Setl R n st (lvF R n st f k)
  | 0, k, h => h
  | f + 1, k, h => by
    rw [lvF]
    by_cases e : fromL n st k = []
    · rw [if_pos e]
      exact h
    · rw [if_neg e]
      by_cases o : okL R n st k = true
      · rw [if_pos o]
        refine setl_go f (k + 1) fun j hj => ?_
        by_cases z : j = k
        · subst z
          exact ⟨o, e⟩
        · exact h j (by omega)
      · rw [if_neg o]
        exact h
theorem setl_lv (R : List (List Nat)) (n : Nat) (st : List Nat) : Setl R n st (lvN R n st) := setl_go _ _ fun j hj => by omega
theorem lv_up {R : List (List Nat)} {n : Nat} {st : List Nat} : ∀ (f k : Nat), k ≤ lvF R n st f k
  | 0, k => Nat.le_refl _
  | f + 1, k => by
    rw [lvF]
    by_cases e : fromL n st k = []
    · rw [if_pos e]
      exact Nat.le_refl _
    · rw [if_neg e]
      by_cases o : okL R n st k = true
      · rw [if_pos o]
        have := lv_up (R := R) (n := n) (st := st) f (k + 1)
        omega
      · rw [if_neg o]
        exact Nat.le_refl _
theorem lv_ge {R : List (List Nat)} {n : Nat} {st : List Nat} {L : Nat} (S : Setl R n st L) : ∀ (f k : Nat), (fromL n st k).length < f → k ≤ L → L ≤ lvF R n st f k
  | 0, _, h, _ => by omega
  | f + 1, k, h, hk => by
    by_cases z : k = L
    · subst z
      exact lv_up _ _
    · obtain ⟨o, e⟩ := S k (by omega)
      rw [lvF, if_neg e, if_pos o]
      have := from_less e o
      exact lv_ge S f (k + 1) (by omega) (by omega)
theorem lvN_ge {R : List (List Nat)} {n : Nat} {st : List Nat} {L : Nat} (S : Setl R n st L) : L ≤ lvN R n st := lv_ge S _ _ (by have := from_len n st 0; omega) (Nat.zero_le _)
theorem mem_atL {n : Nat} {st : List Nat} {k r : Nat} : r ∈ atL n st k ↔ r < n ∧ stA st r = k := by
  unfold atL
  rw [List.mem_filter, List.mem_range, decide_eq_true_eq]
theorem mem_fromL {n : Nat} {st : List Nat} {k r : Nat} : r ∈ fromL n st k ↔ r < n ∧ k ≤ stA st r := by
  unfold fromL
  rw [List.mem_filter, List.mem_range, decide_eq_true_eq]
section
variable {n : Nat} {ds : List (Nat × Nat)} (h : HouseOk n ds) {st : List Nat} (hs : st.length = n)
include h hs
omit hs in
theorem setl_shown {L : Nat} (S : Setl (nearS n ds) n st L) {r j : Nat} (hr : r < n) (hj : j < L) (hjr : j < stA st r) : j ∈ shown (rowAt (nearS n ds) r) st := by
  have o := (S j hj).1
  unfold okL at o
  rw [Bool.and_eq_true] at o
  rcases lgB_iff.mp o.2 r (mem_fromL.mpr ⟨hr, by omega⟩) with z | ⟨q, hq, z⟩
  · have := (mem_atL.mp z).2
    omega
  · exact shown_at.mpr ⟨q, hq, (mem_atL.mp z).2⟩
omit hs in
theorem setl_mex {L : Nat} (S : Setl (nearS n ds) n st L) {r : Nat} (hr : r < n) : (stA st r < L → mex (shown (rowAt (nearS n ds) r) st) = stA st r) ∧ (L ≤ stA st r → L ≤ mex (shown (rowAt (nearS n ds) r) st)) := by
  constructor
  · intro hlt
    refine mex_eq (fun z => ?_) fun j hj => setl_shown h S hr (by omega) hj
    obtain ⟨q, hq, e⟩ := shown_at.mp z
    have o := (S _ hlt).1
    unfold okL at o
    rw [Bool.and_eq_true] at o
    exact frB_iff.mp o.1 r (mem_atL.mpr ⟨hr, rfl⟩) q hq (mem_atL.mpr ⟨row_lt (rowsS h) hq, e⟩)
  · intro hle
    rcases Nat.lt_or_ge (mex (shown (rowAt (nearS n ds) r) st)) L with z | z
    · exact absurd (setl_shown h S hr z (by omega)) (mex_not _)
    · exact z
theorem setl_key {L : Nat} (S : Setl (nearS n ds) n st L) {k : Nat} (hk : k < n) : Setl (nearS n ds) n (keyL (nearS n ds) st k) L ∧ ∀ r, r < n → (stA st r < L → stA (keyL (nearS n ds) st k) r = stA st r) ∧ (L ≤ stA st r → L ≤ stA (keyL (nearS n ds) st k) r) := by
  have hm := setl_mex h S hk
  have two : ∀ r, r < n → (stA st r < L → stA (keyL (nearS n ds) st k) r = stA st r) ∧ (L ≤ stA st r → L ≤ stA (keyL (nearS n ds) st k) r) := fun r hr => by
    rw [key_at h hs hk]
    by_cases e : r = k
    · subst e
      rw [if_pos rfl]
      exact hm
    · rw [if_neg e]
      exact ⟨fun _ => rfl, fun z => z⟩
  refine ⟨fun j hj => ?_, two⟩
  have ea : atL n (keyL (nearS n ds) st k) j = atL n st j := by
    unfold atL
    refine List.filter_congr fun r hr => decide_eq_decide.mpr ?_
    have := two r (List.mem_range.mp hr)
    rcases Nat.lt_or_ge (stA st r) L with z | z
    · rw [this.1 z]
    · have := this.2 z
      omega
  have ef : fromL n (keyL (nearS n ds) st k) j = fromL n st j := by
    unfold fromL
    refine List.filter_congr fun r hr => decide_eq_decide.mpr ?_
    have := two r (List.mem_range.mp hr)
    rcases Nat.lt_or_ge (stA st r) L with z | z
    · rw [this.1 z]
    · have := this.2 z
      omega
  have := S j hj
  unfold okL at this ⊢
  rw [ea, ef]
  exact this
end
theorem setl_done {n : Nat} {ds : List (Nat × Nat)} (h : HouseOk n ds) {L : Nat} : ∀ (ks st : List Nat), st.length = n → (∀ k ∈ ks, k < n) → Setl (nearS n ds) n st L → Setl (nearS n ds) n (doneL (nearS n ds) st ks) L ∧ ∀ r, r < n → (stA st r < L → stA (doneL (nearS n ds) st ks) r = stA st r) ∧ (L ≤ stA st r → L ≤ stA (doneL (nearS n ds) st ks) r)
  | [], st, _, _, S => ⟨S, fun r _ => ⟨fun _ => rfl, fun z => z⟩⟩
  | a :: ks, st, hs, hk, S => by
    obtain ⟨S1, t1⟩ := setl_key h hs S (hk a List.mem_cons_self)
    obtain ⟨S2, t2⟩ := setl_done h ks (keyL (nearS n ds) st a) (by rw [keyL_len]; exact hs) (fun k hk' => hk k (List.mem_cons_of_mem _ hk')) S1
    refine ⟨S2, fun r hr => ⟨fun z => ?_, fun z => (t2 r hr).2 ((t1 r hr).2 z)⟩⟩
    have e1 := (t1 r hr).1 z
    have e2 := (t2 r hr).1 (by omega)
    show stA (doneL (nearS n ds) (keyL (nearS n ds) st a) ks) r = _
    omega
theorem lev_setl {n : Nat} {ds : List (Nat × Nat)} (h : HouseOk n ds) {st : List Nat} (hs : st.length = n) (hne : st ≠ []) {i m : Nat} (ha : ∀ r, r < n → Apart (nearS n ds) st r) (hl : ∀ r, r < n → Lev n ds i st r) (h1 : m ≤ i) (h2 : m ≤ maxN st + 1) : Setl (nearS n ds) n st m := fun j hj => by
  refine ⟨?_, fun e => ?_⟩
  · unfold okL
    rw [Bool.and_eq_true]
    refine ⟨frB_iff.mpr fun r hr o ho hos => ?_, lgB_iff.mpr fun r hr => ?_⟩
    · have e1 := mem_atL.mp hr
      have e2 := mem_atL.mp hos
      exact ha r e1.1 o ho (by omega)
    · have e1 := mem_fromL.mp hr
      by_cases z : stA st r = j
      · exact .inl (mem_atL.mpr ⟨e1.1, z⟩)
      · obtain ⟨o, ho, e2⟩ := shown_at.mp (hl r e1.1 j (by omega) (by omega))
        exact .inr ⟨o, ho, mem_atL.mpr ⟨row_lt (rowsS h) ho, e2⟩⟩
  · have := (from_nil hs hne j).mp e
    omega
end Lw

-- @file apart_in
set_option maxHeartbeats 1000000
/-! rooms apart from a set -/
namespace Lw
open PySem PySem.Spec PyProof.Rows L2 Mx
section
variable {n : Nat} {ds : List (Nat × Nat)} (h : HouseOk n ds)
include h
def apL (R : List (List Nat)) (n : Nat) (l : List Nat) : List Nat := (List.range n).filter fun r => !nbB R l r
theorem apart_in_eq {R : List (List Nat)} (hR : RowsOk R n) (hn : n ≤ 1000) (l : List Nat) : F_apart_in [.dat (dRows R), .dat (dSt l)] [] = .ok (dSt (apL R n l)) [] := by
  have hr := rgOk0 hn
  have eL := len_rows hR []
  simp [F_apart_in, d_apart_in, eL, hr]
  rw [lc_filM (fun r => !nbB R l r) dN (hy := fun r hr => ⟨_, rfl, by
    have hrl : r < R.length := by rw [hR.len]; exact List.mem_range.mp hr
    simp [ix_row _ hrl]
    rw [lc_mapM (fun o => PyData.bool (decide (o ∈ l))) (hy := fun o _ => ⟨_, rfl, by simp, by simp⟩)]
    simp [bls_mapF]
    rfl, fun _ => by simp⟩)]
  simp
  rfl
theorem apart_eq {l : List Nat} (ha : Asc l) (hb : ∀ x ∈ l, x < n) : F_apart [.dat (dHouse n ds), .dat (dSt l)] [] = .ok (dSt (apL (nearS n ds) n l)) [] := by
  have hn := h.hi
  have e1 : F_need_house [.dat (dHouse n ds)] [] = .ok .none [] := need_house_eq h
  have e2 := need_set_eq h ha hb
  have e3 := apart_in_eq h (rowsS h) (by omega) l
  simp [F_apart, d_apart, e1, e2, near_eq' h, e3]
end
end Lw

set_option maxHeartbeats 4000000
/-! dicts by states; what is known -/
namespace Lw
open PySem PySem.Spec PyProof.Rows L2 Mx
def rKey (l : List Nat) : List Key := l.map fun (r : Nat) => .inl ((r : Nat) : Int)
theorem keys_dN : ∀ l : List Nat, keysD (l.map dN) = some (rKey l)
  | [] => rfl
  | a :: l => by
    rw [List.map_cons, keysD, keys_dN l]
    rfl
theorem rKey_inj {a b : List Nat} (h : rKey a = rKey b) : a = b := by
  induction a generalizing b with
  | nil =>
    cases b with
    | nil => rfl
    | cons y b => simp [rKey] at h
  | cons x a ih =>
    cases b with
    | nil => simp [rKey] at h
    | cons y b =>
      have h1 : (Sum.inl (x : Int) : Key) = .inl (y : Int) := (List.cons.inj h).1
      have h2 : (x : Int) = y := Sum.inl.inj h1
      have h3 : rKey a = rKey b := (List.cons.inj h).2
      rw [ih h3, show x = y by omega]
theorem val_of {κ : Type} [DecidableEq κ] {kvs : List (κ × Dat)} {k : κ} {d : Dat} (h : valD kvs k = some d) : (k, d) ∈ kvs := by
  unfold valD at h
  cases e : kvs.find? fun kv => decide (kv.1 = k) with
  | none => rw [e] at h; cases h
  | some p =>
    rw [e] at h
    cases h
    have h1 := List.mem_of_find?_eq_some e
    have h2 := List.find?_some e
    have h3 := of_decide_eq_true h2
    rw [← h3]
    exact h1
theorem val_no {κ : Type} [DecidableEq κ] {kvs : List (κ × Dat)} {k : κ} (h : valD kvs k = none) : (kvs.any fun kv => decide (kv.1 = k)) = false := by
  unfold valD at h
  rw [Option.map_eq_none_iff, List.find?_eq_none] at h
  rw [List.any_eq_false]
  exact h
theorem put_no {κ : Type} [DecidableEq κ] {kvs : List (κ × Dat)} {k : κ} {d : Dat} (h : valD kvs k = none) : putD kvs k d = kvs ++ [(k, d)] := by
  unfold putD
  rw [val_no h]
  rfl
theorem val_put {κ : Type} [DecidableEq κ] {kvs : List (κ × Dat)} {k : κ} {d : Dat} (h : valD kvs k = none) : valD (putD kvs k d) k = some d := by
  rw [put_no h]
  have h' := h
  unfold valD at h' ⊢
  rw [Option.map_eq_none_iff] at h'
  rw [List.find?_append, h']
  simp
theorem val_putA {κ : Type} [DecidableEq κ] (kvs : List (κ × Dat)) (k : κ) (d : Dat) : valD (putD kvs k d) k = some d := by
  cases h : valD kvs k with
  | none => exact val_put h
  | some e =>
    unfold putD
    have hm := val_of h
    have ha : (kvs.any fun kv => decide (kv.1 = k)) = true := List.any_eq_true.mpr ⟨_, hm, by simp⟩
    rw [ha, if_pos rfl]
    clear h ha
    induction kvs with
    | nil => cases hm
    | cons p kvs ih =>
      unfold valD
      rw [List.map_cons, List.find?_cons]
      by_cases e1 : p.1 = k
      · simp [e1]
      · have hm' : (k, e) ∈ kvs := by
          rcases List.mem_cons.mp hm with z | z
          · rw [← z] at e1
            exact absurd rfl e1
          · exact z
        have := ih hm'
        unfold valD at this
        simp [e1]
        simpa using this
theorem take_flat {α β : Type} (f : α → List β) (l : List α) (i : Nat) : ((l.take i).flatMap f).length ≤ (l.flatMap f).length := by
  have : l.flatMap f = (l.take i).flatMap f ++ (l.drop i).flatMap f := by rw [← List.flatMap_append, List.take_append_drop]
  rw [this, List.length_append]
  omega
theorem for_bindE {β γ : Type} {g : DG} {b : DS} {k : Out → Sto → Mx.R β} {f : γ → Mx.R β} {W : γ → Prop} (I : Nat → Mx.Env → Sto → Prop) {ys : List Dat} {env : Mx.Env} {s : Sto} (h : I 0 env s)
    (step : ∀ i x env s, ys[i]? = some x → I i env s → ∃ env1 env2 s2, g env x = some env1 ∧ b env1 s = .ok (.nx env2) s2 ∧ I (i + 1) env2 s2)
    (fin : ∀ env s, I ys.length env s → ∃ z, k (.nx env) s = f z ∧ W z) : ∃ z, (forGo g b ys env s).bind k = f z ∧ W z := by
  obtain ⟨env', s', e, q⟩ := for_eq I h step
  rw [e]
  exact fin env' s' q
@[simp] theorem fin_dT (xs ys : List (List Key × Dat)) (d : Dat) (s : Sto) : finB [.dT xs] d (.dT ys :: s) = .ok d [.dT ys] := rfl
/-- what is known of states -/
structure MemoS (P : List Nat → Prop) (enc : List Nat → Dat) (kvs : List (List Key × Dat)) : Prop where
  nd : (kvs.map (·.1)).Nodup
  ok : ∀ p ∈ kvs, ∃ st : List Nat, P st ∧ p.1 = rKey st ∧ p.2 = enc st
section
variable {P : List Nat → Prop} {enc : List Nat → Dat} {kvs : List (List Key × Dat)}
theorem MemoS.few {U : List (List Nat)} (hU : ∀ st, P st → st ∈ U) (M : MemoS P enc kvs) : kvs.length ≤ U.length := by
  have h := nodup_le (m := U.map rKey) M.nd fun x hx => by
    obtain ⟨p, hp, rfl⟩ := List.mem_map.mp hx
    obtain ⟨st, h1, h2, _⟩ := M.ok p hp
    exact List.mem_map.mpr ⟨st, hU st h1, h2.symm⟩
  rw [List.length_map, List.length_map] at h
  exact h
theorem MemoS.nil : MemoS P enc [] := ⟨by simp, fun p hp => by cases hp⟩
theorem MemoS.get (M : MemoS P enc kvs) {st : List Nat} {d : Dat} (h : valD kvs (rKey st) = some d) : d = enc st := by
  obtain ⟨st', _, h2, h3⟩ := M.ok _ (val_of h)
  have h2 : rKey st = rKey st' := h2
  have h3 : d = enc st' := h3
  rw [h3, rKey_inj h2]
theorem MemoS.put (M : MemoS P enc kvs) {st : List Nat} (hs : P st) : MemoS P enc (putD kvs (rKey st) (enc st)) := by
  cases h : valD kvs (rKey st) with
  | none =>
    rw [put_no h]
    refine ⟨?_, fun p hp => ?_⟩
    · rw [List.map_append]
      refine List.nodup_append.mpr ⟨M.nd, by simp, fun x hx y hy e => ?_⟩
      subst e
      obtain ⟨p, hp, e⟩ := List.mem_map.mp hx
      have hy : x = rKey st := by simpa using hy
      have := List.any_eq_false.mp (val_no h) p hp
      rw [decide_eq_true (by rw [e, hy])] at this
      exact this rfl
    · rcases List.mem_append.mp hp with hp | hp
      · exact M.ok p hp
      · rw [List.mem_singleton.mp hp]
        exact ⟨st, hs, rfl, rfl⟩
  | some e =>
    have hm := val_of h
    have ha : (kvs.any fun kv => decide (kv.1 = rKey st)) = true := List.any_eq_true.mpr ⟨_, hm, by simp⟩
    unfold putD
    rw [ha, if_pos rfl]
    refine ⟨?_, fun p hp => ?_⟩
    · have : (kvs.map fun kv => if kv.1 = rKey st then (kv.1, enc st) else kv).map (·.1) = kvs.map (·.1) := by
        rw [List.map_map]
        refine List.map_congr_left fun q _ => ?_
        show (if q.1 = rKey st then (q.1, enc st) else q).1 = q.1
        split <;> rfl
      rw [this]
      exact M.nd
    · obtain ⟨q, hq, e⟩ := List.mem_map.mp hp
      by_cases z : q.1 = rKey st
      · rw [if_pos z] at e
        subst e
        exact ⟨st, hs, z, rfl⟩
      · rw [if_neg z] at e
        subst e
        exact M.ok q hq
end
section
variable {s : Sto} {c : Nat} {kvs : List (List Key × Dat)} (hc : s[c]? = some (.dT kvs)) (st : List Nat)
include hc
theorem inD_memo : inD s (.dat (dSt st)) (.ref c) = some (valD kvs (rKey st)).isSome := by
  have hk : dSt st = .tuple (st.map dN) := rfl
  simp [hk, hc, keys_dN st]
theorem ixD_memo {d : Dat} (hd : valD kvs (rKey st) = some d) : ixD s (.ref c) (.dat (dSt st)) = some d := by
  have hk : dSt st = .tuple (st.map dN) := rfl
  simp [hk, hc, keys_dN st, hd]
theorem put_memo (hl : kvs.length < sizeLine) (d : Dat) : putDF s (.ref c) (.dat (dSt st)) (.dat d) = some (s.set c (.dT (putD kvs (rKey st) d))) := by
  unfold putDF
  simp only [hc, dSt, hl, if_true, keys_dN st]
  rfl
end
/-- a for that stops at a break -/
theorem for_brk {g : DG} {b : DS} (I : Nat → Mx.Env → Sto → Prop) (J : Mx.Env → Sto → Prop) : ∀ (i0 j : Nat) (ys : List Dat) (env : Mx.Env) (s : Sto), i0 < ys.length →
    (∀ i x env s, i < i0 → ys[i]? = some x → I (j + i) env s → ∃ env1 env2 s2, g env x = some env1 ∧ b env1 s = .ok (.nx env2) s2 ∧ I (j + i + 1) env2 s2) →
    (∀ x env s, ys[i0]? = some x → I (j + i0) env s → ∃ env1 env2 s2, g env x = some env1 ∧ b env1 s = .ok (.brk env2) s2 ∧ J env2 s2) →
    I j env s → ∃ env' s', forGo g b ys env s = .ok (.nx env') s' ∧ J env' s'
  | 0, j, x :: ys, env, s, _, _, brk, h => by
    obtain ⟨env1, env2, s2, e1, e2, q⟩ := brk x env s rfl h
    refine ⟨env2, s2, ?_, q⟩
    rw [for_cons, e1]
    simp only [e2, b_ok]
  | i0 + 1, j, x :: ys, env, s, hl, step, brk, h => by
    obtain ⟨env1, env2, s2, e1, e2, q⟩ := step 0 x env s (by omega) rfl h
    obtain ⟨env', s', e3, q'⟩ := for_brk I J i0 (j + 1) ys env2 s2 (by simpa using hl) (fun i x env s hi hx h => by
      have := step (i + 1) x env s (by omega) (by simpa using hx) (by rw [show j + (i + 1) = j + 1 + i by omega]; exact h)
      rw [show j + (i + 1) = j + 1 + i by omega] at this
      exact this) (fun x env s hx h => brk x env s (by simpa using hx) (by rw [show j + (i0 + 1) = j + 1 + i0 by omega]; exact h)) q
    refine ⟨env', s', ?_, q'⟩
    rw [for_cons, e1]
    simp only [e2, b_ok, e3]
/-- a while that counts down; its test may change the store -/
theorem while_down {c : DT} {b : DS} (I : Nat → Mx.Env → Sto → Prop) (J : Mx.Env → Sto → Prop) (step : ∀ k env s, I (k + 1) env s → ∃ s1 env2 s2, c env s = .ok true s1 ∧ b env s1 = .ok (.nx env2) s2 ∧ I k env2 s2)
    (fin : ∀ env s, I 0 env s → ∃ s1, c env s = .ok false s1 ∧ J env s1) : ∀ (k fuel : Nat) (env : Mx.Env) (s : Sto), k < fuel → I k env s → ∃ env' s', sWhile fuel c b env s = .ok (.nx env') s' ∧ J env' s'
  | 0, fuel + 1, env, s, _, h => by
    obtain ⟨s1, e, q⟩ := fin env s h
    refine ⟨env, s1, ?_, q⟩
    show (c env s).bind _ = _
    rw [e]
    rfl
  | k + 1, fuel + 1, env, s, hf, h => by
    obtain ⟨s1, env2, s2, e1, e2, q⟩ := step k env s h
    obtain ⟨env', s', e3, q'⟩ := while_down I J step fin k fuel env2 s2 (by omega) q
    refine ⟨env', s', ?_, q'⟩
    show (c env s).bind _ = _
    rw [e1, b_ok, if_pos rfl, e2]
    exact e3
end Lw

-- @file sets_beside|closed_sets
set_option maxHeartbeats 1000000
/-! sorting of tuples of which some may be () -/
namespace Lw
open PySem PySem.Spec PyProof.Rows L2 Mx
theorem okE_st (l : List (List Nat)) : okE (l.map dSt) = true := by
  unfold okE
  rw [List.all_eq_true]
  intro d hd
  obtain ⟨s, _, rfl⟩ := List.mem_map.mp hd
  show (s.map dN).all isInt = true
  rw [List.all_eq_true]
  intro e he
  obtain ⟨x, _, rfl⟩ := List.mem_map.mp he
  rfl
theorem sortEF_st (s : Sto) (l : List (List Nat)) : sortEF s [.dat (.list (l.map dSt))] = some ((sortS l).map dSt) := by
  show (if okE (l.map dSt) = true then some (sortD (l.map dSt)) else none) = _
  rw [okE_st, if_pos rfl, sortD_dSt]
end Lw

set_option maxHeartbeats 4000000
/-! cells at the end of a store; one draw -/
namespace Lw
open PySem PySem.Spec PyProof.Rows L2 Mx
theorem gx0 (S : Sto) (a : Cell) (r : Sto) : (S ++ a :: r)[S.length]? = some a := by simp
theorem gx1 (S : Sto) (a b : Cell) (r : Sto) : (S ++ a :: b :: r)[S.length + 1]? = some b := by
  rw [List.getElem?_append_right (by omega)]
  simp
theorem gx2 (S : Sto) (a b c : Cell) (r : Sto) : (S ++ a :: b :: c :: r)[S.length + 2]? = some c := by
  rw [List.getElem?_append_right (by omega)]
  simp
theorem sx0 (S : Sto) (a x : Cell) (r : Sto) : (S ++ a :: r).set S.length x = S ++ x :: r := by
  rw [List.set_append_right _ _ (by omega)]
  simp
theorem sx1 (S : Sto) (a b x : Cell) (r : Sto) : (S ++ a :: b :: r).set (S.length + 1) x = S ++ a :: x :: r := by
  rw [List.set_append_right _ _ (by omega)]
  simp
theorem sx2 (S : Sto) (a b c x : Cell) (r : Sto) : (S ++ a :: b :: c :: r).set (S.length + 2) x = S ++ a :: b :: x :: r := by
  rw [List.set_append_right _ _ (by omega)]
  simp
theorem ixr {s : Sto} {c : Nat} {ds : List Dat} {i : Int} {v : Dat} (h : s[c]? = some (.lst ds)) (hv : atI ds i = some v) : ixD s (.ref c) (.dat (.int i)) = some v := by
  rw [ix_r, view_lst h]
  exact hv
theorem law_taken_W {n : Nat} (h1 : 1 ≤ n) (h2 : n < 1000000) {Q : Dat → Sto → Prop} (q : ∀ i, i < n → Q (dN i) [.row]) : WP (takenF [.ref 0, .dat (.int (n : Nat))] [.row]) Q noE := by
  rw [u_taken (n : Int) (by omega) (by omega), W_pick]
  intro i hi
  rw [W_ok]
  exact q i (by omega)
theorem at_m2 {α : Type} (xs : List α) (x y : α) : atI (xs ++ [x, y]) (-2) = some x := by
  unfold atI ixN
  have h : (xs ++ [x, y]).length = xs.length + 2 := by simp
  rw [h, if_neg (by omega), if_pos (by omega)]
  rw [show ((-2 : Int) + ((xs.length + 2 : Nat) : Int)).toNat = xs.length by omega]
  simp
theorem filt_snoc (P : Nat → Prop) [DecidablePred P] (i : Nat) : (List.range (i + 1)).filter (fun j => decide (P j)) = (List.range i).filter (fun j => decide (P j)) ++ if P i then [i] else [] := by
  rw [List.range_succ, List.filter_append]
  by_cases q : P i <;> simp [q]
end Lw

set_option maxHeartbeats 4000000
/-! one below another; numbers of any sign -/
namespace Lw
open PySem PySem.Spec PyProof.Rows L2 Mx
def dInts (l : List Int) : Dat := .tuple (l.map .int)
theorem shp_ints (l : List Int) : shp 60 (.list (l.map .int)) = true := by
  rw [shp, List.all_map, List.all_eq_true]
  exact fun _ _ => rfl
theorem shp_l0 : shp 60 (.list []) = true := rfl
theorem al_ints (k : Nat) (l : List Int) (h : l.length ≤ 1000000) : alD (k + 2) (dInts l) = true := by
  have := al_st k (l.map Int.toNat) (by rw [List.length_map]; exact h)
  unfold dInts
  unfold dSt at this
  rw [alD] at this ⊢
  simp only [List.length_map, List.all_map] at this ⊢
  exact this
/-- nowhere above -/
def belB (a b : List Nat) : Bool := (List.range a.length).all fun i => decide (stA a i ≤ stA b i)
theorem belB_iff {a b : List Nat} : belB a b = true ↔ ∀ i, i < a.length → stA a i ≤ stA b i := by
  unfold belB
  rw [List.all_eq_true]
  constructor
  · intro h i hi
    exact of_decide_eq_true (h i (List.mem_range.mpr hi))
  · intro h i hi
    exact decide_eq_true (h i (List.mem_range.mp hi))
theorem gtN (s : Sto) (a b : Nat) : gtO s (.dat (dN a)) (.dat (dN b)) = some (.bool (decide (b < a))) := by
  show some (PyData.bool (rGt (a : Int) (b : Int))) = _
  congr 2
  unfold rGt
  by_cases h : b < a
  · rw [decide_eq_true h, decide_eq_true (by omega)]
  · rw [decide_eq_false h, decide_eq_false (by omega)]
theorem leN (s : Sto) (a b : Nat) : leO s (.dat (dN a)) (.dat (dN b)) = some (.bool (decide (a ≤ b))) := by
  show some (PyData.bool (rLe (a : Int) (b : Int))) = _
  congr 2
  unfold rLe
  by_cases h : a ≤ b
  · rw [decide_eq_true h, decide_eq_true (by omega)]
  · rw [decide_eq_false h, decide_eq_false (by omega)]
section
variable {n : Nat} {ds : List (Nat × Nat)} (h : HouseOk n ds) {st : List Nat} (hs : st.length = n) (hm : ∀ x ∈ st, x ≤ 60)
include h hs hm
end
end Lw

set_option maxHeartbeats 1000000
/-! games: moves, values by moves -/
namespace Lw
open PySem PySem.Spec PyProof.Rows L2 Mx
end Lw

set_option maxHeartbeats 1000000
/-! games: the walk -/
namespace Lw
open PySem PySem.Spec PyProof.Rows L2 Mx
end Lw

-- @file reached_from|_law_search|least_from|closed_sets
set_option maxHeartbeats 4000000
/-! tuples of numbers as keys -/
namespace Lw
open PySem PySem.Spec PyProof.Rows L2 Mx
theorem nkL_dN : ∀ a b : List Nat, nkL (a.map dN) = nkL (b.map dN) → a = b
  | [], [], _ => rfl
  | [], _ :: _, h => by simp [nkL] at h
  | _ :: _, [], h => by simp [nkL] at h
  | x :: a, y :: b, h => by
    rw [List.map_cons, List.map_cons, nkL, nkL] at h
    injection h with h1 h2
    have e : NestedKey.num (x : Int) = .num (y : Int) := h1
    injection e with e
    rw [nkL_dN a b h2, show x = y by omega]
theorem nk_dSt {a b : List Nat} : nkD (dSt a) = nkD (dSt b) ↔ a = b := by
  constructor
  · intro e
    have e : NestedKey.tup (nkL (a.map dN)) = .tup (nkL (b.map dN)) := e
    injection e with e
    exact nkL_dN a b e
  · intro e
    rw [e]
theorem ky_dN : ∀ a : List Nat, kyL (a.map dN) = true
  | [] => rfl
  | x :: a => by
    rw [List.map_cons, kyL, ky_dN a]
    rfl
theorem dep_dN : ∀ a : List Nat, NestedKey.depthAll (nkL (a.map dN)) ≤ 1
  | [] => by simp [nkL, NestedKey.depthAll]
  | x :: a => by
    have := dep_dN a
    have e : (nkD (dN x)).depth = 0 := rfl
    rw [List.map_cons, nkL, NestedKey.depthAll, e]
    omega
theorem tk_dSt (a : List Nat) : tkD (dSt a) = true := by
  have h1 : kyD (dSt a) = true := ky_dN a
  have h2 : (nkD (dSt a)).depth ≤ 8 := by
    show (NestedKey.tup (nkL (a.map dN))).depth ≤ 8
    have := dep_dN a
    unfold NestedKey.depth
    omega
  unfold tkD
  rw [h1, decide_eq_true h2]
  rfl
theorem while_go {c : DT} {b : DS} {Fin : Mx.Env → Sto → Prop} (I : Nat → Mx.Env → Sto → Prop) (m : Nat)
    (step : ∀ k env s, I k env s → (c env s = .ok false s ∧ Fin env s) ∨ (k < m ∧ c env s = .ok true s ∧ ∃ env2 s2, b env s = .ok (.nx env2) s2 ∧ I (k + 1) env2 s2)) :
    ∀ (d k fuel : Nat) (env : Mx.Env) (s : Sto), k + d = m → d < fuel → I k env s → ∃ env' s', sWhile fuel c b env s = .ok (.nx env') s' ∧ Fin env' s'
  | d, k, 0, _, _, _, hf, _ => by omega
  | d, k, fuel + 1, env, s, hk, hf, h => by
    rcases step k env s h with ⟨e, q⟩ | ⟨hlt, e, env2, s2, e2, q⟩
    · refine ⟨env, s, ?_, q⟩
      show (c env s).bind _ = _
      rw [e]
      rfl
    · cases d with
      | zero => omega
      | succ d =>
        obtain ⟨env', s', e3, q'⟩ := while_go I m step d (k + 1) fuel env2 s2 (by omega) (by omega) q
        refine ⟨env', s', ?_, q'⟩
        show (c env s).bind _ = _
        rw [e, b_ok, if_pos rfl, e2]
        exact e3
end Lw

-- @file closed_sets
set_option maxHeartbeats 1000000
/-! closed sets -/
namespace Lw
open PySem PySem.Spec PyProof.Rows L2 Mx
/-! ### sets of tuples as dicts -/
def insK (ks : List (List Nat)) (s : List Nat) : List (List Nat) := if s ∈ ks then ks else ks ++ [s]
def seenP (s : List Nat) : Dat × Dat := (dSt s, .bool true)
theorem putN_seen (ks : List (List Nat)) (s : List Nat) : putN (ks.map seenP) (dSt s) (.bool true) = (insK ks s).map seenP := by
  unfold putN insK
  by_cases h : s ∈ ks
  · rw [if_pos h, if_pos]
    · rw [List.map_map]
      refine List.map_congr_left fun x _ => ?_
      show (if nkD (dSt x) = nkD (dSt s) then (dSt x, PyData.bool true) else (dSt x, .bool true)) = _
      split <;> rfl
    · rw [List.any_map, List.any_eq_true]
      exact ⟨s, h, decide_eq_true rfl⟩
  · rw [if_neg h, if_neg]
    · rw [List.map_append]
      rfl
    · rw [List.any_map, List.any_eq_true]
      rintro ⟨x, hx, e⟩
      have e : nkD (dSt x) = nkD (dSt s) := of_decide_eq_true e
      rw [nk_dSt.mp e] at hx
      exact h hx
theorem put_seen {s : Sto} {c : Nat} {ks : List (List Nat)} (hc : s[c]? = some (.dD (ks.map seenP))) (hl : ks.length < sizeLine) (x : List Nat) : putDF s (.ref c) (.dat (dSt x)) (.dat (.bool true)) = some (s.set c (.dD ((insK ks x).map seenP))) := by
  unfold putDF
  simp only [hc]
  rw [if_pos ⟨by rw [List.length_map]; exact hl, tk_dSt x⟩, putN_seen]
def seenL (l : List (List Nat)) (ks : List (List Nat)) : List (List Nat) := l.foldl insK ks
theorem ins_len (ks : List (List Nat)) (s : List Nat) : (insK ks s).length ≤ ks.length + 1 := by
  unfold insK
  split <;> simp
theorem seen_len : ∀ (l ks : List (List Nat)), (seenL l ks).length ≤ ks.length + l.length
  | [], ks => Nat.le_refl _
  | a :: l, ks => by
    have h1 := seen_len l (insK ks a)
    have h2 := ins_len ks a
    show (seenL l (insK ks a)).length ≤ _
    rw [List.length_cons]
    omega
theorem seen_mem {x : List Nat} : ∀ (l ks : List (List Nat)), x ∈ seenL l ks ↔ x ∈ ks ∨ x ∈ l
  | [], ks => by simp [seenL]
  | a :: l, ks => by
    show x ∈ seenL l (insK ks a) ↔ _
    rw [seen_mem l]
    have : x ∈ insK ks a ↔ x ∈ ks ∨ x = a := by
      unfold insK
      split
      · rename_i h
        constructor
        · exact .inl
        · rintro (q | rfl)
          · exact q
          · exact h
      · rw [List.mem_append, List.mem_singleton]
    rw [this, List.mem_cons]
    constructor
    · rintro ((q | q) | q)
      · exact .inl q
      · exact .inr (.inl q)
      · exact .inr (.inr q)
    · rintro (q | q | q)
      · exact .inl (.inl q)
      · exact .inl (.inr q)
      · exact .inr q
theorem seen_nodup : ∀ (l ks : List (List Nat)), ks.Nodup → (seenL l ks).Nodup
  | [], ks, h => h
  | a :: l, ks, h => by
    refine seen_nodup l (insK ks a) ?_
    unfold insK
    split
    · exact h
    · rename_i q
      refine List.nodup_append.mpr ⟨h, by simp, fun x hx y hy e => ?_⟩
      rw [List.mem_singleton.mp hy] at e
      rw [e] at hx
      exact q hx
theorem seen_keys (ks : List (List Nat)) : (ks.map seenP).map (·.1) = ks.map dSt := by
  rw [List.map_map]
  rfl
/-! ### all sets of rooms -/
def subsL : List Nat → List (List Nat) → List (List Nat)
  | [], acc => acc
  | r :: rs, acc => subsL rs (acc ++ acc.map fun s => s ++ [r])
theorem subs_len : ∀ (rs : List Nat) (acc : List (List Nat)), (subsL rs acc).length = 2 ^ rs.length * acc.length
  | [], acc => by simp [subsL]
  | r :: rs, acc => by
    rw [subsL, subs_len rs, List.length_append, List.length_map, List.length_cons, Nat.pow_succ, Nat.mul_assoc, Nat.two_mul]
theorem subs_mem {s : List Nat} : ∀ (rs : List Nat) (acc : List (List Nat)), s ∈ subsL rs acc ↔ ∃ a ∈ acc, ∃ t : List Nat, t.Sublist rs ∧ s = a ++ t
  | [], acc => by
    rw [subsL]
    constructor
    · exact fun h => ⟨s, h, [], List.Sublist.refl _, by simp⟩
    · rintro ⟨a, ha, t, ht, rfl⟩
      rw [List.sublist_nil.mp ht, List.append_nil]
      exact ha
  | r :: rs, acc => by
    rw [subsL, subs_mem rs]
    constructor
    · rintro ⟨a, ha, t, ht, rfl⟩
      rcases List.mem_append.mp ha with q | q
      · exact ⟨a, q, t, ht.cons _, rfl⟩
      · obtain ⟨b, hb, rfl⟩ := List.mem_map.mp q
        exact ⟨b, hb, r :: t, ht.cons_cons _, by simp⟩
    · rintro ⟨a, ha, t, ht, rfl⟩
      cases ht with
      | cons _ q => exact ⟨a, List.mem_append_left _ ha, t, q, rfl⟩
      | cons_cons _ q => exact ⟨a ++ [r], List.mem_append_right _ (List.mem_map.mpr ⟨a, ha, rfl⟩), _, q, by simp⟩
theorem subs_range {n : Nat} {s : List Nat} : s ∈ subsL (List.range n) [[]] ↔ s.Sublist (List.range n) := by
  rw [subs_mem]
  constructor
  · rintro ⟨a, ha, t, ht, rfl⟩
    rw [List.mem_singleton.mp ha]
    exact ht
  · exact fun h => ⟨[], by simp, s, h, rfl⟩
/-! ### rooms apart -/
section
variable {R : List (List Nat)} {n : Nat}
theorem apL_mem {l : List Nat} {r : Nat} : r ∈ apL R n l ↔ r < n ∧ ∀ o ∈ rowAt R r, o ∉ l := by
  unfold apL
  rw [List.mem_filter, List.mem_range, Bool.not_eq_true']
  constructor
  · rintro ⟨h1, h2⟩
    refine ⟨h1, fun o ho hl => ?_⟩
    rw [nbB_iff.mpr ⟨o, ho, hl⟩] at h2
    cases h2
  · rintro ⟨h1, h2⟩
    refine ⟨h1, ?_⟩
    cases e : nbB R l r with
    | false => rfl
    | true =>
      obtain ⟨o, ho, hl⟩ := nbB_iff.mp e
      exact absurd hl (h2 o ho)
theorem apL_asc (l : List Nat) : Asc (apL R n l) := asc_filt (asc_range n) _
theorem apL_lt {l : List Nat} : ∀ x ∈ apL R n l, x < n := fun x hx => (apL_mem.mp hx).1
theorem apL_congr {l m : List Nat} (h : ∀ x, x ∈ l ↔ x ∈ m) : apL R n l = apL R n m := asc_ext (apL_asc l) (apL_asc m) fun x => by
  rw [apL_mem, apL_mem]
  simp only [h]
theorem apL_anti {l m : List Nat} (h : ∀ x ∈ l, x ∈ m) : ∀ x ∈ apL R n m, x ∈ apL R n l := fun x hx => by
  obtain ⟨h1, h2⟩ := apL_mem.mp hx
  exact apL_mem.mpr ⟨h1, fun o ho z => h2 o ho (h o z)⟩
theorem apL_two (hR : symR R) {l : List Nat} (hl : ∀ x ∈ l, x < n) : ∀ x ∈ l, x ∈ apL R n (apL R n l) := fun x hx => apL_mem.mpr ⟨hl x hx, fun o ho z => (apL_mem.mp z).2 x ((hR.1 x o).mp ho) hx⟩
theorem apL_three (hR : symR R) {l : List Nat} (hl : ∀ x ∈ l, x < n) : apL R n (apL R n (apL R n l)) = apL R n l := asc_ext (apL_asc _) (apL_asc _) fun x => ⟨fun hx => apL_anti (apL_two hR hl) x hx, fun hx => apL_two hR apL_lt x hx⟩
def closedL (R : List (List Nat)) (n : Nat) : List (List Nat) := sortS (seenL ((subsL (List.range n) [[]]).map (apL R n)) [])
theorem closedL_mem {s : List Nat} : s ∈ closedL R n ↔ ∃ t : List Nat, t.Sublist (List.range n) ∧ s = apL R n t := by
  unfold closedL
  rw [sortS_mem, seen_mem, List.mem_map]
  constructor
  · rintro (q | ⟨t, ht, e⟩)
    · cases q
    · exact ⟨t, subs_range.mp ht, e.symm⟩
  · rintro ⟨t, ht, e⟩
    exact .inr ⟨t, subs_range.mpr ht, e.symm⟩
theorem closedL_nodup : (closedL R n).Nodup := (sortS_perm _).nodup_iff.mpr (seen_nodup _ _ (by simp))
theorem closedL_sorted : (closedL R n).Pairwise fun x y => ltS y x = false := sortS_sorted _
theorem closedL_few (hn : n ≤ 8) : (closedL R n).length ≤ 256 := by
  unfold closedL
  rw [(sortS_perm _).length_eq]
  have h1 := seen_len ((subsL (List.range n) [[]]).map (apL R n)) []
  rw [List.length_map, subs_len, List.length_range] at h1
  have h2 : 2 ^ n ≤ 2 ^ 8 := Nat.pow_le_pow_right (by decide) hn
  simp at h1
  omega
/-- what is closed is what closing keeps -/
theorem closed_iff (hR : symR R) {s : List Nat} : s ∈ closedL R n ↔ Asc s ∧ (∀ x ∈ s, x < n) ∧ apL R n (apL R n s) = s := by
  rw [closedL_mem]
  constructor
  · rintro ⟨t, ht, rfl⟩
    exact ⟨apL_asc t, apL_lt, apL_three hR fun x hx => List.mem_range.mp (ht.subset hx)⟩
  · rintro ⟨h1, h2, h3⟩
    exact ⟨apL R n s, List.filter_sublist, h3.symm⟩
/-- the largest sets are those that are apart from themselves -/
theorem largest_apart (hR : symR R) : (closedL R n).filter (fun s => decide (apL R n s = s)) = lgL R (List.range n) := by
  refine srt_ext (closedL_nodup.filter _) ((sortS_perm _).nodup_iff.mpr ((freeL_nodup _ _ (asc_nodup (asc_range n)) (by simp) (by simp)).filter _)) (closedL_sorted.filter _) (sortS_sorted _) fun s => ?_
  rw [List.mem_filter, decide_eq_true_iff, lgL_mem hR]
  constructor
  · rintro ⟨h1, h2⟩
    obtain ⟨ha, hlt, _⟩ := (closed_iff hR).mp h1
    have hm : ∀ r, r ∈ s ↔ r < n ∧ ∀ o ∈ rowAt R r, o ∉ s := fun r => by
      have := apL_mem (R := R) (n := n) (l := s) (r := r)
      rw [h2] at this
      exact this
    refine ⟨sub_of_asc (asc_range n) ha fun x hx => List.mem_range.mpr (hlt x hx), frB_iff.mpr fun r hr o ho => ((hm r).mp hr).2 o ho, lgB_iff.mpr fun r hr => ?_⟩
    by_cases q : r ∈ s
    · exact .inl q
    · refine .inr ?_
      cases e : nbB R s r with
      | true => exact nbB_iff.mp e
      | false =>
        exact absurd ((hm r).mpr ⟨List.mem_range.mp hr, fun o ho z => by
          rw [nbB_iff.mpr ⟨o, ho, z⟩] at e
          cases e⟩) q
  · rintro ⟨h1, h2, h3⟩
    have e : apL R n s = s := asc_ext (apL_asc s) (asc_sub (asc_range n) h1) fun r => by
      rw [apL_mem]
      constructor
      · rintro ⟨q1, q2⟩
        rcases lgB_iff.mp h3 r (List.mem_range.mpr q1) with z | ⟨o, ho, z⟩
        · exact z
        · exact absurd z (q2 o ho)
      · intro hr
        exact ⟨List.mem_range.mp (h1.subset hr), frB_iff.mp h2 r hr⟩
    exact ⟨(closed_iff hR).mpr ⟨asc_sub (asc_range n) h1, fun x hx => List.mem_range.mp (h1.subset hx), by rw [e, e]⟩, e⟩
end
theorem subs_go (x0 x1 : Option EV) (c : Cell) : ∀ (rs : List Nat) (acc : List (List Nat)) (x4 : Option EV), 2 ^ rs.length * acc.length ≤ 4096 → (∀ s ∈ acc, s.length + rs.length ≤ 100) → dropRef 1 x4 = x4 → ∃ x4', dropRef 1 x4' = x4' ∧
    forGo (gN 4) (sEx (eMt extF (eV 3) (aCons (eFrz (fLcC 3 [5] (gN 5) tYesD (eTup (aStar (eV 5) (aCons (eV 4) aNil))))) aNil))) (rs.map dN) [x0, x1, some (.ref 0), some (.ref 1), x4, none] [c, .lst (acc.map dSt)] =
      .ok (.nx [x0, x1, some (.ref 0), some (.ref 1), x4', none]) [c, .lst ((subsL rs acc).map dSt)]
  | [], acc, x4, _, _, q => ⟨x4, q, rfl⟩
  | r :: rs, acc, x4, hl, hb, _ => by
    have hp : 1 ≤ 2 ^ rs.length := Nat.one_le_two_pow
    rw [List.length_cons, Nat.pow_succ] at hl
    have h3 : acc.length ≤ 2 ^ rs.length * acc.length := Nat.le_mul_of_pos_left _ hp
    have h4 : 2 ^ rs.length * 2 * acc.length = 2 * (2 ^ rs.length * acc.length) := by
      rw [Nat.mul_comm (2 ^ rs.length) 2, Nat.mul_assoc]
    have hz : 10000 ≤ sizeLine := by decide
    obtain ⟨x4', d4, ih⟩ := subs_go x0 x1 c rs (acc ++ acc.map fun s => s ++ [r]) (some (.dat (dN r))) (by
      have : (acc ++ acc.map fun s => s ++ [r]).length = 2 * acc.length := by
        rw [List.length_append, List.length_map]
        omega
      rw [this, ← Nat.mul_assoc]
      exact hl) (fun s hs => by
        rcases List.mem_append.mp hs with hs | hs
        · have := hb s hs
          rw [List.length_cons] at this
          omega
        · obtain ⟨t, ht, rfl⟩ := List.mem_map.mp hs
          have := hb t ht
          rw [List.length_cons] at this
          rw [List.length_append, List.length_singleton]
          omega) rfl
    refine ⟨x4', d4, ?_⟩
    rw [List.map_cons, for_cons]
    simp
    rw [lc_mapM (fun s => dSt (s ++ [r])) (hy := fun s hs => ⟨_, rfl, by simp, by
      have ed : dSt s = .tuple (s.map dN) := rfl
      have := hb s hs
      simp [ed]
      rw [if_pos (by omega)]
      simp [dSt]⟩)]
    have hz1 : acc.length + acc.length ≤ sizeLine := by omega
    have e : acc.map dSt ++ acc.map (fun s => dSt (s ++ [r])) = (acc ++ acc.map fun s => s ++ [r]).map dSt := by
      rw [List.map_append, List.map_map]
      rfl
    simp [hz1]
    rw [e]
    exact ih
theorem seen_take (l ks : List (List Nat)) (i : Nat) {x : List Nat} (h : l[i]? = some x) : seenL (l.take (i + 1)) ks = insK (seenL (l.take i) ks) x := by
  rw [List.take_succ, h]
  unfold seenL
  rw [List.foldl_append]
  rfl
section
variable {n : Nat} {ds : List (Nat × Nat)} (h : HouseOk n ds)
include h
theorem closed_sets_eq : F_closed_sets [.dat (dHouse n ds)] [] = .ok (.list ((closedL (nearS n ds) n).map dSt)) [] := by
  have hn := h.hi
  have hr0 := rgOk0 (n := n) (by omega)
  have hz : 10000 ≤ sizeLine := by decide
  have hp : 2 ^ n ≤ 2 ^ 8 := Nat.pow_le_pow_right (by decide) hn
  obtain ⟨x4, d4, q1⟩ := subs_go (some (.dat (dHouse n ds))) (some (.dat (dRows (nearS n ds)))) (.dD []) (List.range n) [[]] none (by simp; omega) (by simp; omega) rfl
  have hsl := subs_len (List.range n) [[]]
  rw [List.length_range] at hsl
  rw [show ([[]] : List (List Nat)).map dSt = [.tuple []] from rfl] at q1
  simp [F_closed_sets, d_closed_sets, need_house_eq h, near_eq' h, hr0, q1, d4, -u_sortAF]
  simp only [b_assoc]
  refine for_bind (fun i env s => ∃ x5, s = [.dD ((seenL (((subsL (List.range n) [[]]).map (apL (nearS n ds) n)).take i) []).map seenP), .dead] ∧ env = [some (.dat (dHouse n ds)), some (.dat (dRows (nearS n ds))), some (.ref 0), some (.dat (.list ((subsL (List.range n) [[]]).map dSt))), x4, x5]) ⟨_, rfl, rfl⟩ ?_ ?_
  · rintro i x env s hx ⟨x5, rfl, rfl⟩
    rw [List.getElem?_map] at hx
    cases hp : (subsL (List.range n) [[]])[i]? with
    | none => rw [hp] at hx; cases hx
    | some l =>
      rw [hp] at hx
      cases hx
      have hm : ((subsL (List.range n) [[]]).map (apL (nearS n ds) n))[i]? = some (apL (nearS n ds) n l) := by
        rw [List.getElem?_map, hp]
        rfl
      have e1 := apart_in_eq h (rowsS h) (by omega) l
      have hl1 := seen_len (((subsL (List.range n) [[]]).map (apL (nearS n ds) n)).take i) []
      rw [List.length_take, List.length_map] at hl1
      simp only [List.length_cons, List.length_nil] at hsl hl1
      have e2 := put_seen (s := [.dD ((seenL (((subsL (List.range n) [[]]).map (apL (nearS n ds) n)).take i) []).map seenP), .dead]) (c := 0) (ks := seenL (((subsL (List.range n) [[]]).map (apL (nearS n ds) n)).take i) []) rfl (by omega) (apL (nearS n ds) n l)
      rw [seen_take _ _ _ hm]
      refine ⟨_, [_, _, _, _, _, some (.dat (dSt l))], _, rfl, ?_, _, rfl, rfl⟩
      simp [e1, e2]
  · rintro env s ⟨x5, rfl, rfl⟩
    have ht : ((subsL (List.range n) [[]]).map (apL (nearS n ds) n)).take ((subsL (List.range n) [[]]).map dSt).length = (subsL (List.range n) [[]]).map (apL (nearS n ds) n) := List.take_of_length_le (by simp)
    rw [ht]
    have es := sortEF_st [.dD ((seenL ((subsL (List.range n) [[]]).map (apL (nearS n ds) n)) []).map seenP), .dead] (seenL ((subsL (List.range n) [[]]).map (apL (nearS n ds) n)) [])
    have ek := seen_keys (seenL ((subsL (List.range n) [[]]).map (apL (nearS n ds) n)) [])
    have ed : dctOf [.dD ((seenL ((subsL (List.range n) [[]]).map (apL (nearS n ds) n)) []).map seenP), .dead] (.ref 0) = some ((seenL ((subsL (List.range n) [[]]).map (apL (nearS n ds) n)) []).map seenP) := rfl
    have ec : sortS (seenL ((subsL (List.range n) [[]]).map (apL (nearS n ds) n)) []) = closedL (nearS n ds) n := rfl
    rw [ec] at es
    generalize seenL ((subsL (List.range n) [[]]).map (apL (nearS n ds) n)) [] = KS at *
    simp [ed, ek, es, -List.map_map]
theorem closing_eq {l : List Nat} (ha : Asc l) (hb : ∀ x ∈ l, x < n) : F_closing [.dat (dHouse n ds), .dat (dSt l)] [] = .ok (dSt (apL (nearS n ds) n (apL (nearS n ds) n l))) [] := by
  have hn := h.hi
  have e1 : F_need_house [.dat (dHouse n ds)] [] = .ok .none [] := need_house_eq h
  have e2 := need_set_eq h ha hb
  have e3 := apart_in_eq h (rowsS h) (by omega) l
  have e4 := apart_in_eq h (rowsS h) (by omega) (apL (nearS n ds) n l)
  simp [F_closing, d_closing, e1, e2, near_eq' h, e3, e4]
end
end Lw

set_option maxHeartbeats 400000
namespace Lw
open PySem PySem.Spec PyProof.Rows L2 Mx
theorem mul_two (s : Sto) (n : Nat) (hn : n ≤ 100) : mulD s (.dat (.list [.int 2])) (.dat (.int (n : Nat))) = some (.list ((List.replicate n 2).map dN)) := by
  have : (List.replicate n [dN 2]).flatten = (List.replicate n 2).map dN := by
    clear hn
    induction n with
    | zero => rfl
    | succ n ih => rw [List.replicate_succ, List.replicate_succ, List.flatten_cons, ih]; rfl
  have e1 : wIn 9223372036854775808 (n : Int) = true := wIn_iff.mpr ⟨by omega, by omega⟩
  have hz : 100 ≤ sizeLine := by decide
  show (if wIn 9223372036854775808 (n : Int) = true ∧ 1 * n ≤ sizeLine then some (PyData.list (List.replicate n [dN 2]).flatten) else none) = _
  rw [if_pos ⟨e1, by omega⟩, this]
section
variable {n : Nat} {ds : List (Nat × Nat)} (h : HouseOk n ds)
include h
theorem law_apart_eq (l : List Nat) : F__law_apart [.dat (dRows (nearL n ds)), .dat (dSt l)] [] = .ok (dSt (apL (nearS n ds) n l)) [] := by
  have hn := h.hi
  have hr := rgOk0 (n := n) (by omega)
  have eL := len_rows (rowsL h) []
  simp [F__law_apart, d__law_apart, eL, hr, -u_eqD]
  rw [lc_filM (fun r => !nbB (nearS n ds) l r) dN (hy := fun r hr => ⟨_, rfl, by
    have hrl : r < (nearL n ds).length := by rw [nearL_len]; exact List.mem_range.mp hr
    simp [ix_row _ hrl, -u_eqD]
    rw [lc_filM (fun o => decide (o ∈ l)) dN (hy := fun o _ => ⟨_, rfl, by
      have := in_Ns [] o l
      simp [this], fun _ => by simp⟩)]
    have e1 := eq_nilN [] ((rowAt (nearL n ds) r).filter fun o => decide (o ∈ l))
    rw [filt_nb, nbB_same h] at e1
    simp [e1, -u_eqD], fun _ => by simp⟩)]
  simp
  rfl
theorem apart_q {l : List Nat} (ha : Asc l) (hb : ∀ x ∈ l, x < n) : F_apart [.dat (dHouse n ds), .dat (dSt l)] [] = .ok (dSt (apL (nearS n ds) n l)) [] := apart_eq h ha hb
theorem marks_cl {s : List Nat} : s ∈ (seenL ((allL (List.replicate n 2) [[]]).map fun mk => apL (nearS n ds) n (rmOf n mk)) []) ↔ s ∈ closedL (nearS n ds) n := by
  rw [seen_mem, closedL_mem, List.mem_map]
  constructor
  · rintro (q | ⟨mk, _, rfl⟩)
    · cases q
    · exact ⟨rmOf n mk, List.filter_sublist, rfl⟩
  · rintro ⟨t, ht, rfl⟩
    obtain ⟨mk, hm, e⟩ := rm_marks ht
    exact .inr ⟨mk, hm, by rw [e]⟩
theorem marks_sort : sortS (seenL ((allL (List.replicate n 2) [[]]).map fun mk => apL (nearS n ds) n (rmOf n mk)) []) = closedL (nearS n ds) n := srt_ext ((sortS_perm _).nodup_iff.mpr (seen_nodup _ _ (by simp))) closedL_nodup (sortS_sorted _) closedL_sorted fun s => by
  rw [sortS_mem, marks_cl h]
theorem t9_eq (h7 : n ≤ 7) {S T : List Nat} : ∃ a8, Lq9 [none, some (.ref 0), some (.dat (dHouse n ds)), some (.dat (dRows (nearL n ds))), some (.dat (dSt S)), none, some (.dat (dSt T)), some (.ref 1), none, none, none] [.row, .dD []] = .ok (.nx [none, some (.ref 0), some (.dat (dHouse n ds)), some (.dat (dRows (nearL n ds))), some (.dat (dSt S)), none, some (.dat (dSt T)), some (.ref 1), a8, none, none]) [.row, .dD ((seenL ((allL (List.replicate n 2) [[]]).map fun mk => apL (nearS n ds) n (rmOf n mk)) []).map seenP)] := by
  have hn := h.hi
  have hr0 := rgOk0 (n := n) (by omega)
  have hz : 10000 ≤ sizeLine := by decide
  have q1 := law_all_eq (zs := List.replicate n 2) (by rw [List.length_replicate]; exact h7) (fun z hz => by rw [List.eq_of_mem_replicate hz]; omega)
  have hal := all_len (b := 2) (List.replicate n 2) [[]] (fun z hz => by rw [List.eq_of_mem_replicate hz]; omega)
  rw [List.length_replicate] at hal
  have h2 : 2 ^ n ≤ 2 ^ 8 := Nat.pow_le_pow_right (by decide) hn
  simp only [List.length_cons, List.length_nil] at hal
  have em := mul_two [.row, .dD []] n (by omega)
  rw [List.map_replicate] at q1 em
  have lp := for_eq (g := gN 8) (b := Lq9br0) (ys := (allL (List.replicate n 2) [[]]).map dSt) (env := [none, some (.ref 0), some (.dat (dHouse n ds)), some (.dat (dRows (nearL n ds))), some (.dat (dSt S)), none, some (.dat (dSt T)), some (.ref 1), none, none, none]) (s := [.row, .dD []]) (fun i env s => ∃ a8, s = [.row, .dD ((seenL (((allL (List.replicate n 2) [[]]).map fun mk => apL (nearS n ds) n (rmOf n mk)).take i) []).map seenP)] ∧ env = [none, some (.ref 0), some (.dat (dHouse n ds)), some (.dat (dRows (nearL n ds))), some (.dat (dSt S)), none, some (.dat (dSt T)), some (.ref 1), a8, none, none]) ⟨none, rfl, rfl⟩ (by
    rintro i x env s hx ⟨a8, rfl, rfl⟩
    rw [List.getElem?_map] at hx
    cases hp : (allL (List.replicate n 2) [[]])[i]? with
    | none => rw [hp] at hx; cases hx
    | some mk =>
      rw [hp] at hx
      cases hx
      have hlm : mk.length = n := by
        have := shape_all (m := 0) (List.replicate n 2) [[]] (by simp) mk (List.mem_of_getElem? hp)
        rw [List.length_replicate] at this
        omega
      have hm : ((allL (List.replicate n 2) [[]]).map fun mk => apL (nearS n ds) n (rmOf n mk))[i]? = some (apL (nearS n ds) n (rmOf n mk)) := by
        rw [List.getElem?_map, hp]
        rfl
      have q2 := law_apart_eq h (rmOf n mk)
      rw [seen_take _ _ _ hm]
      have hl1 := seen_len (((allL (List.replicate n 2) [[]]).map fun mk => apL (nearS n ds) n (rmOf n mk)).take i) []
      rw [List.length_take, List.length_map] at hl1
      simp only [List.length_nil] at hl1
      generalize seenL (((allL (List.replicate n 2) [[]]).map fun mk => apL (nearS n ds) n (rmOf n mk)).take i) [] = KS at *
      have q3 := put_seen (s := [.row, .dD (KS.map seenP)]) (c := 1) (ks := KS) rfl (by omega) (apL (nearS n ds) n (rmOf n mk))
      refine ⟨_, [none, some (.ref 0), some (.dat (dHouse n ds)), some (.dat (dRows (nearL n ds))), some (.dat (dSt S)), none, some (.dat (dSt T)), some (.ref 1), some (.dat (dSt mk)), none, none], _, rfl, ?_, _, rfl, rfl⟩
      have c1 : fLc (dRg (g1 (e2 ixD (eV 2) (eC (.int 0))))) [5] (gN 5) (tru (e2 eqD (e2 ixD (eV 8) (eV 5)) (eC (.int 1)))) (eV 5) [none, some (.ref 0), some (.dat (dHouse n ds)), some (.dat (dRows (nearL n ds))), some (.dat (dSt S)), none, some (.dat (dSt T)), some (.ref 1), some (.dat (dSt mk)), none, none] [.row, .dD (KS.map seenP)] = .ok ((rmOf n mk).map dN) [.row, .dD (KS.map seenP)] := by
        simp [hr0, -u_eqD]
        rw [lc_filM (fun r => decide (stA mk r = 1)) dN (hy := fun r hr => ⟨_, rfl, by
          have hr := List.mem_range.mp hr
          have i3 := ix_stN [.row, .dD (KS.map seenP)] (st := mk) (o := r) (by omega)
          have i4 := eq_NN [.row, .dD (KS.map seenP)] (stA mk r) 1
          have i4 : eqD [.row, .dD (KS.map seenP)] (.dat (dN (stA mk r))) (.dat (.int 1)) = some (.bool (decide (stA mk r = 1))) := i4
          simp [i3, i4, -u_eqD], fun _ => by simp⟩)]
        rfl
      have ed : PyData.tuple ((rmOf n mk).map dN) = dSt (rmOf n mk) := rfl
      show Lq9b0 _ _ = _
      simp [Lq9b0, -u_fLc, c1, ed, q2, q3])
  obtain ⟨env', s', q5, a8, rfl, rfl⟩ := lp
  rw [List.length_map, List.take_of_length_le (by simp)] at q5
  refine ⟨a8, ?_⟩
  simp [Lq9, em, q1]
  simpa using q5
theorem al_sets {l : List Nat} (hl : ∀ x ∈ l, x < n) (ha : Asc l) : F__law_alike [.dat (dSt l), .dat (dSt l)] [] = .ok (.bool true) [] := alike_al 5 _ (al_st 3 _ (by
  have h1 := asc_len ha hl
  have h2 := h.hi
  omega))
theorem a_eq {S T : List Nat} (hS : S.Sublist (List.range n)) (hT : T.Sublist (List.range n)) (hST : ∀ x ∈ S, x ∈ T) : ∀ Q, WP (Lqr8 [none, some (.ref 0), some (.dat (dHouse n ds)), some (.dat (dRows (nearL n ds))), some (.dat (dSt S)), none, some (.dat (dSt T)), none, none, none, none] [.row]) Q noE → WP (Lqr4 [none, some (.ref 0), some (.dat (dHouse n ds)), some (.dat (dRows (nearL n ds))), some (.dat (dSt S)), none, some (.dat (dSt T)), none, none, none, none] [.row]) Q noE := by
  have hn := h.hi
  have haS := asc_sub (asc_range n) hS
  have haT := asc_sub (asc_range n) hT
  have hlS : ∀ x ∈ S, x < n := fun x hx => List.mem_range.mp (hS.subset hx)
  have hlT : ∀ x ∈ T, x < n := fun x hx => List.mem_range.mp (hT.subset hx)
  have q1 := apart_eq h haS hlS
  have q2 := closing_eq h haS hlS
  have q3 := law_apart_eq h S
  have q4 := law_apart_eq h (apL (nearS n ds) n S)
  have q5 := apart_eq h (apL_asc (R := nearS n ds) (n := n) S) apL_lt
  have q6 := apart_eq h (apL_asc (R := nearS n ds) (n := n) (apL (nearS n ds) n S)) apL_lt
  have q7 := apart_eq h haT hlT
  have q8 := closing_eq h (apL_asc (R := nearS n ds) (n := n) (apL (nearS n ds) n S)) apL_lt
  have h3 := apL_three (symS h) hlS
  have al1 := al_sets h apL_lt (apL_asc (R := nearS n ds) (n := n) S)
  have al2 := al_sets h apL_lt (apL_asc (R := nearS n ds) (n := n) (apL (nearS n ds) n S))
  have anti := apL_anti (R := nearS n ds) (n := n) hST
  have two := apL_two (symS h) hlS
  rw [h3] at q6 q8
  have n1 := ne_SS [.row] (apL (nearS n ds) n S) (apL (nearS n ds) n S)
  have n2 := ne_SS [.row] (apL (nearS n ds) n (apL (nearS n ds) n S)) (apL (nearS n ds) n (apL (nearS n ds) n S))
  rw [decide_eq_true rfl] at n1 n2
  have n3 : neD [.row] (.dat (.list [])) (.dat (.list [])) = some (.bool false) := rfl
  generalize apL (nearS n ds) n (apL (nearS n ds) n S) = SS at *
  generalize apL (nearS n ds) n S = S1 at *
  generalize apL (nearS n ds) n T = T1 at *
  have t4 : Lq4 [none, some (.ref 0), some (.dat (dHouse n ds)), some (.dat (dRows (nearL n ds))), some (.dat (dSt S)), none, some (.dat (dSt T)), none, none, none, none] [.row] = .ok (.nx [none, some (.ref 0), some (.dat (dHouse n ds)), some (.dat (dRows (nearL n ds))), some (.dat (dSt S)), none, some (.dat (dSt T)), none, none, none, none]) [.row] := by
    simp [Lq4, q1, q2, q3, q4, al1, al2]
  have t5 : Lq5 [none, some (.ref 0), some (.dat (dHouse n ds)), some (.dat (dRows (nearL n ds))), some (.dat (dSt S)), none, some (.dat (dSt T)), none, none, none, none] [.row] = .ok (.nx [none, some (.ref 0), some (.dat (dHouse n ds)), some (.dat (dRows (nearL n ds))), some (.dat (dSt S)), none, some (.dat (dSt T)), none, none, none, none]) [.row] := by
    simp [Lq5, q1, q5, q6, n1, -u_neD]
  have t6 : Lq6 [none, some (.ref 0), some (.dat (dHouse n ds)), some (.dat (dRows (nearL n ds))), some (.dat (dSt S)), none, some (.dat (dSt T)), none, none, none, none] [.row] = .ok (.nx [none, some (.ref 0), some (.dat (dHouse n ds)), some (.dat (dRows (nearL n ds))), some (.dat (dSt S)), none, some (.dat (dSt T)), none, none, none, none]) [.row] := by
    have ed : dSt T1 = .tuple (T1.map dN) := rfl
    rw [ed] at q7
    simp [Lq6, q7, -u_neD]
    rw [lc_filM (fun r => false) dN (hy := fun r hr => ⟨_, rfl, by
      have := in_Ns [.row] r S1
      rw [decide_eq_true (anti r hr)] at this
      simp [q1, this, anti r hr], fun z => by cases z⟩)]
    simp
  have t7 : Lq7 [none, some (.ref 0), some (.dat (dHouse n ds)), some (.dat (dRows (nearL n ds))), some (.dat (dSt S)), none, some (.dat (dSt T)), none, none, none, none] [.row] = .ok (.nx [none, some (.ref 0), some (.dat (dHouse n ds)), some (.dat (dRows (nearL n ds))), some (.dat (dSt S)), none, some (.dat (dSt T)), none, none, none, none]) [.row] := by
    have ed : dSt S = .tuple (S.map dN) := rfl
    simp [Lq7, -u_neD]
    have c1 : fLc (dI (eV 4)) [5] (gN 5) (tru (e2 ninO (eV 5) (eCall0 F_closing (aCons (eV 2) (aCons (eV 4) aNil))))) (eV 5) [none, some (.ref 0), some (.dat (dHouse n ds)), some (.dat (dRows (nearL n ds))), some (.dat (dSt S)), none, some (.dat (dSt T)), none, none, none, none] [.row] = .ok [] [.row] := by
      rw [ed]
      simp
      rw [lc_filM (fun r => false) dN (hy := fun r hr => ⟨_, rfl, by
        have := in_Ns [.row] r SS
        rw [decide_eq_true (two r hr)] at this
        rw [ed] at q2
        simp [q2, this, two r hr], fun z => by cases z⟩)]
      simp
    simp at c1
    simp [c1, q2, q8, n2, n3, -u_neD]
  exact fun Q hw => W_det (a := Lq4) (b := Lqr5) t4 (W_det (a := Lq5) (b := Lqr6) t5 (W_det (a := Lq6) (b := Lqr7) t6 (W_det (a := Lq7) (b := Lqr8) t7 hw)))
theorem b_eq (h7 : n ≤ 7) {S T : List Nat} : ∃ s', Lqr8 [none, some (.ref 0), some (.dat (dHouse n ds)), some (.dat (dRows (nearL n ds))), some (.dat (dSt S)), none, some (.dat (dSt T)), none, none, none, none] [.row] = .ok (.ret (.dat (.bool true))) s' := by
  have hn := h.hi
  obtain ⟨a8, q9⟩ := t9_eq h h7 (S := S) (T := T)
  have qc := closed_sets_eq h
  have hcl : ∀ l ∈ closedL (nearS n ds) n, Asc l ∧ (∀ x ∈ l, x < n) ∧ apL (nearS n ds) n (apL (nearS n ds) n l) = l := fun l hl => (closed_iff (symS h)).mp hl
  have few := closedL_few (R := nearS n ds) hn
  have al := alike_al 5 (.list ((closedL (nearS n ds) n).map dSt)) (al_sts 2 _ (by omega) fun s hs => by
    obtain ⟨h1, h2, _⟩ := hcl s hs
    have := asc_len h1 h2
    omega)
  have es := sortEF_st [.row, .dD ((seenL ((allL (List.replicate n 2) [[]]).map fun mk => apL (nearS n ds) n (rmOf n mk)) []).map seenP)] (seenL ((allL (List.replicate n 2) [[]]).map fun mk => apL (nearS n ds) n (rmOf n mk)) [])
  rw [marks_sort h] at es
  have ek := seen_keys (seenL ((allL (List.replicate n 2) [[]]).map fun mk => apL (nearS n ds) n (rmOf n mk)) [])
  have ed : dctOf [.row, .dD ((seenL ((allL (List.replicate n 2) [[]]).map fun mk => apL (nearS n ds) n (rmOf n mk)) []).map seenP)] (.ref 1) = some ((seenL ((allL (List.replicate n 2) [[]]).map fun mk => apL (nearS n ds) n (rmOf n mk)) []).map seenP) := rfl
  have lar := largest_apart (R := nearS n ds) (n := n) (symS h)
  have qL := largest_sets_eq h
  refine ⟨[.row, .dD ((seenL ((allL (List.replicate n 2) [[]]).map fun mk => apL (nearS n ds) n (rmOf n mk)) []).map seenP)], seq_ok (a := Lq8) (b := Lqr9) (env1 := [none, some (.ref 0), some (.dat (dHouse n ds)), some (.dat (dRows (nearL n ds))), some (.dat (dSt S)), none, some (.dat (dSt T)), some (.ref 1), none, none, none]) (s1 := [.row, .dD []]) (by simp [Lq8]) (seq_ok (a := Lq9) (b := Lqr10) q9 ?_)⟩
  have ap : ∀ l ∈ closedL (nearS n ds) n, F_apart [.dat (dHouse n ds), .dat (dSt l)] [] = .ok (dSt (apL (nearS n ds) n l)) [] := fun l hl => apart_eq h (hcl l hl).1 (hcl l hl).2.1
  have cg : ∀ l ∈ closedL (nearS n ds) n, F_closing [.dat (dHouse n ds), .dat (dSt l)] [] = .ok (dSt l) [] := fun l hl => by
    have := closing_eq h (hcl l hl).1 (hcl l hl).2.1
    rw [(hcl l hl).2.2] at this
    exact this
  generalize closedL (nearS n ds) n = CL at *
  generalize (seenL ((allL (List.replicate n 2) [[]]).map fun mk => apL (nearS n ds) n (rmOf n mk)) []) = KS at *
  have t10 : Lq10 [none, some (.ref 0), some (.dat (dHouse n ds)), some (.dat (dRows (nearL n ds))), some (.dat (dSt S)), none, some (.dat (dSt T)), some (.ref 1), a8, none, none] [.row, .dD (KS.map seenP)] = .ok (.nx [none, some (.ref 0), some (.dat (dHouse n ds)), some (.dat (dRows (nearL n ds))), some (.dat (dSt S)), none, some (.dat (dSt T)), some (.ref 1), a8, some (.dat (.list ((CL).map dSt))), none]) [.row, .dD (KS.map seenP)] := by
    simp [Lq10, qc]
  have t11 : Lq11 [none, some (.ref 0), some (.dat (dHouse n ds)), some (.dat (dRows (nearL n ds))), some (.dat (dSt S)), none, some (.dat (dSt T)), some (.ref 1), a8, some (.dat (.list ((CL).map dSt))), none] [.row, .dD (KS.map seenP)] = .ok (.nx [none, some (.ref 0), some (.dat (dHouse n ds)), some (.dat (dRows (nearL n ds))), some (.dat (dSt S)), none, some (.dat (dSt T)), some (.ref 1), a8, some (.dat (.list ((CL).map dSt))), none]) [.row, .dD (KS.map seenP)] := by
    simp [Lq11, ed, ek, es, al, -List.map_map]
  have lp := for_eq (g := gN 10) (b := Lq12br0) (ys := CL.map dSt) (env := [none, some (.ref 0), some (.dat (dHouse n ds)), some (.dat (dRows (nearL n ds))), some (.dat (dSt S)), none, some (.dat (dSt T)), some (.ref 1), a8, some (.dat (.list ((CL).map dSt))), none]) (s := [.row, .dD (KS.map seenP)]) (fun i env s => s = [.row, .dD (KS.map seenP)] ∧ ∃ a10, env = [none, some (.ref 0), some (.dat (dHouse n ds)), some (.dat (dRows (nearL n ds))), some (.dat (dSt S)), none, some (.dat (dSt T)), some (.ref 1), a8, some (.dat (.list ((CL).map dSt))), a10]) ⟨rfl, none, rfl⟩ (by
    rintro i x env s hx ⟨rfl, a10, rfl⟩
    rw [List.getElem?_map] at hx
    cases hp : CL[i]? with
    | none => rw [hp] at hx; cases hx
    | some l =>
      rw [hp] at hx
      cases hx
      have q := cg l (List.mem_of_getElem? hp)
      have n1 := ne_SS [.row, .dD (KS.map seenP)] l l
      rw [decide_eq_true rfl] at n1
      refine ⟨_, [none, some (.ref 0), some (.dat (dHouse n ds)), some (.dat (dRows (nearL n ds))), some (.dat (dSt S)), none, some (.dat (dSt T)), some (.ref 1), a8, some (.dat (.list ((CL).map dSt))), some (.dat (dSt l))], _, rfl, ?_, rfl, _, rfl⟩
      show Lq12b0 _ _ = _
      simp [Lq12b0, q, n1, -u_neD])
  obtain ⟨env', s', q5, rfl, a10, rfl⟩ := lp
  have t12 : Lq12 [none, some (.ref 0), some (.dat (dHouse n ds)), some (.dat (dRows (nearL n ds))), some (.dat (dSt S)), none, some (.dat (dSt T)), some (.ref 1), a8, some (.dat (.list ((CL).map dSt))), none] [.row, .dD (KS.map seenP)] = .ok (.nx [none, some (.ref 0), some (.dat (dHouse n ds)), some (.dat (dRows (nearL n ds))), some (.dat (dSt S)), none, some (.dat (dSt T)), some (.ref 1), a8, some (.dat (.list ((CL).map dSt))), a10]) [.row, .dD (KS.map seenP)] := by
    simp [Lq12]
    simpa using q5
  refine seq_ok (a := Lq10) (b := Lqr11) t10 (seq_ok (a := Lq11) (b := Lqr12) t11 (seq_ok (a := Lq12) (b := Lqr13) t12 ?_))
  simp [Lqr13, Lq13, -u_eqD]
  rw [lc_filM (fun l : List Nat => decide (apL (nearS n ds) n l = l)) dSt (hy := fun l hl => ⟨_, rfl, by
    have q := ap l hl
    have n1 := eq_SS [.row, .dD (KS.map seenP)] (apL (nearS n ds) n l) l
    simp [q, n1, -u_eqD], fun _ => by simp⟩)]
  rw [lar]
  have n2 := eqD_sts [.row, .dD (KS.map seenP)] (lgL (nearS n ds) (List.range n)) (lgL (nearS n ds) (List.range n))
  rw [decide_eq_true rfl] at n2
  simp [qL, n2, -u_eqD]
end
def InvM (S : List Nat) (n i : Nat) (acc : List Dat) (s : Sto) : Prop := s = [.row] ∧ ∃ l : List Nat, acc = l.map dN ∧ l.Sublist (List.range i) ∧ ∀ x ∈ S, x < i → x ∈ l
theorem more_W {n v : Nat} {S : List Nat} {env : Mx.Env} (h1 : env[1]? = some (some (.ref 0))) (h4 : env[4]? = some (some (.dat (dSt S)))) (hv : 4 < v) (hv2 : v < env.length) {Q : List Dat → Sto → Prop} (q : ∀ l : List Nat, l.Sublist (List.range n) → (∀ x ∈ S, x < n → x ∈ l) → Q (l.map dN) [.row]) :
    WP (lcGo (gN v) (tOrD (tru (e2 inO (eV v) (eV 4))) (tru (e2 eqD (eCall1 takenF (aCons (eV 1) (aCons (eC (.int 3)) aNil))) (eC (.int 0))))) (eV v) env ((List.range n).map dN) [.row]) Q noE := by
  refine W_mono (fun r s => ?_) (W_lc (I := InvM S n) (Q := InvM S n n) ⟨rfl, [], rfl, List.Sublist.refl _, fun _ _ z => by omega⟩ ?_ ?_)
  · rintro ⟨rfl, l, e, hs, hm⟩
    subst e
    exact q l hs hm
  · rintro i x acc s hx ⟨rfl, l, rfl, hs, hm⟩
    have hi := (List.getElem?_eq_some_iff.mp hx).1
    rw [List.length_map, List.length_range] at hi
    rw [List.getElem?_map, List.getElem?_range hi] at hx
    cases hx
    refine ⟨_, rfl, ⟨?_⟩⟩
    have g1 : (env.set v (some (.dat (dN i))))[1]? = some (some (.ref 0)) := by rw [List.getElem?_set_ne (by omega)]; exact h1
    have g4 : (env.set v (some (.dat (dN i))))[4]? = some (some (.dat (dSt S))) := by rw [List.getElem?_set_ne (by omega)]; exact h4
    have g2 : (env.set v (some (.dat (dN i))))[v]? = some (some (.dat (dN i))) := List.getElem?_set_self hv2
    have z1 := in_Ns [.row] i S
    have yes : InvM S n (i + 1) (l.map dN ++ [dN i]) [.row] := ⟨rfl, l ++ [i], by simp, by rw [List.range_succ]; exact hs.append (List.Sublist.refl _), fun x hx hxi => by
      by_cases e : x = i
      · rw [e]; simp
      · exact List.mem_append_left _ (hm x hx (by omega))⟩
    have no : i ∉ S → InvM S n (i + 1) (l.map dN) [.row] := fun hn => ⟨rfl, l, rfl, by rw [List.range_succ]; exact hs.trans (List.sublist_append_left _ _), fun x hx hxi => hm x hx (by
      have : x ≠ i := fun e => hn (e ▸ hx)
      omega)⟩
    by_cases hS : i ∈ S
    · rw [decide_eq_true hS] at z1
      simp [R.wp_bind, wp_outR_iff, g1, g2, g4, z1, hS]
      exact yes
    · rw [decide_eq_false hS] at z1
      have no := no hS
      simp [R.wp_bind, wp_outR_iff, g1, g2, g4, z1, hS]
      intro t ht
      by_cases e : t = 0
      · subst e
        simp
        exact yes
      · simp [e]
        exact no
  · rintro acc s ⟨rfl, l, rfl, hs, hm⟩
    rw [List.length_map, List.length_range] at hs hm
    exact ⟨rfl, l, rfl, hs, hm⟩
theorem law_W : WP (d_law ((List.replicate 11 none).set 1 (some (.ref 0))) [.row]) isTrueR noE := by
  rw [law_pieces]
  unfold Lqr0
  refine W_seq fun B hB => ?_
  simp [Lq0, W_bind, W_outR]
  refine law_house_W (m := 7) rfl (by decide) (by decide) fun n ds hh hn => ⟨_, rfl, ?_⟩
  subst hB
  have hr := rgOk0 (n := n) (by omega)
  have hz : 1000 ≤ sizeLine := by decide
  have q0 := law_near_eq hh
  refine W_det (a := Lq1) (b := Lqr2) (env1 := [none, some (.ref 0), some (.dat (dHouse n ds)), some (.dat (dRows (nearL n ds))), none, none, none, none, none, none, none]) (s1 := [.row]) (by simp [Lq1, q0]) ?_
  unfold Lqr2
  refine W_seq fun B hB => ?_
  simp [Lq2, W_bind, W_outR, hr, -u_eqD]
  refine law_rooms_W rfl (by decide) (by simp) fun S hS => ?_
  have e1 : (S.map dN).length ≤ sizeLine := by
    have := hS.length_le
    rw [List.length_range] at this
    rw [List.length_map]
    omega
  have ed1 : PyData.tuple (S.map dN) = dSt S := rfl
  simp [ed1]
  subst hB
  unfold Lqr3
  refine W_seq fun B hB => ?_
  simp [Lq3, W_bind, W_outR, hr, -u_eqD]
  refine more_W (S := S) rfl rfl (by decide) (by simp) fun T hT hST => ?_
  have e2 : (T.map dN).length ≤ sizeLine := by
    have := hT.length_le
    rw [List.length_range] at this
    rw [List.length_map]
    omega
  have ed2 : PyData.tuple (T.map dN) = dSt T := rfl
  simp [ed2]
  subst hB
  refine a_eq hh hS hT (fun x hx => hST x hx (List.mem_range.mp (hS.subset hx))) _ ?_
  obtain ⟨s', e⟩ := b_eq hh hn (S := S) (T := T)
  exact W_of e rfl
theorem law_true : (d_law ((List.replicate 11 none).set 1 (some (.ref 0))) [.row]).wp isTrueR noE := law_W.run
end Lw

set_option maxHeartbeats 4000000
namespace Lw
open PySem PySem.Spec PyProof.Rows L2 Mx
theorem all_mk {w : World} {K : PySem.W.Frag} {h : Heap} {mg : Str → Option Value} {fa : Addr} (X : K.In h) (G : h.Ns mainGlobals mg) (hfa : mg "law" = some (.ref fa))
    {f_is_integer : Addr} {od_is_integer an_is_integer : Option Addr} {sl_is_integer : Array (Option Value)} {oc_is_integer kV_is_integer dc_is_integer pm_is_integer cd_is_integer ct_is_integer : Value}
    (a_is_integer : PySem.W.nsIn K mainGlobals "is_integer" = some (some (.ref f_is_integer))) (l_is_integer : K.lookup f_is_integer = some ⟨oc_is_integer, od_is_integer, .func (PySem.W.fnOf "is_integer" "is_integer" (defArgs s_is_integer) (defBody s_is_integer) (defScope s_is_integer) .none kV_is_integer dc_is_integer pm_is_integer an_is_integer cd_is_integer ct_is_integer), sl_is_integer⟩) (c_is_integer : PySem.W.codeIn K cd_is_integer "is_integer" = true) (k_is_integer : PySem.W.keepIn K (.ref f_is_integer) = true)
    {f_is_in : Addr} {od_is_in an_is_in : Option Addr} {sl_is_in : Array (Option Value)} {oc_is_in kV_is_in dc_is_in pm_is_in cd_is_in ct_is_in : Value}
    (a_is_in : PySem.W.nsIn K mainGlobals "is_in" = some (some (.ref f_is_in))) (l_is_in : K.lookup f_is_in = some ⟨oc_is_in, od_is_in, .func (PySem.W.fnOf "is_in" "is_in" (defArgs s_is_in) (defBody s_is_in) (defScope s_is_in) .none kV_is_in dc_is_in pm_is_in an_is_in cd_is_in ct_is_in), sl_is_in⟩) (c_is_in : PySem.W.codeIn K cd_is_in "is_in" = true) (k_is_in : PySem.W.keepIn K (.ref f_is_in) = true)
    {f_is_list : Addr} {od_is_list an_is_list : Option Addr} {sl_is_list : Array (Option Value)} {oc_is_list kV_is_list dc_is_list pm_is_list cd_is_list ct_is_list : Value}
    (a_is_list : PySem.W.nsIn K mainGlobals "is_list" = some (some (.ref f_is_list))) (l_is_list : K.lookup f_is_list = some ⟨oc_is_list, od_is_list, .func (PySem.W.fnOf "is_list" "is_list" (defArgs s_is_list) (defBody s_is_list) (defScope s_is_list) .none kV_is_list dc_is_list pm_is_list an_is_list cd_is_list ct_is_list), sl_is_list⟩) (c_is_list : PySem.W.codeIn K cd_is_list "is_list" = true) (k_is_list : PySem.W.keepIn K (.ref f_is_list) = true)
    {f_need_doors : Addr} {od_need_doors an_need_doors : Option Addr} {sl_need_doors : Array (Option Value)} {oc_need_doors kV_need_doors dc_need_doors pm_need_doors cd_need_doors ct_need_doors : Value}
    (a_need_doors : PySem.W.nsIn K mainGlobals "need_doors" = some (some (.ref f_need_doors))) (l_need_doors : K.lookup f_need_doors = some ⟨oc_need_doors, od_need_doors, .func (PySem.W.fnOf "need_doors" "need_doors" (defArgs s_need_doors) (defBody s_need_doors) (defScope s_need_doors) .none kV_need_doors dc_need_doors pm_need_doors an_need_doors cd_need_doors ct_need_doors), sl_need_doors⟩) (c_need_doors : PySem.W.codeIn K cd_need_doors "need_doors" = true) (k_need_doors : PySem.W.keepIn K (.ref f_need_doors) = true)
    {f_need_house : Addr} {od_need_house an_need_house : Option Addr} {sl_need_house : Array (Option Value)} {oc_need_house kV_need_house dc_need_house pm_need_house cd_need_house ct_need_house : Value}
    (a_need_house : PySem.W.nsIn K mainGlobals "need_house" = some (some (.ref f_need_house))) (l_need_house : K.lookup f_need_house = some ⟨oc_need_house, od_need_house, .func (PySem.W.fnOf "need_house" "need_house" (defArgs s_need_house) (defBody s_need_house) (defScope s_need_house) .none kV_need_house dc_need_house pm_need_house an_need_house cd_need_house ct_need_house), sl_need_house⟩) (c_need_house : PySem.W.codeIn K cd_need_house "need_house" = true) (k_need_house : PySem.W.keepIn K (.ref f_need_house) = true)
    {f_need_set : Addr} {od_need_set an_need_set : Option Addr} {sl_need_set : Array (Option Value)} {oc_need_set kV_need_set dc_need_set pm_need_set cd_need_set ct_need_set : Value}
    (a_need_set : PySem.W.nsIn K mainGlobals "need_set" = some (some (.ref f_need_set))) (l_need_set : K.lookup f_need_set = some ⟨oc_need_set, od_need_set, .func (PySem.W.fnOf "need_set" "need_set" (defArgs s_need_set) (defBody s_need_set) (defScope s_need_set) .none kV_need_set dc_need_set pm_need_set an_need_set cd_need_set ct_need_set), sl_need_set⟩) (c_need_set : PySem.W.codeIn K cd_need_set "need_set" = true) (k_need_set : PySem.W.keepIn K (.ref f_need_set) = true)
    {f_near : Addr} {od_near an_near : Option Addr} {sl_near : Array (Option Value)} {oc_near kV_near dc_near pm_near cd_near ct_near : Value}
    (a_near : PySem.W.nsIn K mainGlobals "near" = some (some (.ref f_near))) (l_near : K.lookup f_near = some ⟨oc_near, od_near, .func (PySem.W.fnOf "near" "near" (defArgs s_near) (defBody s_near) (defScope s_near) .none kV_near dc_near pm_near an_near cd_near ct_near), sl_near⟩) (c_near : PySem.W.codeIn K cd_near "near" = true) (k_near : PySem.W.keepIn K (.ref f_near) = true)
    {f_is_largest : Addr} {od_is_largest an_is_largest : Option Addr} {sl_is_largest : Array (Option Value)} {oc_is_largest kV_is_largest dc_is_largest pm_is_largest cd_is_largest ct_is_largest : Value}
    (a_is_largest : PySem.W.nsIn K mainGlobals "is_largest" = some (some (.ref f_is_largest))) (l_is_largest : K.lookup f_is_largest = some ⟨oc_is_largest, od_is_largest, .func (PySem.W.fnOf "is_largest" "is_largest" (defArgs s_is_largest) (defBody s_is_largest) (defScope s_is_largest) .none kV_is_largest dc_is_largest pm_is_largest an_is_largest cd_is_largest ct_is_largest), sl_is_largest⟩) (c_is_largest : PySem.W.codeIn K cd_is_largest "is_largest" = true) (k_is_largest : PySem.W.keepIn K (.ref f_is_largest) = true)
    {f_largest_in : Addr} {od_largest_in an_largest_in : Option Addr} {sl_largest_in : Array (Option Value)} {oc_largest_in kV_largest_in dc_largest_in pm_largest_in cd_largest_in ct_largest_in : Value}
    (a_largest_in : PySem.W.nsIn K mainGlobals "largest_in" = some (some (.ref f_largest_in))) (l_largest_in : K.lookup f_largest_in = some ⟨oc_largest_in, od_largest_in, .func (PySem.W.fnOf "largest_in" "largest_in" (defArgs s_largest_in) (defBody s_largest_in) (defScope s_largest_in) .none kV_largest_in dc_largest_in pm_largest_in an_largest_in cd_largest_in ct_largest_in), sl_largest_in⟩) (c_largest_in : PySem.W.codeIn K cd_largest_in "largest_in" = true) (k_largest_in : PySem.W.keepIn K (.ref f_largest_in) = true)
    {f_largest_sets : Addr} {od_largest_sets an_largest_sets : Option Addr} {sl_largest_sets : Array (Option Value)} {oc_largest_sets kV_largest_sets dc_largest_sets pm_largest_sets cd_largest_sets ct_largest_sets : Value}
    (a_largest_sets : PySem.W.nsIn K mainGlobals "largest_sets" = some (some (.ref f_largest_sets))) (l_largest_sets : K.lookup f_largest_sets = some ⟨oc_largest_sets, od_largest_sets, .func (PySem.W.fnOf "largest_sets" "largest_sets" (defArgs s_largest_sets) (defBody s_largest_sets) (defScope s_largest_sets) .none kV_largest_sets dc_largest_sets pm_largest_sets an_largest_sets cd_largest_sets ct_largest_sets), sl_largest_sets⟩) (c_largest_sets : PySem.W.codeIn K cd_largest_sets "largest_sets" = true) (k_largest_sets : PySem.W.keepIn K (.ref f_largest_sets) = true)
    {f_apart_in : Addr} {od_apart_in an_apart_in : Option Addr} {sl_apart_in : Array (Option Value)} {oc_apart_in kV_apart_in dc_apart_in pm_apart_in cd_apart_in ct_apart_in : Value}
    (a_apart_in : PySem.W.nsIn K mainGlobals "apart_in" = some (some (.ref f_apart_in))) (l_apart_in : K.lookup f_apart_in = some ⟨oc_apart_in, od_apart_in, .func (PySem.W.fnOf "apart_in" "apart_in" (defArgs s_apart_in) (defBody s_apart_in) (defScope s_apart_in) .none kV_apart_in dc_apart_in pm_apart_in an_apart_in cd_apart_in ct_apart_in), sl_apart_in⟩) (c_apart_in : PySem.W.codeIn K cd_apart_in "apart_in" = true) (k_apart_in : PySem.W.keepIn K (.ref f_apart_in) = true)
    {f_apart : Addr} {od_apart an_apart : Option Addr} {sl_apart : Array (Option Value)} {oc_apart kV_apart dc_apart pm_apart cd_apart ct_apart : Value}
    (a_apart : PySem.W.nsIn K mainGlobals "apart" = some (some (.ref f_apart))) (l_apart : K.lookup f_apart = some ⟨oc_apart, od_apart, .func (PySem.W.fnOf "apart" "apart" (defArgs s_apart) (defBody s_apart) (defScope s_apart) .none kV_apart dc_apart pm_apart an_apart cd_apart ct_apart), sl_apart⟩) (c_apart : PySem.W.codeIn K cd_apart "apart" = true) (k_apart : PySem.W.keepIn K (.ref f_apart) = true)
    {f_closed_sets : Addr} {od_closed_sets an_closed_sets : Option Addr} {sl_closed_sets : Array (Option Value)} {oc_closed_sets kV_closed_sets dc_closed_sets pm_closed_sets cd_closed_sets ct_closed_sets : Value}
    (a_closed_sets : PySem.W.nsIn K mainGlobals "closed_sets" = some (some (.ref f_closed_sets))) (l_closed_sets : K.lookup f_closed_sets = some ⟨oc_closed_sets, od_closed_sets, .func (PySem.W.fnOf "closed_sets" "closed_sets" (defArgs s_closed_sets) (defBody s_closed_sets) (defScope s_closed_sets) .none kV_closed_sets dc_closed_sets pm_closed_sets an_closed_sets cd_closed_sets ct_closed_sets), sl_closed_sets⟩) (c_closed_sets : PySem.W.codeIn K cd_closed_sets "closed_sets" = true) (k_closed_sets : PySem.W.keepIn K (.ref f_closed_sets) = true)
    {f_closing : Addr} {od_closing an_closing : Option Addr} {sl_closing : Array (Option Value)} {oc_closing kV_closing dc_closing pm_closing cd_closing ct_closing : Value}
    (a_closing : PySem.W.nsIn K mainGlobals "closing" = some (some (.ref f_closing))) (l_closing : K.lookup f_closing = some ⟨oc_closing, od_closing, .func (PySem.W.fnOf "closing" "closing" (defArgs s_closing) (defBody s_closing) (defScope s_closing) .none kV_closing dc_closing pm_closing an_closing cd_closing ct_closing), sl_closing⟩) (c_closing : PySem.W.codeIn K cd_closing "closing" = true) (k_closing : PySem.W.keepIn K (.ref f_closing) = true)
    {f__law_taken : Addr} {od__law_taken an__law_taken : Option Addr} {sl__law_taken : Array (Option Value)} {oc__law_taken kV__law_taken dc__law_taken pm__law_taken cd__law_taken ct__law_taken : Value}
    (a__law_taken : PySem.W.nsIn K mainGlobals "_law_taken" = some (some (.ref f__law_taken))) (l__law_taken : K.lookup f__law_taken = some ⟨oc__law_taken, od__law_taken, .func (PySem.W.fnOf "_law_taken" "_law_taken" (defArgs s__law_taken) (defBody s__law_taken) (defScope s__law_taken) .none kV__law_taken dc__law_taken pm__law_taken an__law_taken cd__law_taken ct__law_taken), sl__law_taken⟩) (c__law_taken : PySem.W.codeIn K cd__law_taken "_law_taken" = true) (k__law_taken : PySem.W.keepIn K (.ref f__law_taken) = true)
    {f__law_alike : Addr} {od__law_alike an__law_alike : Option Addr} {sl__law_alike : Array (Option Value)} {oc__law_alike kV__law_alike dc__law_alike pm__law_alike cd__law_alike ct__law_alike : Value}
    (a__law_alike : PySem.W.nsIn K mainGlobals "_law_alike" = some (some (.ref f__law_alike))) (l__law_alike : K.lookup f__law_alike = some ⟨oc__law_alike, od__law_alike, .func (PySem.W.fnOf "_law_alike" "_law_alike" (defArgs s__law_alike) (defBody s__law_alike) (defScope s__law_alike) .none kV__law_alike dc__law_alike pm__law_alike an__law_alike cd__law_alike ct__law_alike), sl__law_alike⟩) (c__law_alike : PySem.W.codeIn K cd__law_alike "_law_alike" = true) (k__law_alike : PySem.W.keepIn K (.ref f__law_alike) = true)
    {f__law_house : Addr} {od__law_house an__law_house : Option Addr} {sl__law_house : Array (Option Value)} {oc__law_house kV__law_house dc__law_house pm__law_house cd__law_house ct__law_house : Value}
    (a__law_house : PySem.W.nsIn K mainGlobals "_law_house" = some (some (.ref f__law_house))) (l__law_house : K.lookup f__law_house = some ⟨oc__law_house, od__law_house, .func (PySem.W.fnOf "_law_house" "_law_house" (defArgs s__law_house) (defBody s__law_house) (defScope s__law_house) .none kV__law_house dc__law_house pm__law_house an__law_house cd__law_house ct__law_house), sl__law_house⟩) (c__law_house : PySem.W.codeIn K cd__law_house "_law_house" = true) (k__law_house : PySem.W.keepIn K (.ref f__law_house) = true)
    {f__law_near : Addr} {od__law_near an__law_near : Option Addr} {sl__law_near : Array (Option Value)} {oc__law_near kV__law_near dc__law_near pm__law_near cd__law_near ct__law_near : Value}
    (a__law_near : PySem.W.nsIn K mainGlobals "_law_near" = some (some (.ref f__law_near))) (l__law_near : K.lookup f__law_near = some ⟨oc__law_near, od__law_near, .func (PySem.W.fnOf "_law_near" "_law_near" (defArgs s__law_near) (defBody s__law_near) (defScope s__law_near) .none kV__law_near dc__law_near pm__law_near an__law_near cd__law_near ct__law_near), sl__law_near⟩) (c__law_near : PySem.W.codeIn K cd__law_near "_law_near" = true) (k__law_near : PySem.W.keepIn K (.ref f__law_near) = true)
    {f__law_all : Addr} {od__law_all an__law_all : Option Addr} {sl__law_all : Array (Option Value)} {oc__law_all kV__law_all dc__law_all pm__law_all cd__law_all ct__law_all : Value}
    (a__law_all : PySem.W.nsIn K mainGlobals "_law_all" = some (some (.ref f__law_all))) (l__law_all : K.lookup f__law_all = some ⟨oc__law_all, od__law_all, .func (PySem.W.fnOf "_law_all" "_law_all" (defArgs s__law_all) (defBody s__law_all) (defScope s__law_all) .none kV__law_all dc__law_all pm__law_all an__law_all cd__law_all ct__law_all), sl__law_all⟩) (c__law_all : PySem.W.codeIn K cd__law_all "_law_all" = true) (k__law_all : PySem.W.keepIn K (.ref f__law_all) = true)
    {f__law_apart : Addr} {od__law_apart an__law_apart : Option Addr} {sl__law_apart : Array (Option Value)} {oc__law_apart kV__law_apart dc__law_apart pm__law_apart cd__law_apart ct__law_apart : Value}
    (a__law_apart : PySem.W.nsIn K mainGlobals "_law_apart" = some (some (.ref f__law_apart))) (l__law_apart : K.lookup f__law_apart = some ⟨oc__law_apart, od__law_apart, .func (PySem.W.fnOf "_law_apart" "_law_apart" (defArgs s__law_apart) (defBody s__law_apart) (defScope s__law_apart) .none kV__law_apart dc__law_apart pm__law_apart an__law_apart cd__law_apart ct__law_apart), sl__law_apart⟩) (c__law_apart : PySem.W.codeIn K cd__law_apart "_law_apart" = true) (k__law_apart : PySem.W.keepIn K (.ref f__law_apart) = true)
    {f_law : Addr} {od_law an_law : Option Addr} {sl_law : Array (Option Value)} {oc_law kV_law dc_law pm_law cd_law ct_law : Value}
    (a_law : PySem.W.nsIn K mainGlobals "law" = some (some (.ref f_law))) (l_law : K.lookup f_law = some ⟨oc_law, od_law, .func (PySem.W.fnOf "law" "law" (defArgs s_law) (defBody s_law) (defScope s_law) .none kV_law dc_law pm_law an_law cd_law ct_law), sl_law⟩) (c_law : PySem.W.codeIn K cd_law "law" = true) (k_law : PySem.W.keepIn K (.ref f_law) = true)
    {t_MOST_ROOMS : Tok} (n_MOST_ROOMS : PySem.W.nsIn K mainGlobals "MOST_ROOMS" = some (some (.int 8 t_MOST_ROOMS)))
    (z_isinstance : PySem.W.nsIn K mainGlobals "isinstance" = some none)
    (z_int : PySem.W.nsIn K mainGlobals "int" = some none)
    (z_bool : PySem.W.nsIn K mainGlobals "bool" = some none)
    (z_str : PySem.W.nsIn K mainGlobals "str" = some none)
    (z_tuple : PySem.W.nsIn K mainGlobals "tuple" = some none)
    (z_list : PySem.W.nsIn K mainGlobals "list" = some none)
    (z_set : PySem.W.nsIn K mainGlobals "set" = some none)
    (z_len : PySem.W.nsIn K mainGlobals "len" = some none)
    (z_range : PySem.W.nsIn K mainGlobals "range" = some none)
    (z_enumerate : PySem.W.nsIn K mainGlobals "enumerate" = some none)
    (z_zip : PySem.W.nsIn K mainGlobals "zip" = some none)
    (z_sorted : PySem.W.nsIn K mainGlobals "sorted" = some none)
    (z_all : PySem.W.nsIn K mainGlobals "all" = some none)
    (z_any : PySem.W.nsIn K mainGlobals "any" = some none)
    (z_sum : PySem.W.nsIn K mainGlobals "sum" = some none)
    (z_max : PySem.W.nsIn K mainGlobals "max" = some none)
    (z_min : PySem.W.nsIn K mainGlobals "min" = some none)
    (z_abs : PySem.W.nsIn K mainGlobals "abs" = some none)
    (z_reversed : PySem.W.nsIn K mainGlobals "reversed" = some none)
    : ∃ fd : FuncData, (∀ (s : Shared) (v : Value), BindsTo s fd ⟨[v], []⟩ [("_law_script", v)]) ∧ ∀ base : Heap, K.In base → base.Ns mainGlobals mg → FnOk PySem.Challenge.rw_mexrooms_k50_whole_polars.prog w K mg base CX0 7 fa fd ["_law_script"] (spLaw K) := by
  have e := hfa.symm.trans (PySem.W.mg_of X G a_law)
  cases e
  have Z : Bt mg := ⟨PySem.W.mg_none_of X G z_isinstance, PySem.W.mg_none_of X G z_int, PySem.W.mg_none_of X G z_bool, PySem.W.mg_none_of X G z_str, PySem.W.mg_none_of X G z_tuple, PySem.W.mg_none_of X G z_list, PySem.W.mg_none_of X G z_set, PySem.W.mg_none_of X G z_len, PySem.W.mg_none_of X G z_range, PySem.W.mg_none_of X G z_enumerate, PySem.W.mg_none_of X G z_zip, PySem.W.mg_none_of X G z_sorted, PySem.W.mg_none_of X G z_all, PySem.W.mg_none_of X G z_any, PySem.W.mg_none_of X G z_sum, PySem.W.mg_none_of X G z_max, PySem.W.mg_none_of X G z_min, PySem.W.mg_none_of X G z_abs, PySem.W.mg_none_of X G z_reversed⟩
  have m_MOST_ROOMS := PySem.W.mg_of X G n_MOST_ROOMS
  have F_is_integer := fun_mk (st := s_is_integer) l_is_integer c_is_integer k_is_integer
  have b_is_integer := F_is_integer.binds (ps := ["value"]) fun _ _ _ _ _ _ us hl => match us, hl with | [_], _ => rfl
  have F_is_in := fun_mk (st := s_is_in) l_is_in c_is_in k_is_in
  have b_is_in := F_is_in.binds (ps := ["value", "least", "most"]) fun _ _ _ _ _ _ us hl => match us, hl with | [_, _, _], _ => rfl
  have F_is_list := fun_mk (st := s_is_list) l_is_list c_is_list k_is_list
  have b_is_list := F_is_list.binds (ps := ["value", "least", "most"]) fun _ _ _ _ _ _ us hl => match us, hl with | [_, _, _], _ => rfl
  have F_need_doors := fun_mk (st := s_need_doors) l_need_doors c_need_doors k_need_doors
  have b_need_doors := F_need_doors.binds (ps := ["size", "doors"]) fun _ _ _ _ _ _ us hl => match us, hl with | [_, _], _ => rfl
  have F_need_house := fun_mk (st := s_need_house) l_need_house c_need_house k_need_house
  have b_need_house := F_need_house.binds (ps := ["house"]) fun _ _ _ _ _ _ us hl => match us, hl with | [_], _ => rfl
  have F_need_set := fun_mk (st := s_need_set) l_need_set c_need_set k_need_set
  have b_need_set := F_need_set.binds (ps := ["house", "rooms"]) fun _ _ _ _ _ _ us hl => match us, hl with | [_, _], _ => rfl
  have F_near := fun_mk (st := s_near) l_near c_near k_near
  have b_near := F_near.binds (ps := ["house"]) fun _ _ _ _ _ _ us hl => match us, hl with | [_], _ => rfl
  have F_is_largest := fun_mk (st := s_is_largest) l_is_largest c_is_largest k_is_largest
  have b_is_largest := F_is_largest.binds (ps := ["rows", "rooms", "some"]) fun _ _ _ _ _ _ us hl => match us, hl with | [_, _, _], _ => rfl
  have F_largest_in := fun_mk (st := s_largest_in) l_largest_in c_largest_in k_largest_in
  have b_largest_in := F_largest_in.binds (ps := ["rows", "rooms"]) fun _ _ _ _ _ _ us hl => match us, hl with | [_, _], _ => rfl
  have F_largest_sets := fun_mk (st := s_largest_sets) l_largest_sets c_largest_sets k_largest_sets
  have b_largest_sets := F_largest_sets.binds (ps := ["house"]) fun _ _ _ _ _ _ us hl => match us, hl with | [_], _ => rfl
  have F_apart_in := fun_mk (st := s_apart_in) l_apart_in c_apart_in k_apart_in
  have b_apart_in := F_apart_in.binds (ps := ["rows", "rooms"]) fun _ _ _ _ _ _ us hl => match us, hl with | [_, _], _ => rfl
  have F_apart := fun_mk (st := s_apart) l_apart c_apart k_apart
  have b_apart := F_apart.binds (ps := ["house", "rooms"]) fun _ _ _ _ _ _ us hl => match us, hl with | [_, _], _ => rfl
  have F_closed_sets := fun_mk (st := s_closed_sets) l_closed_sets c_closed_sets k_closed_sets
  have b_closed_sets := F_closed_sets.binds (ps := ["house"]) fun _ _ _ _ _ _ us hl => match us, hl with | [_], _ => rfl
  have F_closing := fun_mk (st := s_closing) l_closing c_closing k_closing
  have b_closing := F_closing.binds (ps := ["house", "rooms"]) fun _ _ _ _ _ _ us hl => match us, hl with | [_, _], _ => rfl
  have F__law_taken := fun_mk (st := s__law_taken) l__law_taken c__law_taken k__law_taken
  have b__law_taken := F__law_taken.binds (ps := ["_law_row", "_law_many"]) fun _ _ _ _ _ _ us hl => match us, hl with | [_, _], _ => rfl
  have F__law_alike := fun_mk (st := s__law_alike) l__law_alike c__law_alike k__law_alike
  have b__law_alike := F__law_alike.binds (ps := ["_law_found", "_law_due"]) fun _ _ _ _ _ _ us hl => match us, hl with | [_, _], _ => rfl
  have F__law_house := fun_mk (st := s__law_house) l__law_house c__law_house k__law_house
  have b__law_house := F__law_house.binds (ps := ["_law_row", "_law_most"]) fun _ _ _ _ _ _ us hl => match us, hl with | [_, _], _ => rfl
  have F__law_near := fun_mk (st := s__law_near) l__law_near c__law_near k__law_near
  have b__law_near := F__law_near.binds (ps := ["_law_house_here"]) fun _ _ _ _ _ _ us hl => match us, hl with | [_], _ => rfl
  have F__law_all := fun_mk (st := s__law_all) l__law_all c__law_all k__law_all
  have b__law_all := F__law_all.binds (ps := ["_law_sizes"]) fun _ _ _ _ _ _ us hl => match us, hl with | [_], _ => rfl
  have F__law_apart := fun_mk (st := s__law_apart) l__law_apart c__law_apart k__law_apart
  have b__law_apart := F__law_apart.binds (ps := ["_law_rows", "_law_rooms"]) fun _ _ _ _ _ _ us hl => match us, hl with | [_, _], _ => rfl
  have F_law := fun_mk (st := s_law) l_law c_law k_law
  refine ⟨PySem.W.fnOf "law" "law" (defArgs s_law) (defBody s_law) (defScope s_law) .none kV_law dc_law pm_law an_law cd_law ct_law, fun s v => .of_eq rfl, fun base _ _ => ?_⟩
  have D_is_integer := ok_is_integer (P := PySem.Challenge.rw_mexrooms_k50_whole_polars.prog) (w := w) (base := base) Z F_is_integer (PySem.W.mg_of X G a_is_integer) b_is_integer 
  have D_is_in := ok_is_in (P := PySem.Challenge.rw_mexrooms_k50_whole_polars.prog) (w := w) (base := base) Z F_is_in (PySem.W.mg_of X G a_is_in) b_is_in D_is_integer
  have D_is_list := ok_is_list (P := PySem.Challenge.rw_mexrooms_k50_whole_polars.prog) (w := w) (base := base) Z F_is_list (PySem.W.mg_of X G a_is_list) b_is_list 
  have D_need_doors := ok_need_doors (P := PySem.Challenge.rw_mexrooms_k50_whole_polars.prog) (w := w) (base := base) Z F_need_doors (PySem.W.mg_of X G a_need_doors) b_need_doors m_MOST_ROOMS D_is_in D_is_list
  have D_need_house := ok_need_house (P := PySem.Challenge.rw_mexrooms_k50_whole_polars.prog) (w := w) (base := base) Z F_need_house (PySem.W.mg_of X G a_need_house) b_need_house m_MOST_ROOMS D_is_in D_is_list D_need_doors
  have D_need_set := ok_need_set (P := PySem.Challenge.rw_mexrooms_k50_whole_polars.prog) (w := w) (base := base) Z F_need_set (PySem.W.mg_of X G a_need_set) b_need_set D_is_in D_is_list
  have D_near := ok_near (P := PySem.Challenge.rw_mexrooms_k50_whole_polars.prog) (w := w) (base := base) Z F_near (PySem.W.mg_of X G a_near) b_near 
  have D_is_largest := ok_is_largest (P := PySem.Challenge.rw_mexrooms_k50_whole_polars.prog) (w := w) (base := base) Z F_is_largest (PySem.W.mg_of X G a_is_largest) b_is_largest 
  have D_largest_in := ok_largest_in (P := PySem.Challenge.rw_mexrooms_k50_whole_polars.prog) (w := w) (base := base) Z F_largest_in (PySem.W.mg_of X G a_largest_in) b_largest_in D_is_largest
  have D_largest_sets := ok_largest_sets (P := PySem.Challenge.rw_mexrooms_k50_whole_polars.prog) (w := w) (base := base) Z F_largest_sets (PySem.W.mg_of X G a_largest_sets) b_largest_sets D_largest_in D_near D_need_house
  have D_apart_in := ok_apart_in (P := PySem.Challenge.rw_mexrooms_k50_whole_polars.prog) (w := w) (base := base) Z F_apart_in (PySem.W.mg_of X G a_apart_in) b_apart_in 
  have D_apart := ok_apart (P := PySem.Challenge.rw_mexrooms_k50_whole_polars.prog) (w := w) (base := base) Z F_apart (PySem.W.mg_of X G a_apart) b_apart D_apart_in D_near D_need_house D_need_set
  have D_closed_sets := ok_closed_sets (P := PySem.Challenge.rw_mexrooms_k50_whole_polars.prog) (w := w) (base := base) Z F_closed_sets (PySem.W.mg_of X G a_closed_sets) b_closed_sets D_apart_in D_near D_need_house
  have D_closing := ok_closing (P := PySem.Challenge.rw_mexrooms_k50_whole_polars.prog) (w := w) (base := base) Z F_closing (PySem.W.mg_of X G a_closing) b_closing D_apart_in D_near D_need_house D_need_set
  have D__law_taken := ok__law_taken (P := PySem.Challenge.rw_mexrooms_k50_whole_polars.prog) (w := w) (base := base) Z F__law_taken (PySem.W.mg_of X G a__law_taken) b__law_taken 
  have D__law_alike := ok__law_alike (P := PySem.Challenge.rw_mexrooms_k50_whole_polars.prog) (w := w) (base := base) Z F__law_alike (PySem.W.mg_of X G a__law_alike) b__law_alike 
  have D__law_house := ok__law_house (P := PySem.Challenge.rw_mexrooms_k50_whole_polars.prog) (w := w) (base := base) Z F__law_house (PySem.W.mg_of X G a__law_house) b__law_house D__law_taken
  have D__law_near := ok__law_near (P := PySem.Challenge.rw_mexrooms_k50_whole_polars.prog) (w := w) (base := base) Z F__law_near (PySem.W.mg_of X G a__law_near) b__law_near 
  have D__law_all := ok__law_all (P := PySem.Challenge.rw_mexrooms_k50_whole_polars.prog) (w := w) (base := base) Z F__law_all (PySem.W.mg_of X G a__law_all) b__law_all 
  have D__law_apart := ok__law_apart (P := PySem.Challenge.rw_mexrooms_k50_whole_polars.prog) (w := w) (base := base) Z F__law_apart (PySem.W.mg_of X G a__law_apart) b__law_apart 
  exact ok_law Z F_law D__law_alike D__law_all D__law_apart D__law_house D__law_near D__law_taken D_apart D_closed_sets D_closing D_largest_sets law_true
end Lw
open PySem PySem.W PyProof.Rows
set_option maxHeartbeats 0 in
theorem PySem.Challenge.cw_mexrooms_k50_whole_polars_holds : PySem.Challenge.rw_mexrooms_k50_whole_polars.Holds := by
  w_on; o_law; k_head; (case hw => w_witness2)
  k_fill
  refine L2.walk_of (l := PySem.Challenge.rw_mexrooms_k50_whole_polars) (n := 63) (k := 7) (x := "_law_script") (CX := fun _ => L2.CX0) (sp := fun w => Mx.spLaw _) rfl (by decide) rfl ⟨rfl, by decide, by decide⟩ (fun w h Y => PySem.W.kIn_of Y) ?F (fun _ _ a ns hl _ hS => ⟨a, ns, rfl, hS, hl, fun _ => rfl⟩) (fun _ _ _ _ _ h => h)
  case F =>
    intro w mg fa h KX G hmg
    refine' Lw.all_mk KX G hmg ?a_is_integer ?l_is_integer ?c_is_integer ?k_is_integer ?a_is_in ?l_is_in ?c_is_in ?k_is_in ?a_is_list ?l_is_list ?c_is_list ?k_is_list ?a_need_doors ?l_need_doors ?c_need_doors ?k_need_doors ?a_need_house ?l_need_house ?c_need_house ?k_need_house ?a_need_set ?l_need_set ?c_need_set ?k_need_set ?a_near ?l_near ?c_near ?k_near ?a_is_largest ?l_is_largest ?c_is_largest ?k_is_largest ?a_largest_in ?l_largest_in ?c_largest_in ?k_largest_in ?a_largest_sets ?l_largest_sets ?c_largest_sets ?k_largest_sets ?a_apart_in ?l_apart_in ?c_apart_in ?k_apart_in ?a_apart ?l_apart ?c_apart ?k_apart ?a_closed_sets ?l_closed_sets ?c_closed_sets ?k_closed_sets ?a_closing ?l_closing ?c_closing ?k_closing ?a__law_taken ?l__law_taken ?c__law_taken ?k__law_taken ?a__law_alike ?l__law_alike ?c__law_alike ?k__law_alike ?a__law_house ?l__law_house ?c__law_house ?k__law_house ?a__law_near ?l__law_near ?c__law_near ?k__law_near ?a__law_all ?l__law_all ?c__law_all ?k__law_all ?a__law_apart ?l__law_apart ?c__law_apart ?k__law_apart ?a_law ?l_law ?c_law ?k_law ?n_MOST_ROOMS ?z_isinstance ?z_int ?z_bool ?z_str ?z_tuple ?z_list ?z_set ?z_len ?z_range ?z_enumerate ?z_zip ?z_sorted ?z_all ?z_any ?z_sum ?z_max ?z_min ?z_abs ?z_reversed
    (case a_is_integer => k_is); (case l_is_integer => k_is); (case c_is_integer => k_is); (case k_is_integer => k_is); (case a_is_in => k_is); (case l_is_in => k_is); (case c_is_in => k_is); (case k_is_in => k_is); (case a_is_list => k_is); (case l_is_list => k_is); (case c_is_list => k_is); (case k_is_list => k_is); (case a_need_doors => k_is); (case l_need_doors => k_is); (case c_need_doors => k_is); (case k_need_doors => k_is); (case a_need_house => k_is); (case l_need_house => k_is); (case c_need_house => k_is); (case k_need_house => k_is); (case a_need_set => k_is); (case l_need_set => k_is); (case c_need_set => k_is); (case k_need_set => k_is); (case a_near => k_is); (case l_near => k_is); (case c_near => k_is); (case k_near => k_is); (case a_is_largest => k_is); (case l_is_largest => k_is); (case c_is_largest => k_is); (case k_is_largest => k_is); (case a_largest_in => k_is); (case l_largest_in => k_is); (case c_largest_in => k_is); (case k_largest_in => k_is); (case a_largest_sets => k_is); (case l_largest_sets => k_is); (case c_largest_sets => k_is); (case k_largest_sets => k_is); (case a_apart_in => k_is); (case l_apart_in => k_is); (case c_apart_in => k_is); (case k_apart_in => k_is); (case a_apart => k_is); (case l_apart => k_is); (case c_apart => k_is); (case k_apart => k_is); (case a_closed_sets => k_is); (case l_closed_sets => k_is); (case c_closed_sets => k_is); (case k_closed_sets => k_is); (case a_closing => k_is); (case l_closing => k_is); (case c_closing => k_is); (case k_closing => k_is); (case a__law_taken => k_is); (case l__law_taken => k_is); (case c__law_taken => k_is); (case k__law_taken => k_is); (case a__law_alike => k_is); (case l__law_alike => k_is); (case c__law_alike => k_is); (case k__law_alike => k_is); (case a__law_house => k_is); (case l__law_house => k_is); (case c__law_house => k_is); (case k__law_house => k_is); (case a__law_near => k_is); (case l__law_near => k_is); (case c__law_near => k_is); (case k__law_near => k_is); (case a__law_all => k_is); (case l__law_all => k_is); (case c__law_all => k_is); (case k__law_all => k_is); (case a__law_apart => k_is); (case l__law_apart => k_is); (case c__law_apart => k_is); (case k__law_apart => k_is); (case a_law => k_is); (case l_law => k_is); (case c_law => k_is); (case k_law => k_is); (case n_MOST_ROOMS => k_is); (case z_isinstance => k_is); (case z_int => k_is); (case z_bool => k_is); (case z_str => k_is); (case z_tuple => k_is); (case z_list => k_is); (case z_set => k_is); (case z_len => k_is); (case z_range => k_is); (case z_enumerate => k_is); (case z_zip => k_is); (case z_sorted => k_is); (case z_all => k_is); (case z_any => k_is); (case z_sum => k_is); (case z_max => k_is); (case z_min => k_is); (case z_abs => k_is); (case z_reversed => k_is)
