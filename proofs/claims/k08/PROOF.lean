import PyProof.Rows.All
import Wide.All
import OpenK.AllK
import Wide.FinOn
import HandS.ForMost
import HandS.ForExc
import HandS.More
import HandS.Walk
import HandS.TupAny
import HandS.Style
import HandS.TupMul
import KE.DataCmp
import KE.DataIsa
import HandS.TupLe
import KE.SortData
import KE.KDictSum
import KE.KDictCopyH
import PyProof.CollectStr
import PyProof.TupleOfSeq
import HandS.Conv
import HandS.Replace
import HandS.TupLen
import PyProof.ListStr
import PyProof.ReprRoads
import PyProof.CallFns
import KE.DataFind
import KE.SortKeyHeap
import HandS.Set
import HandS.Strs
import HandS.TupSets
import PyProof.TupleOfStr
import HandS.Zip
import HandS.Rev
import KE.GoesMore
import KE.GoesEnum
import KE.GoesEnumKw
import KE.GoesZip
import HandS.Defaults
import HandS.HeadEnd
import KE.KStateDown
import Lean
import HandS.Head0
import HandS.Head1
import HandS.Head2
import HandS.HeadHook1
import HandS.HeadHook2
import PySem.Challenge.RW_keytables_k08_whole_what_follows
set_option Elab.async false
set_option linter.all false
set_option autoImplicit false
set_option maxRecDepth 100000
set_option maxHeartbeats 0
namespace Kd
open PySem PySem.Spec PyProof.Rows L2

abbrev D := PyData
abbrev ZS := Addr → Prop
def kD : Key → D
  | .inl i => .int i
  | .inr x => .str x
def kT (k : List Key) : D := .tuple (k.map kD)

def LsR (K : PySem.W.Frag) (H : Hp) (Z : ZS) (a : Addr) (xs : List V) : Prop := ¬ Z a ∧ Rd H a (.lst xs)
/-- the script: a list that is read alone; its datum is told apart from all others -/
def ScR (K : PySem.W.Frag) (H : Hp) (Z : ZS) (a : Addr) (xs : List V) : Prop := (¬ Z a ∧ Rd H a (.lst xs)) ∨ SqL K (fun _ => none) a xs
def scrD (ds : List D) : D := .dict [(.none, .list ds)]
def TpR (K : PySem.W.Frag) (H : Hp) (Z : ZS) (a : Addr) (xs : List V) : Prop := ¬ Z a ∧ H a = some (.tup xs)

/-- a text that the machine can hold -/
def SOk (x : Str) : Prop := PyData.strOk x = true ∧ x.length ≤ sizeLine
def KOk : Key → Prop
  | .inl _ => True
  | .inr x => SOk x
mutual
inductive Rp (K : PySem.W.Frag) (H : Hp) (Z : ZS) : V → D → Prop
  | non : Rp K H Z .non .none
  | bl (b : Bool) : Rp K H Z (.bl b) (.bool b)
  | int (i : Int) : Rp K H Z (.int i) (.int i)
  | str (x : Str) (h : SOk x) : Rp K H Z (.str x) (.str x)
  | lst {a : Addr} {xs : List V} {ds : List D} : LsR K H Z a xs → xs.length ≤ sizeLine → RpAll K H Z xs ds → Rp K H Z (.ref a) (.list ds)
  | tup {a : Addr} {xs : List V} {ds : List D} : TpR K H Z a xs → xs.length ≤ sizeLine → RpAll K H Z xs ds → Rp K H Z (.ref a) (.tuple ds)
  | dic {a : Addr} {kvs : List (Key × V)} {ds : List D} : ¬ Z a → Rd H a (.dK kvs) → (kvs.length ≤ sizeLine ∧ ∀ p ∈ kvs, KOk p.1) → RpAll K H Z (kvs.map (·.2)) ds → Rp K H Z (.ref a) (.dict ((kvs.map fun p => kD p.1).zip ds))
  | dit {a : Addr} {kvs : List (List Key × V)} {ds : List D} : ¬ Z a → Rd H a (.dT kvs) → (kvs.length ≤ sizeLine ∧ ∀ p ∈ kvs, ∀ k ∈ p.1, KOk k) → RpAll K H Z (kvs.map (·.2)) ds → Rp K H Z (.ref a) (.dict ((kvs.map fun p => kT p.1).zip ds))
  | scr {a : Addr} {xs : List V} {ds : List D} : ScR K H Z a xs → xs.length ≤ sizeLine → RpAll K H Z xs ds → Rp K H Z (.ref a) (scrD ds)
inductive RpAll (K : PySem.W.Frag) (H : Hp) (Z : ZS) : List V → List D → Prop
  | nil : RpAll K H Z [] []
  | cons {v : V} {vs : List V} {d : D} {ds : List D} : Rp K H Z v d → RpAll K H Z vs ds → RpAll K H Z (v :: vs) (d :: ds)
end

section
variable {K : PySem.W.Frag} {H H' : Hp} {Z Z' : ZS}
theorem RpAll.length : ∀ {vs : List V} {ds : List D}, RpAll K H Z vs ds → vs.length = ds.length
  | _, _, .nil => rfl
  | _, _, .cons _ t => by simp [RpAll.length t]
theorem RpAll.get : ∀ {vs : List V} {ds : List D} {i : Nat} {d : D}, RpAll K H Z vs ds → ds[i]? = some d → ∃ v, vs[i]? = some v ∧ Rp K H Z v d
  | _, _, _, _, .nil, e => by simp at e
  | _, _, 0, _, .cons r _, e => by simp at e; subst e; exact ⟨_, rfl, r⟩
  | _, _, i + 1, d, .cons _ t, e => by
    obtain ⟨v, h1, h2⟩ := RpAll.get (i := i) (d := d) t (by simpa using e)
    exact ⟨v, by simpa using h1, h2⟩
theorem RpAll.get' : ∀ {vs : List V} {ds : List D} {i : Nat} {v : V}, RpAll K H Z vs ds → vs[i]? = some v → ∃ d, ds[i]? = some d ∧ Rp K H Z v d
  | _, _, _, _, .nil, e => by simp at e
  | _, _, 0, _, .cons r _, e => by simp at e; subst e; exact ⟨_, rfl, r⟩
  | _, _, i + 1, v, .cons _ t, e => by
    obtain ⟨d, h1, h2⟩ := RpAll.get' (i := i) (v := v) t (by simpa using e)
    exact ⟨d, by simpa using h1, h2⟩
theorem RpAll.append : ∀ {vs ws : List V} {ds es : List D}, RpAll K H Z vs ds → RpAll K H Z ws es → RpAll K H Z (vs ++ ws) (ds ++ es)
  | _, _, _, _, .nil, s => s
  | _, _, _, _, .cons r t, s => .cons r (RpAll.append t s)
theorem RpAll.set {v : V} {d : D} (r : Rp K H Z v d) : ∀ {vs : List V} {ds : List D} (i : Nat), RpAll K H Z vs ds → RpAll K H Z (vs.set i v) (ds.set i d)
  | _, _, _, .nil => .nil
  | _, _, 0, .cons _ t => .cons r t
  | _, _, i + 1, .cons q t => .cons q (RpAll.set r i t)
theorem RpAll.take : ∀ {vs : List V} {ds : List D} (n : Nat), RpAll K H Z vs ds → RpAll K H Z (vs.take n) (ds.take n)
  | _, _, 0, _ => .nil
  | _, _, _ + 1, .nil => .nil
  | _, _, n + 1, .cons r t => .cons r (RpAll.take n t)
theorem RpAll.drop : ∀ {vs : List V} {ds : List D} (n : Nat), RpAll K H Z vs ds → RpAll K H Z (vs.drop n) (ds.drop n)
  | _, _, 0, r => r
  | _, _, _ + 1, .nil => .nil
  | _, _, n + 1, .cons _ t => RpAll.drop n t
theorem RpAll.eraseIdx : ∀ {vs : List V} {ds : List D} (n : Nat), RpAll K H Z vs ds → RpAll K H Z (vs.eraseIdx n) (ds.eraseIdx n)
  | _, _, _, .nil => .nil
  | _, _, 0, .cons _ t => t
  | _, _, n + 1, .cons r t => .cons r (RpAll.eraseIdx n t)
theorem RpAll.reverse : ∀ {vs : List V} {ds : List D}, RpAll K H Z vs ds → RpAll K H Z vs.reverse ds.reverse
  | _, _, .nil => .nil
  | _, _, .cons r t => by simp only [List.reverse_cons]; exact RpAll.append (RpAll.reverse t) (.cons r .nil)

/-- what is kept of the heap and which addresses become barred -/
structure Kp (H H' : Hp) (Z Z' : ZS) : Prop where
  rd : ∀ a u, ¬ Z a → Rd H a u → Rd H' a u
  tp : ∀ a xs, ¬ Z a → H a = some (.tup xs) → H' a = some (.tup xs)
  nz : ∀ a u, ¬ Z a → Rd H a u → ¬ Z' a
mutual
theorem Rp.keep (k : Kp H H' Z Z') : ∀ {v : V} {d : D}, Rp K H Z v d → Rp K H' Z' v d
  | _, _, .non => .non
  | _, _, .bl b => .bl b
  | _, _, .int i => .int i
  | _, _, .str x h => .str x h
  | _, _, .lst h z r => .lst ⟨k.nz _ _ h.1 h.2, k.rd _ _ h.1 h.2⟩ z (RpAll.keep k r)
  | _, _, .tup h z r => .tup ⟨k.nz _ _ h.1 (.inl h.2), k.tp _ _ h.1 h.2⟩ z (RpAll.keep k r)
  | _, _, .dic n h z r => .dic (k.nz _ _ n h) (k.rd _ _ n h) z (RpAll.keep k r)
  | _, _, .dit n h z r => .dit (k.nz _ _ n h) (k.rd _ _ n h) z (RpAll.keep k r)
  | _, _, .scr h z r => .scr (h.elim (fun q => .inl ⟨k.nz _ _ q.1 q.2, k.rd _ _ q.1 q.2⟩) .inr) z (RpAll.keep k r)
theorem RpAll.keep (k : Kp H H' Z Z') : ∀ {vs : List V} {ds : List D}, RpAll K H Z vs ds → RpAll K H' Z' vs ds
  | _, _, .nil => .nil
  | _, _, .cons a b => .cons (Rp.keep k a) (RpAll.keep k b)
end
theorem Rp.mono (h : ∀ a, Z' a → Z a) {v : V} {d : D} (r : Rp K H Z v d) : Rp K H Z' v d := r.keep ⟨fun _ _ _ q => q, fun _ _ _ q => q, fun _ _ n _ z => n (h _ z)⟩
theorem RpAll.mono (h : ∀ a, Z' a → Z a) {vs : List V} {ds : List D} (r : RpAll K H Z vs ds) : RpAll K H Z' vs ds := r.keep ⟨fun _ _ _ q => q, fun _ _ _ q => q, fun _ _ n _ z => n (h _ z)⟩
end

/-! ### owned objects -/
inductive OO where
  | lst (ds : List D)
  | dK (kvs : List (Key × D))
  | dT (kvs : List (List Key × D))
  | frz (d : D)
def OO.live : OO → Bool
  | .frz _ => false
  | _ => true
def OO.dat : OO → D
  | .lst ds => .list ds
  | .dK kvs => .dict ((kvs.map fun p => kD p.1).zip (kvs.map (·.2)))
  | .dT kvs => .dict ((kvs.map fun p => kT p.1).zip (kvs.map (·.2)))
  | .frz d => d
abbrev OH := List OO
inductive Vl where
  | d (d : D)
  | o (n : Nat)
  | l (ns : List Nat)
abbrev Sl := List (Option Vl)

def OAt (K : PySem.W.Frag) (H : Hp) (Z : ZS) (a : Addr) : OO → Prop
  | .lst ds => ∃ xs, H a = some (.lst xs) ∧ xs.length ≤ sizeLine ∧ RpAll K H Z xs ds
  | .dK kvs => ∃ vs, H a = some (.dK vs) ∧ (vs.length ≤ sizeLine ∧ ∀ p ∈ vs, KOk p.1) ∧ vs.map (·.1) = kvs.map (·.1) ∧ RpAll K H Z (vs.map (·.2)) (kvs.map (·.2))
  | .dT kvs => ∃ vs, H a = some (.dT vs) ∧ (vs.length ≤ sizeLine ∧ ∀ p ∈ vs, ∀ k ∈ p.1, KOk k) ∧ vs.map (·.1) = kvs.map (·.1) ∧ RpAll K H Z (vs.map (·.2)) (kvs.map (·.2))
  | .frz d => Rp K H Z (.ref a) d

def Liv (ρ : List Addr) (oh : OH) (a : Addr) : Prop := ∃ (i : Nat) (ob : OO), oh[i]? = some ob ∧ ob.live = true ∧ ρ[i]? = some a
def Zn (ρ : List Addr) (oh : OH) (Y : ZS) : ZS := fun a => Liv ρ oh a ∨ Y a

/-- an object that is no tuple stands there -/
def notTup : HO → Bool
  | .tup _ => false
  | _ => true
def Hd (H : Hp) (a : Addr) : Prop := ∃ u, H a = some u ∧ notTup u = true
structure Ok (K : PySem.W.Frag) (H : Hp) (ρ : List Addr) (oh : OH) (Y : ZS) : Prop where
  len : ρ.length = oh.length
  nd : ∀ (i j : Nat) (a : Addr) (oi oj : OO), oh[i]? = some oi → oi.live = true → oh[j]? = some oj → oj.live = true → ρ[i]? = some a → ρ[j]? = some a → i = j
  at_ : ∀ (i : Nat) (ob : OO) (a : Addr), oh[i]? = some ob → ρ[i]? = some a → OAt K H (Zn ρ oh Y) a ob
  yl : ∀ a, Y a → ¬ Liv ρ oh a
  yh : ∀ a, Y a → Hd H a

/-- a list that is read alone, of owned objects -/
def LAt (K : PySem.W.Frag) (H : Hp) (ρ : List Addr) (Z : ZS) (a : Addr) (ns : List Nat) : Prop :=
  ∃ as : List Addr, LsR K H Z a (as.map V.ref) ∧ as.length ≤ sizeLine ∧ as.length = ns.length ∧ ∀ (k n : Nat), ns[k]? = some n → ∃ b, as[k]? = some b ∧ ρ[n]? = some b
def VR (K : PySem.W.Frag) (H : Hp) (ρ : List Addr) (oh : OH) (Y : ZS) (v : V) : Vl → Prop
  | .d d => Rp K H (Zn ρ oh Y) v d
  | .o n => ∃ a, v = .ref a ∧ ρ[n]? = some a
  | .l ns => ∃ a, v = .ref a ∧ LAt K H ρ (Zn ρ oh Y) a ns
theorem LAt.keep {K : PySem.W.Frag} {H H' : Hp} {ρ ρ' : List Addr} {Z Z' : ZS} {a : Addr} {ns : List Nat} (k : Kp H H' Z Z') (pre : ∀ (n : Nat) (a : Addr), n ∈ ns → ρ[n]? = some a → ρ'[n]? = some a) (h : LAt K H ρ Z a ns) : LAt K H' ρ' Z' a ns := by
  obtain ⟨as, h1, h2, h3, h4⟩ := h
  exact ⟨as, ⟨k.nz _ _ h1.1 h1.2, k.rd _ _ h1.1 h1.2⟩, h2, h3, fun i n e => let ⟨b, e1, e2⟩ := h4 i n e; ⟨b, e1, pre n b (List.mem_of_getElem? e) e2⟩⟩
theorem LAt.mono {K : PySem.W.Frag} {H : Hp} {ρ : List Addr} {Z Z' : ZS} {a : Addr} {ns : List Nat} (k : ∀ b, Z' b → Z b) (h : LAt K H ρ Z a ns) : LAt K H ρ Z' a ns :=
  h.keep ⟨fun _ _ _ q => q, fun _ _ _ q => q, fun _ _ n _ z => n (k _ z)⟩ fun _ _ _ e => e

/-- a dict that is read alone may be locked -/
def isDct : HO → Bool
  | .dK _ => true
  | .dT _ => true
  | _ => false
def Kept (H' : Hp) (a : Addr) (o : HO) : Prop := H' a = some o ∨ (isDct o = true ∧ ∃ ob, H' a = some (.frz ob o))
theorem Kept.ex {H' : Hp} {a : Addr} {o : HO} (h : Kept H' a o) : ∃ u, H' a = some u := by
  rcases h with h | ⟨_, ob, h⟩
  · exact ⟨_, h⟩
  · exact ⟨_, h⟩
theorem Kept.same {H' : Hp} {a : Addr} {o : HO} (h : Kept H' a o) (n : isDct o = false) : H' a = some o := by
  rcases h with h | ⟨z, _⟩
  · exact h
  · rw [n] at z; cases z
theorem Kept.rd {H' : Hp} {a : Addr} {o : HO} (h : Kept H' a o) : Rd H' a o := by
  rcases h with h | ⟨_, ob, h⟩
  · exact .inl h
  · exact .inr ⟨ob, h⟩
structure Stp (H : Hp) (ρ : List Addr) (oh : OH) (H' : Hp) (ρ' : List Addr) (oh' : OH) : Prop where
  ext : ∀ a o, ¬ Liv ρ oh a → H a = some o → Kept H' a o
  zz : ∀ a, Liv ρ' oh' a → Liv ρ oh a ∨ H a = none
  pre : ∀ (n : Nat) (a : Addr), ρ[n]? = some a → ρ'[n]? = some a
  dom : ∀ a, Hd H a → Hd H' a

def SlR (K : PySem.W.Frag) (H : Hp) (ρ : List Addr) (oh : OH) (Y : ZS) (σ : L2.St) (sl : Sl) : Prop :=
  sl.length = σ.length ∧ ∀ (i : Nat) (r : Vl), sl[i]? = some (some r) → ∃ v, σ[i]? = some (some v) ∧ VR K H ρ oh Y v r

section
variable {K : PySem.W.Frag} {H H' H'' : Hp} {ρ ρ' ρ'' : List Addr} {oh oh' oh'' : OH} {Y : ZS}
theorem Stp.refl : Stp H ρ oh H ρ oh := ⟨fun _ _ _ h => .inl h, fun _ h => .inl h, fun _ _ h => h, fun _ h => h⟩
theorem Stp.trans (s : Stp H ρ oh H' ρ' oh') (t : Stp H' ρ' oh' H'' ρ'' oh'') : Stp H ρ oh H'' ρ'' oh'' where
  ext := fun a o n e => by
    have nl : ¬ Liv ρ' oh' a := fun l => by
      rcases s.zz a l with q | q
      · exact n q
      · rw [q] at e; cases e
    rcases s.ext a o n e with e' | ⟨d, ob, e'⟩
    · exact t.ext a o nl e'
    · exact .inr ⟨d, ob, (t.ext a _ nl e').same rfl⟩
  zz := fun a l => by
    rcases t.zz a l with q | q
    · exact s.zz a q
    · by_cases hl : Liv ρ oh a
      · exact .inl hl
      · right
        cases e : H a with
        | none => rfl
        | some o =>
          obtain ⟨u, e2⟩ := (s.ext a o hl e).ex
          rw [e2] at q; cases q
  pre := fun n a e => t.pre n a (s.pre n a e)
  dom := fun a e => t.dom a (s.dom a e)
theorem rd_some {a : Addr} {u : HO} (h : Rd H a u) : ∃ o, H a = some o := by
  rcases h with h | ⟨o, h⟩
  · exact ⟨_, h⟩
  · exact ⟨_, h⟩
theorem Stp.kp (s : Stp H ρ oh H' ρ' oh') (ok : Ok K H ρ oh Y) : Kp H H' (Zn ρ oh Y) (Zn ρ' oh' Y) where
  rd := fun a u n h => by
    have nl : ¬ Liv ρ oh a := fun q => n (.inl q)
    rcases h with h | ⟨o, h⟩
    · exact (s.ext _ _ nl h).rd
    · exact .inr ⟨o, (s.ext _ _ nl h).same rfl⟩
  tp := fun a xs n h => (s.ext _ _ (fun q => n (.inl q)) h).same rfl
  nz := fun a u n h => by
    rintro (q | q)
    · rcases s.zz a q with q | q
      · exact n (.inl q)
      · obtain ⟨o, e⟩ := rd_some h
        rw [e] at q; cases q
    · exact n (.inr q)
theorem VR.keep (s : Stp H ρ oh H' ρ' oh') (ok : Ok K H ρ oh Y) {v : V} {r : Vl} (h : VR K H ρ oh Y v r) : VR K H' ρ' oh' Y v r := by
  cases r with
  | d d => exact Rp.keep (s.kp ok) h
  | o n =>
    obtain ⟨a, e, q⟩ := h
    exact ⟨a, e, s.pre _ _ q⟩
  | l ns =>
    obtain ⟨a, e, q⟩ := h
    exact ⟨a, e, q.keep (s.kp ok) fun n b _ => s.pre n b⟩
theorem SlR.keep (s : Stp H ρ oh H' ρ' oh') (ok : Ok K H ρ oh Y) {σ : L2.St} {sl : Sl} (h : SlR K H ρ oh Y σ sl) : SlR K H' ρ' oh' Y σ sl :=
  ⟨h.1, fun i r e => let ⟨v, e1, q⟩ := h.2 i r e; ⟨v, e1, q.keep s ok⟩⟩

/-- the datum that a value stands for now -/
def vdat (oh : OH) : Vl → Option D
  | .d d => some d
  | .o n => (oh[n]?).map OO.dat
  | .l _ => none
theorem lt_get {α : Type} {l : List α} {n : Nat} {x : α} (h : l[n]? = some x) : n < l.length := by
  rcases Nat.lt_or_ge n l.length with q | q
  · exact q
  · rw [List.getElem?_eq_none q] at h; cases h
theorem Ok.addr (ok : Ok K H ρ oh Y) {n : Nat} {ob : OO} (h : oh[n]? = some ob) : ∃ a, ρ[n]? = some a := by
  have : n < ρ.length := by rw [ok.len]; exact lt_get h
  exact ⟨_, List.getElem?_eq_getElem this⟩
theorem OAt.rp {Z : ZS} {a : Addr} {ob : OO} (h : OAt K H Z a ob) : Rp K H (fun _ => False) (.ref a) ob.dat := by
  cases ob with
  | lst ds =>
    obtain ⟨xs, e, z, r⟩ := h
    exact .lst ⟨fun q => q, .inl e⟩ z (r.mono fun _ q => q.elim)
  | dK kvs =>
    obtain ⟨vs, e, z, ke, r⟩ := h
    have q : (kvs.map fun p => kD p.1) = vs.map fun p => kD p.1 := by
      have := congrArg (List.map kD) ke
      simp only [List.map_map] at this
      exact this.symm
    show Rp K H _ _ (.dict ((kvs.map fun p => kD p.1).zip (kvs.map (·.2))))
    rw [q]
    exact .dic (fun q => q) (.inl e) z (r.mono fun _ q => q.elim)
  | dT kvs =>
    obtain ⟨vs, e, z, ke, r⟩ := h
    have q : (kvs.map fun p => kT p.1) = vs.map fun p => kT p.1 := by
      have := congrArg (List.map kT) ke
      simp only [List.map_map] at this
      exact this.symm
    show Rp K H _ _ (.dict ((kvs.map fun p => kT p.1).zip (kvs.map (·.2))))
    rw [q]
    exact .dit (fun q => q) (.inl e) z (r.mono fun _ q => q.elim)
  | frz d => exact Rp.mono (fun _ q => q.elim) h
abbrev Z0 : ZS := fun _ => False
theorem VR.rp0 (ok : Ok K H ρ oh Y) {v : V} {r : Vl} {d : D} (h : VR K H ρ oh Y v r) (e : vdat oh r = some d) : Rp K H Z0 v d := by
  cases r with
  | d d' =>
    cases e
    exact Rp.mono (fun _ q => q.elim) h
  | o n =>
    obtain ⟨a, rfl, q⟩ := h
    cases eo : oh[n]? with
    | none => simp [vdat, eo] at e
    | some ob =>
      simp [vdat, eo] at e
      subst e
      exact (ok.at_ n ob a eo q).rp
  | l ns => cases e

/-! ### a new owned object; an owned object given up as a datum -/
theorem liv_snoc {a b : Addr} {ob : OO} (hl : ρ.length = oh.length) : Liv (ρ ++ [a]) (oh ++ [ob]) b → Liv ρ oh b ∨ (b = a ∧ ob.live = true) := by
  rintro ⟨i, o, e1, e2, e3⟩
  rcases Nat.lt_or_ge i oh.length with q | q
  · rw [List.getElem?_append_left q] at e1
    rw [List.getElem?_append_left (by omega)] at e3
    exact .inl ⟨i, o, e1, e2, e3⟩
  · rw [List.getElem?_append_right q] at e1
    rw [List.getElem?_append_right (by omega), hl] at e3
    have : i - oh.length = 0 := by
      have := lt_get e1
      simp at this; omega
    rw [this] at e1 e3
    simp at e1 e3
    subst e1
    exact .inr ⟨e3.symm, e2⟩
theorem liv_old {a : Addr} {ob : OO} {b : Addr} (h : Liv ρ oh b) (hl : ρ.length = oh.length) : Liv (ρ ++ [a]) (oh ++ [ob]) b := by
  obtain ⟨i, o, e1, e2, e3⟩ := h
  exact ⟨i, o, by rw [List.getElem?_append_left (lt_get e1)]; exact e1, e2, by rw [List.getElem?_append_left (lt_get e3)]; exact e3⟩
end
end Kd

namespace Kd
open PySem PySem.Spec PyProof.Rows L2
section
variable {K : PySem.W.Frag} {H H' H'' : Hp} {ρ ρ' ρ'' : List Addr} {oh oh' oh'' : OH} {Y : ZS}

theorem OAt.keep {Z Z' : ZS} {a : Addr} {ob : OO} (k : Kp H H' Z Z') (hk : ob.live = true → ∀ o, H a = some o → H' a = some o) (h : OAt K H Z a ob) : OAt K H' Z' a ob := by
  cases ob with
  | lst ds => obtain ⟨xs, e, z, r⟩ := h; exact ⟨xs, hk rfl _ e, z, r.keep k⟩
  | dK ds => obtain ⟨xs, e, z, m, r⟩ := h; exact ⟨xs, hk rfl _ e, z, m, r.keep k⟩
  | dT ds => obtain ⟨xs, e, z, m, r⟩ := h; exact ⟨xs, hk rfl _ e, z, m, r.keep k⟩
  | frz d => exact Rp.keep k h
theorem OAt.mono {Z Z' : ZS} {a : Addr} {ob : OO} (k : ∀ b, Z' b → Z b) (h : OAt K H Z a ob) : OAt K H Z' a ob :=
  h.keep ⟨fun _ _ _ q => q, fun _ _ _ q => q, fun _ _ n _ z => n (k _ z)⟩ fun _ _ e => e
/-- an owned object read as a datum, where the place itself is not barred -/
theorem OAt.rpZ {Z Z' : ZS} {a : Addr} {ob : OO} (h : OAt K H Z a ob) (hz : ∀ b, Z' b → Z b) (ha : ¬ Z' a) : Rp K H Z' (.ref a) ob.dat := by
  cases ob with
  | lst ds =>
    obtain ⟨xs, e, z, r⟩ := h
    exact .lst ⟨ha, .inl e⟩ z (r.mono hz)
  | dK kvs =>
    obtain ⟨vs, e, z, ke, r⟩ := h
    have q : (kvs.map fun p => kD p.1) = vs.map fun p => kD p.1 := by
      have := congrArg (List.map kD) ke
      simp only [List.map_map] at this
      exact this.symm
    show Rp K H _ _ (.dict ((kvs.map fun p => kD p.1).zip (kvs.map (·.2))))
    rw [q]
    exact .dic ha (.inl e) z (r.mono hz)
  | dT kvs =>
    obtain ⟨vs, e, z, ke, r⟩ := h
    have q : (kvs.map fun p => kT p.1) = vs.map fun p => kT p.1 := by
      have := congrArg (List.map kT) ke
      simp only [List.map_map] at this
      exact this.symm
    show Rp K H _ _ (.dict ((kvs.map fun p => kT p.1).zip (kvs.map (·.2))))
    rw [q]
    exact .dit ha (.inl e) z (r.mono hz)
  | frz d => exact Rp.mono hz h

theorem liv_take {b : Nat} {a : Addr} (h : Liv (ρ.take b) (oh.take b) a) : Liv ρ oh a := by
  obtain ⟨i, o, e1, e2, e3⟩ := h
  rw [List.getElem?_take] at e1 e3
  split at e1
  · rename_i q
    rw [if_pos q] at e3
    exact ⟨i, o, e1, e2, e3⟩
  · cases e1
theorem Ok.take (ok : Ok K H ρ oh Y) (b : Nat) : Ok K H (ρ.take b) (oh.take b) Y := by
  have g : ∀ {α : Type} {l : List α} {i : Nat} {x : α}, (l.take b)[i]? = some x → l[i]? = some x := fun {α l i x} e => by
    rw [List.getElem?_take] at e
    split at e
    · exact e
    · cases e
  refine ⟨by simp [ok.len], fun i j a oi oj e1 l1 e2 l2 r1 r2 => ok.nd i j a oi oj (g e1) l1 (g e2) l2 (g r1) (g r2), fun i o a e1 e2 => ?_, fun a y l => ok.yl a y (liv_take l), ok.yh⟩
  refine (ok.at_ i o a (g e1) (g e2)).mono fun c => ?_
  rintro (q | q)
  · exact .inl (liv_take q)
  · exact .inr q
theorem Stp.take {H0 : Hp} {ρ0 : List Addr} {oh0 : OH} (s : Stp H0 ρ0 oh0 H ρ oh) {b : Nat} (hb : ρ0.length ≤ b) : Stp H0 ρ0 oh0 H (ρ.take b) (oh.take b) :=
  ⟨s.ext, fun a l => s.zz a (liv_take l), fun n a e => by
    rw [List.getElem?_take, if_pos (Nat.lt_of_lt_of_le (lt_get e) hb)]
    exact s.pre n a e, s.dom⟩
/-- the last object given up as a datum -/
theorem Ok.pop {p : Addr} {ob : OO} (hl : ρ.length = oh.length) (ok : Ok K H (ρ ++ [p]) (oh ++ [ob]) Y) : Ok K H ρ oh Y ∧ Rp K H (Zn ρ oh Y) (.ref p) ob.dat := by
  have e1 : (ρ ++ [p]).take oh.length = ρ := by rw [← hl]; simp
  have e2 : (oh ++ [ob]).take oh.length = oh := by simp
  have ok1 := ok.take oh.length
  rw [e1, e2] at ok1
  have gp : (ρ ++ [p])[oh.length]? = some p := by rw [← hl]; simp
  have go : (oh ++ [ob])[oh.length]? = some ob := by simp
  have hat := ok.at_ oh.length ob p go gp
  refine ⟨ok1, ?_⟩
  cases hb : ob.live with
  | true =>
    refine hat.rpZ (fun c => ?_) ?_
    · rintro (q | q)
      · exact .inl (liv_old q hl)
      · exact .inr q
    · rintro (q | q)
      · obtain ⟨i, o, a1, a2, a3⟩ := q
        have := ok.nd i oh.length p o ob (by rw [List.getElem?_append_left (lt_get a1)]; exact a1) a2 go hb (by rw [List.getElem?_append_left (lt_get a3)]; exact a3) gp
        have := lt_get a1
        omega
      · exact ok.yl p q ⟨oh.length, ob, go, hb, gp⟩
  | false =>
    cases ob with
    | frz d =>
      refine Rp.mono (fun c => ?_) hat
      rintro (q | q)
      · exact .inl (liv_old q hl)
      · exact .inr q
    | _ => cases hb
theorem Stp.pop {H0 : Hp} {ρ0 : List Addr} {oh0 : OH} {p : Addr} {ob : OO} (hl : ρ.length = oh.length) (h0 : ρ0.length ≤ ρ.length) (s : Stp H0 ρ0 oh0 H (ρ ++ [p]) (oh ++ [ob])) : Stp H0 ρ0 oh0 H ρ oh := by
  have e1 : (ρ ++ [p]).take oh.length = ρ := by rw [← hl]; simp
  have e2 : (oh ++ [ob]).take oh.length = oh := by simp
  have := s.take (b := oh.length) (by omega)
  rw [e1, e2] at this
  exact this
theorem Stp.len (s : Stp H ρ oh H' ρ' oh') : ρ.length ≤ ρ'.length := by
  rcases Nat.lt_or_ge ρ'.length ρ.length with q | q
  · exfalso
    have e : ρ[ρ'.length]? = some ρ[ρ'.length] := List.getElem?_eq_getElem q
    have := lt_get (s.pre _ _ e)
    omega
  · exact q

/-- a live object is written -/
theorem liv_set {n : Nat} {ob ob' : OO} (e : oh[n]? = some ob) (hl : ob'.live = true → ob.live = true) {a : Addr} (h : Liv ρ (oh.set n ob') a) : Liv ρ oh a := by
  obtain ⟨i, o, e1, e2, e3⟩ := h
  by_cases q : n = i
  · subst q
    rw [List.getElem?_set_self (lt_get e)] at e1
    cases e1
    exact ⟨n, ob, e, hl e2, e3⟩
  · rw [List.getElem?_set_ne q] at e1
    exact ⟨i, o, e1, e2, e3⟩
theorem Ok.write (ok : Ok K H ρ oh Y) {n : Nat} {a : Addr} {ob ob' : OO} {ho : HO} (e : oh[n]? = some ob) (ea : ρ[n]? = some a) (hl : ob.live = true) (hl' : ob'.live = true)
    (hat : OAt K (upd H a ho) (Zn ρ (oh.set n ob') Y) a ob') : Ok K (upd H a ho) ρ (oh.set n ob') Y ∧ Stp H ρ oh (upd H a ho) ρ (oh.set n ob') := by
  have la : Liv ρ oh a := ⟨n, ob, e, hl, ea⟩
  have st : Stp H ρ oh (upd H a ho) ρ (oh.set n ob') := by
    refine ⟨fun b o nl eb => ?_, fun b l => .inl (liv_set e (fun _ => hl) l), fun _ _ q => q, fun b q => ?_⟩
    · exact .inl (by rw [upd_ne (fun z => nl (by rw [z]; exact la))]; exact eb)
    · by_cases z : b = a
      · subst z
        cases ob' with
        | lst ds => obtain ⟨xs, e, _⟩ := hat; exact ⟨_, e, rfl⟩
        | dK ds => obtain ⟨xs, e, _⟩ := hat; exact ⟨_, e, rfl⟩
        | dT ds => obtain ⟨xs, e, _⟩ := hat; exact ⟨_, e, rfl⟩
        | frz d => cases hl'
      · obtain ⟨u, e, t⟩ := q
        exact ⟨u, by rw [upd_ne z]; exact e, t⟩
  have k := st.kp ok
  refine ⟨⟨by simp [ok.len], fun i j c oi oj e1 l1 e2 l2 r1 r2 => ?_, fun i o c e1 e2 => ?_, fun c y l => ok.yl c y (liv_set e (fun _ => hl) l), fun c y => st.dom c (ok.yh c y)⟩, st⟩
  · have g : ∀ (i : Nat) (o : OO), (oh.set n ob')[i]? = some o → o.live = true → ∃ o' : OO, oh[i]? = some o' ∧ o'.live = true := fun i o e1 l1 => by
      by_cases q : n = i
      · subst q; exact ⟨ob, e, hl⟩
      · rw [List.getElem?_set_ne q] at e1; exact ⟨o, e1, l1⟩
    obtain ⟨o1, a1, b1⟩ := g i oi e1 l1
    obtain ⟨o2, a2, b2⟩ := g j oj e2 l2
    exact ok.nd i j c o1 o2 a1 b1 a2 b2 r1 r2
  · by_cases q : n = i
    · subst q
      rw [List.getElem?_set_self (lt_get e)] at e1
      cases e1
      rw [ea] at e2
      cases e2
      exact hat
    · rw [List.getElem?_set_ne q] at e1
      refine OAt.keep k (fun hlo u eu => ?_) (ok.at_ i o c e1 e2)
      have : c ≠ a := fun z => by subst z; exact q (ok.nd n i c ob o e hl e1 hlo ea e2)
      rw [upd_ne this]; exact eu
/-- an owned object is frozen -/
theorem Ok.freeze (ok : Ok K H ρ oh Y) {n : Nat} {ob : OO} (e : oh[n]? = some ob) : Ok K H ρ (oh.set n (.frz ob.dat)) Y ∧ Stp H ρ oh H ρ (oh.set n (.frz ob.dat)) := by
  obtain ⟨a, ea⟩ := ok.addr e
  have zl : ∀ b, Zn ρ (oh.set n (.frz ob.dat)) Y b → Zn ρ oh Y b := fun b => by
    rintro (q | q)
    · exact .inl (liv_set e (fun z => by cases z) q)
    · exact .inr q
  refine ⟨⟨by simp [ok.len], fun i j c oi oj e1 l1 e2 l2 r1 r2 => ?_, fun i o c e1 e2 => ?_, fun c y l => ok.yl c y (liv_set e (fun z => by cases z) l), ok.yh⟩, ⟨fun _ _ _ q => .inl q, fun b l => .inl (liv_set e (fun z => by cases z) l), fun _ _ q => q, fun _ q => q⟩⟩
  · have g : ∀ (i : Nat) (o : OO), (oh.set n (.frz ob.dat))[i]? = some o → o.live = true → oh[i]? = some o := fun i o e1 l1 => by
      by_cases q : n = i
      · subst q
        rw [List.getElem?_set_self (lt_get e)] at e1
        cases e1
        cases l1
      · rw [List.getElem?_set_ne q] at e1; exact e1
    exact ok.nd i j c oi oj (g i oi e1 l1) l1 (g j oj e2 l2) l2 r1 r2
  · by_cases q : n = i
    · subst q
      rw [List.getElem?_set_self (lt_get e)] at e1
      cases e1
      rw [ea] at e2
      cases e2
      show Rp K H _ (.ref a) ob.dat
      cases hl : ob.live with
      | true =>
        refine (ok.at_ n ob a e ea).rpZ zl ?_
        rintro (z | z)
        · obtain ⟨i, o, a1, a2, a3⟩ := z
          by_cases q : n = i
          · subst q
            rw [List.getElem?_set_self (lt_get e)] at a1
            cases a1
            cases a2
          · rw [List.getElem?_set_ne q] at a1
            exact q (ok.nd n i a ob o e hl a1 a2 ea a3)
        · exact ok.yl a z ⟨n, ob, e, hl, ea⟩
      | false =>
        cases ob with
        | frz d => exact Rp.mono zl (ok.at_ n _ a e ea)
        | _ => cases hl
    · rw [List.getElem?_set_ne q] at e1
      exact (ok.at_ i o c e1 e2).mono zl
end
end Kd

namespace Kd
open PySem PySem.Spec PyProof.Rows L2

/-- a value that stands for a datum, its own place perhaps barred, its parts not -/
inductive RpT (K : PySem.W.Frag) (H : Hp) (Z : ZS) : V → D → Prop
  | non : RpT K H Z .non .none
  | bl (b : Bool) : RpT K H Z (.bl b) (.bool b)
  | int (i : Int) : RpT K H Z (.int i) (.int i)
  | str (x : Str) (h : SOk x) : RpT K H Z (.str x) (.str x)
  | lst {a : Addr} {xs : List V} {ds : List D} : Rd H a (.lst xs) → xs.length ≤ sizeLine → RpAll K H Z xs ds → RpT K H Z (.ref a) (.list ds)
  | tup {a : Addr} {xs : List V} {ds : List D} : TpR K H Z a xs → xs.length ≤ sizeLine → RpAll K H Z xs ds → RpT K H Z (.ref a) (.tuple ds)
  | dic {a : Addr} {kvs : List (Key × V)} {ds : List D} : Rd H a (.dK kvs) → (kvs.length ≤ sizeLine ∧ ∀ p ∈ kvs, KOk p.1) → RpAll K H Z (kvs.map (·.2)) ds → RpT K H Z (.ref a) (.dict ((kvs.map fun p => kD p.1).zip ds))
  | dit {a : Addr} {kvs : List (List Key × V)} {ds : List D} : Rd H a (.dT kvs) → (kvs.length ≤ sizeLine ∧ ∀ p ∈ kvs, ∀ k ∈ p.1, KOk k) → RpAll K H Z (kvs.map (·.2)) ds → RpT K H Z (.ref a) (.dict ((kvs.map fun p => kT p.1).zip ds))
  | scr {a : Addr} {xs : List V} {ds : List D} : SqL K H a xs → xs.length ≤ sizeLine → RpAll K H Z xs ds → RpT K H Z (.ref a) (scrD ds)
section
variable {K : PySem.W.Frag} {H H' : Hp} {Z Z' : ZS} {ρ : List Addr} {oh : OH} {Y : ZS}
theorem sq_none {a : Addr} {xs : List V} (h : SqL K (fun _ => none) a xs) : SqL K H a xs := by
  rcases h with (h | ⟨o, h⟩) | h
  · cases h
  · cases h
  · exact .inr h
theorem ScR.sq {a : Addr} {xs : List V} (h : ScR K H Z a xs) : SqL K H a xs := h.elim (fun q => .inl q.2) sq_none
theorem LsR.sq {a : Addr} {xs : List V} (h : LsR K H Z a xs) : SqL K H a xs := .inl h.2
theorem TpR.sq {a : Addr} {xs : List V} (h : TpR K H Z a xs) : SqT K H a xs := .inl (.inl h.2)
theorem Rp.top {v : V} {d : D} (h : Rp K H Z v d) : RpT K H Z v d := by
  cases h with
  | non => exact .non
  | bl b => exact .bl b
  | int i => exact .int i
  | str x h => exact .str x h
  | lst a b c => exact .lst a.2 b c
  | tup a b c => exact .tup a b c
  | dic n a b c => exact .dic a b c
  | dit n a b c => exact .dit a b c
  | scr a b c => exact .scr a.sq b c
theorem RpT.rp0 {v : V} {d : D} (h : RpT K H Z v d) : Rp K H Z0 v d := by
  cases h with
  | non => exact .non
  | bl b => exact .bl b
  | int i => exact .int i
  | str x h => exact .str x h
  | lst a b c => exact .lst ⟨fun z => z, a⟩ b (c.mono fun _ q => q.elim)
  | tup a b c => exact .tup ⟨fun z => z, a.2⟩ b (c.mono fun _ q => q.elim)
  | dic a b c => exact .dic (fun z => z) a b (c.mono fun _ q => q.elim)
  | dit a b c => exact .dit (fun z => z) a b (c.mono fun _ q => q.elim)
  | scr a b c =>
    refine .scr ?_ b (c.mono fun _ q => q.elim)
    rcases a with a | a
    · exact .inl ⟨fun z => z, a⟩
    · exact .inr (.inr a)
theorem OAt.rpT {a : Addr} {ob : OO} (h : OAt K H Z a ob) : RpT K H Z (.ref a) ob.dat := by
  cases ob with
  | lst ds =>
    obtain ⟨xs, e, z, r⟩ := h
    exact .lst (.inl e) z r
  | dK kvs =>
    obtain ⟨vs, e, z, ke, r⟩ := h
    have q : (kvs.map fun p => kD p.1) = vs.map fun p => kD p.1 := by
      have := congrArg (List.map kD) ke
      simp only [List.map_map] at this
      exact this.symm
    show RpT K H _ _ (.dict ((kvs.map fun p => kD p.1).zip (kvs.map (·.2))))
    rw [q]
    exact .dic (.inl e) z r
  | dT kvs =>
    obtain ⟨vs, e, z, ke, r⟩ := h
    have q : (kvs.map fun p => kT p.1) = vs.map fun p => kT p.1 := by
      have := congrArg (List.map kT) ke
      simp only [List.map_map] at this
      exact this.symm
    show RpT K H _ _ (.dict ((kvs.map fun p => kT p.1).zip (kvs.map (·.2))))
    rw [q]
    exact .dit (.inl e) z r
  | frz d => exact Rp.top h
theorem VR.rpT (ok : Ok K H ρ oh Y) {v : V} {r : Vl} {d : D} (h : VR K H ρ oh Y v r) (e : vdat oh r = some d) : RpT K H (Zn ρ oh Y) v d := by
  cases r with
  | d d' =>
    cases e
    exact Rp.top h
  | o n =>
    obtain ⟨a, rfl, q⟩ := h
    cases eo : oh[n]? with
    | none => simp [vdat, eo] at e
    | some ob =>
      simp [vdat, eo] at e
      subst e
      exact (ok.at_ n ob a eo q).rpT
  | l ns => cases e

/-! ### results of an operation -/
inductive Rs where
  | sh (d : D)
  | fr (ob : OO)
def Gr (H H' : Hp) : Prop := ∀ a o, H a = some o → H' a = some o
theorem Gr.refl (H : Hp) : Gr H H := fun _ _ h => h
theorem Gr.upd {p : Addr} {o : HO} (h : H p = none) : Gr H (upd H p o) := fun a u e => by rw [upd_ne (ne_of_none e h)]; exact e
theorem Gr.trans {H'' : Hp} (a : Gr H H') (b : Gr H' H'') : Gr H H'' := fun c o h => b c o (a c o h)
def RsQ (K : PySem.W.Frag) (H : Hp) (Z : ZS) (r : Rs) (Q : V → Hp → Prop) : Prop := match r with
  | .sh d => ∀ v H', Gr H H' → Rp K H' Z v d → Q v H'
  | .fr ob => ∀ p H', Gr H H' → H p = none → OAt K H' (fun a => Z a ∨ a = p) p ob → Q (.ref p) H'
def Dom (H : Hp) (Z : ZS) : Prop := ∀ a, Z a → Hd H a
theorem Dom.new {a : Addr} (dz : Dom H Z) (hp : H a = none) : ¬ Z a := fun z => by
  obtain ⟨u, e, _⟩ := dz a z
  rw [hp] at e; cases e
theorem Hd.gr {a : Addr} (g : Gr H H') (h : Hd H a) : Hd H' a := let ⟨u, e, t⟩ := h; ⟨u, g a u e, t⟩
theorem Kp.gr (g : Gr H H') (dz : Dom H Z) : Kp H H' Z Z := ⟨fun a u _ h => by
    rcases h with h | ⟨o, h⟩
    · exact .inl (g _ _ h)
    · exact .inr ⟨o, g _ _ h⟩, fun _ _ _ h => g _ _ h, fun _ _ n _ => n⟩
theorem Kp.new {p : Addr} (g : Gr H H') (hp : H p = none) : Kp H H' Z (fun a => Z a ∨ a = p) := ⟨fun a u _ h => by
    rcases h with h | ⟨o, h⟩
    · exact .inl (g _ _ h)
    · exact .inr ⟨o, g _ _ h⟩, fun _ _ _ h => g _ _ h, fun a u n h => by
    rintro (q | q)
    · exact n q
    · subst q
      obtain ⟨o, e⟩ := rd_some h
      rw [hp] at e; cases e⟩
theorem Ok.dom (ok : Ok K H ρ oh Y) : Dom H (Zn ρ oh Y) := fun a => by
  rintro (⟨i, ob, e1, e2, e3⟩ | q)
  · have := ok.at_ i ob a e1 e3
    cases ob with
    | lst ds => obtain ⟨_, e, _⟩ := this; exact ⟨_, e, rfl⟩
    | dK ds => obtain ⟨_, e, _⟩ := this; exact ⟨_, e, rfl⟩
    | dT ds => obtain ⟨_, e, _⟩ := this; exact ⟨_, e, rfl⟩
    | frz d => cases e2
  · exact ok.yh a q
/-- the heap has grown -/
theorem Ok.grow (ok : Ok K H ρ oh Y) (g : Gr H H') : Ok K H' ρ oh Y ∧ Stp H ρ oh H' ρ oh := by
  have st : Stp H ρ oh H' ρ oh := ⟨fun a o _ e => .inl (g a o e), fun _ l => .inl l, fun _ _ e => e, fun a e => e.gr g⟩
  exact ⟨⟨ok.len, ok.nd, fun i ob a e1 e2 => (ok.at_ i ob a e1 e2).keep (st.kp ok) fun _ o e => g a o e, ok.yl, fun a y => st.dom a (ok.yh a y)⟩, st⟩
/-- a new object, the heap perhaps grown besides -/
theorem Ok.allocG (ok : Ok K H ρ oh Y) {p : Addr} {ob : OO} (g : Gr H H') (hp : H p = none) (hlive : ob.live = true)
    (hat : OAt K H' (fun a => Zn ρ oh Y a ∨ a = p) p ob) : Ok K H' (ρ ++ [p]) (oh ++ [ob]) Y ∧ Stp H ρ oh H' (ρ ++ [p]) (oh ++ [ob]) := by
  have zle : ∀ b, Zn (ρ ++ [p]) (oh ++ [ob]) Y b → Zn ρ oh Y b ∨ b = p := fun b => by
    rintro (l | y)
    · rcases liv_snoc ok.len l with q | ⟨q, _⟩
      · exact .inl (.inl q)
      · exact .inr q
    · exact .inl (.inr y)
  have st : Stp H ρ oh H' (ρ ++ [p]) (oh ++ [ob]) := by
    refine ⟨fun a o _ e => .inl (g a o e), fun a l => ?_, fun n a e => ?_, fun a e => ?_⟩
    · rcases liv_snoc ok.len l with q | ⟨q, _⟩
      · exact .inl q
      · subst q; exact .inr hp
    · rw [List.getElem?_append_left (lt_get e)]; exact e
    · exact e.gr g
  have nlive : ¬ Liv ρ oh p := fun l => ok.dom.new hp (.inl l)
  refine ⟨⟨by simp [ok.len], ?_, ?_, ?_, fun a y => st.dom a (ok.yh a y)⟩, st⟩
  · intro i j a oi oj e1 l1 e2 l2 r1 r2
    have key : ∀ (k : Nat) (o : OO), (oh ++ [ob])[k]? = some o → o.live = true → (ρ ++ [p])[k]? = some a → (oh[k]? = some o ∧ ρ[k]? = some a) ∨ (k = oh.length ∧ a = p) := by
      intro k o h1 _ h3
      rcases Nat.lt_or_ge k oh.length with q | q
      · rw [List.getElem?_append_left q] at h1
        rw [List.getElem?_append_left (by have := ok.len; omega)] at h3
        exact .inl ⟨h1, h3⟩
      · rw [List.getElem?_append_right q] at h1
        rw [List.getElem?_append_right (by have := ok.len; omega), ok.len] at h3
        have : k - oh.length = 0 := by
          have := lt_get h1
          simp at this; omega
        rw [this] at h3
        simp at h3
        exact .inr ⟨by omega, h3.symm⟩
    rcases key i oi e1 l1 r1 with ⟨a1, b1⟩ | ⟨a1, b1⟩ <;> rcases key j oj e2 l2 r2 with ⟨a2, b2⟩ | ⟨a2, b2⟩
    · exact ok.nd i j a oi oj a1 l1 a2 l2 b1 b2
    · subst b2; exact absurd ⟨i, oi, a1, l1, b1⟩ nlive
    · subst b1; exact absurd ⟨j, oj, a2, l2, b2⟩ nlive
    · omega
  · intro i o a e1 e2
    rcases Nat.lt_or_ge i oh.length with q | q
    · rw [List.getElem?_append_left q] at e1
      rw [List.getElem?_append_left (by have := ok.len; omega)] at e2
      exact (ok.at_ i o a e1 e2).keep (st.kp ok) fun _ u e => g a u e
    · rw [List.getElem?_append_right q] at e1
      rw [List.getElem?_append_right (by have := ok.len; omega), ok.len] at e2
      have : i - oh.length = 0 := by
        have := lt_get e1
        simp at this; omega
      rw [this] at e1 e2
      simp at e1 e2
      subst e1 e2
      exact hat.mono zle
  · intro a y l
    rcases liv_snoc ok.len l with q | ⟨q, _⟩
    · exact ok.yl a y q
    · subst q; exact ok.dom.new hp (.inr y)

/-- what follows an operation's result -/
def fin (r : Rs) (oh : OH) (Q : Vl → OH → Prop) : Prop := match r with
  | .sh d => Q (.d d) oh
  | .fr ob => ob.live = true ∧ Q (.o oh.length) (oh ++ [ob])
theorem fin_ok (ok : Ok K H ρ oh Y) {r : Rs} {Qd : Vl → OH → Prop} {Q : V → Hp → Prop} (h : fin r oh Qd)
    (hq : ∀ v rr oh' H' ρ', Ok K H' ρ' oh' Y → Stp H ρ oh H' ρ' oh' → VR K H' ρ' oh' Y v rr → Qd rr oh' → Q v H') : RsQ K H (Zn ρ oh Y) r Q := by
  cases r with
  | sh d =>
    intro v H' g r
    obtain ⟨ok', st⟩ := ok.grow g
    exact hq v (.d d) oh H' ρ ok' st r h
  | fr ob =>
    intro p H' g hp hat
    obtain ⟨ok', st⟩ := ok.allocG g hp h.1 hat
    exact hq (.ref p) (.o oh.length) _ H' _ ok' st ⟨p, rfl, by rw [← ok.len]; simp⟩ h.2
end

/-! ### data read off the machine's heap -/
section
variable {X : Cx} {pins : List (Addr × Obj)} {σ : L2.St} {H : Hp} {s : Shared} {Z : ZS}
def noDict : D → Prop
  | .dict _ => False
  | _ => True
mutual
def flatDict : D → Bool
  | .dict _ => false
  | .list xs => flatDictAll xs
  | .tuple xs => flatDictAll xs
  | _ => true
def flatDictAll : List D → Bool
  | [] => true
  | x :: xs => flatDict x && flatDictAll xs
end
mutual
theorem Rp.reads (I : Inv X pins σ H s) : ∀ (d : D) (v : V) (u : Value), Rp X.K H Z v d → RelV v u → flatDict d = true → ∃ as, Reads s.heap u d as
  | .none, _, _, h, r, _ => by
    cases h
    cases r
    exact ⟨_, Reads.none⟩
  | .bool b, _, _, h, r, _ => by
    cases h
    cases r
    exact ⟨_, Reads.bool b⟩
  | .int i, _, _, h, r, _ => by
    cases h
    obtain ⟨t, rfl⟩ := r
    exact ⟨_, Reads.int i t⟩
  | .str x, _, _, h, r, _ => by
    cases h
    obtain ⟨t, rfl⟩ := r
    exact ⟨_, Reads.str x t⟩
  | .list ds, _, _, h, r, f => by
    cases h with
    | lst hs _ ha =>
      cases r
      obtain ⟨its, rv, ⟨o, n, ho, hc, _, hd⟩, _⟩ := I.list hs.sq
      obtain ⟨as, hr⟩ := Rp.readsAll I ds _ its ha rv (by simpa [flatDict] using f)
      exact ⟨_, Reads.list ho hc hd hr⟩
  | .tuple ds, _, _, h, r, f => by
    cases h with
    | tup hs _ ha =>
      cases r
      obtain ⟨its, rv, ⟨o, ho, hc, n, hd⟩, _⟩ := I.tuple hs.sq
      obtain ⟨as, hr⟩ := Rp.readsAll I ds _ its ha rv (by simpa [flatDict] using f)
      exact ⟨_, Reads.tuple ho hc hd hr⟩
  | .dict _, _, _, h, _, f => by cases f
theorem Rp.readsAll (I : Inv X pins σ H s) : ∀ (ds : List D) (vs : List V) (us : List Value), RpAll X.K H Z vs ds → Vals vs us → flatDictAll ds = true → ∃ as, ReadsAll s.heap us ds as
  | [], _, _, h, r, _ => by
    cases h
    cases r
    exact ⟨_, ReadsAll.nil⟩
  | d :: ds, _, _, h, r, f => by
    cases h with
    | cons h1 h2 =>
      cases r with
      | cons r1 r2 =>
        simp only [flatDictAll, Bool.and_eq_true] at f
        obtain ⟨as, q1⟩ := Rp.reads I d _ _ h1 r1 f.1
        obtain ⟨bs, q2⟩ := Rp.readsAll I ds _ _ h2 r2 f.2
        exact ⟨_, ReadsAll.cons q1 q2⟩
end
end
end Kd

namespace Kd
open PySem PySem.Spec PyProof.Rows L2

/-! ### binary operators -/
def binD : Operator → D → D → Option Rs
  | .Add, .int i, .int j => some (.sh (.int (i + j)))
  | .Add, .str a, .str b => if a.length + b.length ≤ sizeLine then some (.sh (.str (a ++ b))) else none
  | .Add, .list xs, .list ys => if xs.length + ys.length ≤ sizeLine then some (.fr (.lst (xs ++ ys))) else none
  | .Add, .tuple xs, .tuple ys => if xs.length + ys.length ≤ sizeLine then some (.sh (.tuple (xs ++ ys))) else none
  | .Sub, .int i, .int j => some (.sh (.int (i - j)))
  | .Mult, .int i, .int j => if (-(2 ^ 64) < i ∧ i < 2 ^ 64) ∨ (-(2 ^ 64) < j ∧ j < 2 ^ 64) then some (.sh (.int (i * j))) else none
  | .Mult, .tuple xs, .int k => if xs.length ≠ 0 ∧ 1 ≤ k ∧ k ≤ 1000 ∧ xs.length ≤ 1000 then some (.sh (.tuple (List.replicate k.toNat xs).flatten)) else none
  | .FloorDiv, .int i, .int j => if j ≠ 0 ∧ j.natAbs < 1073741824 then some (.sh (.int (i.fdiv j))) else none
  | .Mod, .int i, .int j => if j ≠ 0 then some (.sh (.int (i.fmod j))) else none
  | .Pow, .int i, .int j => if 0 ≤ j ∧ j ≤ 1000000 ∧ i.natAbs < 2 ^ 64 then some (.sh (.int (i ^ j.toNat))) else none
  | .LShift, .int i, .int j => if 0 ≤ j ∧ j ≤ 1000000 ∧ i.natAbs < 2 ^ 64 then some (.sh (.int (i * 2 ^ j.toNat))) else none
  | .RShift, .int i, .int j => if 0 ≤ j then some (.sh (.int (i / 2 ^ j.toNat))) else none
  | .BitAnd, .int i, .int j => some (.sh (.int (Builtin.bitAnd i j)))
  | _, _, _ => none

theorem strOk_app {a b : Str} (h1 : PyData.strOk a = true) (h2 : PyData.strOk b = true) : PyData.strOk (a ++ b) = true := by
  have e : (a ++ b).cps = a.cps ++ b.cps := rfl
  unfold PyData.strOk at *
  rw [e, Array.all_append, h1, h2]
  rfl
theorem len_app (a b : Str) : (a ++ b).length = a.length + b.length := by
  show (a.cps ++ b.cps).size = _
  rw [Array.size_append]
  rfl
section
variable {X : Cx}
theorem Inv.lstR {pins : List (Addr × Obj)} {σ : L2.St} {H : Hp} {s : Shared} {l : Addr} {xs : List V} (I : Inv X pins σ H s) (hH : Rd H l (.lst xs)) :
    xs.length ≤ sizeLine ∧ ∃ (its : List Value) (n : Nat), Vals xs its ∧ xs.length = its.length ∧ s.heap.get? l = some { cls := .type "list", data := .seq its.toArray n } := by
  obtain ⟨z, its, n, r, e⟩ := hH.ok I.hok
  exact ⟨z, its, n, r, r.length, e⟩
theorem op_catR : OpR X (binaryOp .Add) (fun x y H Q => ∃ l b xs zs, x = .ref l ∧ y = .ref b ∧ Rd H l (.lst xs) ∧ Rd H b (.lst zs) ∧ xs.length + zs.length ≤ sizeLine ∧ ∀ p, H p = none → Q (.ref p) (upd H p (.lst (xs ++ zs)))) := by
  intro pins s σ H x y v u Q I rx ry h
  obtain ⟨l, b, xs, zs, rfl, rfl, hH, hB, hz, q⟩ := h
  cases rx
  cases ry
  obtain ⟨z, its, n, r, hl, e⟩ := Inv.lstR I hH
  obtain ⟨z2, its2, n2, r2, hl2, e2⟩ := Inv.lstR I hB
  refine PySem.P.add_list e e2 ?_ (by rw [List.size_toArray, List.size_toArray]; omega)
  have ea : its.toArray ++ its2.toArray = (its ++ its2).toArray := by simp
  rw [ea]
  exact ⟨.ref _, _, I.lnew (t' := s.toks) (r.append r2) (by rw [List.length_append]; omega), rfl, q _ I.fresh⟩
theorem RpAll.flat {K : PySem.W.Frag} {H : Hp} {Z : ZS} {xs : List V} {ds : List D} (h : RpAll K H Z xs ds) : ∀ n : Nat, RpAll K H Z (List.replicate n xs).flatten (List.replicate n ds).flatten
  | 0 => .nil
  | n + 1 => by
    simp only [List.replicate_succ, List.flatten_cons]
    exact h.append (RpAll.flat h n)

theorem newL {K : PySem.W.Frag} {H : Hp} {Z : ZS} {xs : List V} {ds : List D} {p : Addr} (hp : H p = none) (hl : xs.length ≤ sizeLine) (h : RpAll K H Z xs ds) : OAt K (upd H p (.lst xs)) (fun a => Z a ∨ a = p) p (.lst ds) :=
  ⟨xs, upd_same, hl, h.keep (Kp.new (Gr.upd hp) hp)⟩
theorem newT {K : PySem.W.Frag} {H : Hp} {Z : ZS} {xs : List V} {ds : List D} {p : Addr} (dz : Dom H Z) (hp : H p = none) (hl : xs.length ≤ sizeLine) (h : RpAll K H Z xs ds) : Rp K (upd H p (.tup xs)) Z (.ref p) (.tuple ds) :=
  .tup ⟨dz.new hp, upd_same⟩ hl (h.keep (Kp.gr (Gr.upd hp) dz))
/-- what an operation on two values asks -/
def rBin (K : PySem.W.Frag) (f : D → D → Option Rs) : R2 := fun x y H Q => ∃ Z dx dy r, RpT K H Z x dx ∧ RpT K H Z y dy ∧ Dom H Z ∧ f dx dy = some r ∧ RsQ K H Z r Q
theorem tuple_mul1 (l : Addr) (items : Array Value) (n : Nat) (dd : Option Addr) (sl : Array (Option Value)) (u : Tok) :
    Meets (Builtin.«tuple.__mul__» ⟨[.ref l, .int 1 u], []⟩) (fun _ R s => s.heap.get? l = some { cls := .type "tuple", dict := dd, data := .seq items n, slots := sl } ∧ R (.ok (.ret (Value.ref l))) s) :=
  .of_wp fun prog w A R s h => by
    obtain ⟨hp, g, d, tk, os⟩ := s
    obtain ⟨hl, h⟩ := h
    have f1 := AutoSeq1.idx_int
    wp_walk using AutoSeq1.wpAny_loadPart' hl
    repeat (first
      | (refine wpAny_ite_true (decide_eq_true (by simp)) ?_; wp_walk using AutoSeq1.wpAny_loadPart' hl)
      | (refine wpAny_ite_false (decide_eq_false (by simp)) ?_; wp_walk using AutoSeq1.wpAny_loadPart' hl))
    exact ⟨_, rfl, h⟩
theorem op_repT1 : OpR X (binaryOp .Mult) (fun x y H Q => ∃ l xs, x = .ref l ∧ y = .int 1 ∧ SqT X.K H l xs ∧ Q (.ref l) H) := by
  intro pins s σ H x y v u Q I rx ry h
  obtain ⟨l, xs, rfl, rfl, hT, q⟩ := h
  cases rx
  obtain ⟨t, rfl⟩ := ry
  obtain ⟨its, r, ⟨⟨cls, dd, data, sl⟩, ho, hc, n, hd⟩, hs⟩ := I.tuple hT
  simp only at hc hd
  subst hc hd
  refine wpAny_binaryOp_repeat_ref (T := "tuple") (U := "int") (by decide) ⟨_, ho, rfl⟩ (fun s' => typeIs_int s' 1 t) noFill_tuple_mul F.fills_int_mul F.slot_int_rmul repeat_tuple F.slot_int_index.lookup
    (call_meets F.slot_int_rmul (typeIs_int s 1 t) F.entry_int_rmul (F.args_int_rmul_2 _ _) (int_rmul_tuple 1 t l its.toArray n dd sl)
      ⟨ho, rfl, ⟨_, ho, rfl⟩, call_meets F.slot_tuple_mul ⟨_, ho, rfl⟩ F.entry_tuple_mul (F.args_tuple_mul_2 _ _) (tuple_mul1 l its.toArray n dd sl t) ⟨ho, ?_⟩⟩)
  exact ⟨.ref l, H, I, rfl, q⟩
theorem op_bin (op : Operator) : OpR X (binaryOp op) (rBin X.K (binD op)) := by
  intro pins s σ H x y v u Q I rx ry h
  obtain ⟨Z, dx, dy, r, hx, hy, dz, hr, q⟩ := h
  unfold binD at hr
  split at hr
  · cases hr; cases hx; cases hy
    exact op_add pins s σ H _ _ v u Q I rx ry ⟨_, _, rfl, rfl, q _ H (Gr.refl H) (.int _)⟩
  · split at hr
    · rename_i c
      cases hr
      cases hx with
      | str _ o1 =>
        cases hy with
        | str _ o2 => exact op_add_str pins s σ H _ _ v u Q I rx ry ⟨_, _, rfl, rfl, c, q _ H (Gr.refl H) (.str _ ⟨strOk_app o1.1 o2.1, by rw [len_app]; exact c⟩)⟩
    · cases hr
  · split at hr
    · rename_i c
      cases hr
      cases hx with
      | lst a1 a2 a3 =>
        cases hy with
        | lst b1 b2 b3 =>
          have l1 := a3.length
          have l2 := b3.length
          exact op_catR pins s σ H _ _ v u Q I rx ry ⟨_, _, _, _, rfl, rfl, a1, b1, by omega, fun p hp => q p _ (Gr.upd hp) hp (newL hp (by rw [List.length_append]; omega) (a3.append b3))⟩
    · cases hr
  · split at hr
    · rename_i c
      cases hr
      cases hx with
      | tup a1 a2 a3 =>
        cases hy with
        | tup b1 b2 b3 =>
          have l1 := a3.length
          have l2 := b3.length
          refine op_catA pins s σ H _ _ v u Q I rx ry ⟨_, _, _, _, rfl, rfl, a1.sq, b1.sq, by omega, fun e => ?_, fun _ e => ?_, fun _ _ p hp => ?_⟩
          · subst e; cases a3
            exact q _ H (Gr.refl H) (.tup b1 b2 b3)
          · subst e; cases b3
            rw [List.append_nil] at q
            exact q _ H (Gr.refl H) (.tup a1 a2 a3)
          · exact q _ _ (Gr.upd hp) (newT dz hp (by rw [List.length_append]; omega) (a3.append b3))
    · cases hr
  · cases hr; cases hx; cases hy
    exact op_sub pins s σ H _ _ v u Q I rx ry ⟨_, _, rfl, rfl, q _ H (Gr.refl H) (.int _)⟩
  · split at hr
    · rename_i c
      cases hr; cases hx; cases hy
      exact op_mul pins s σ H _ _ v u Q I rx ry ⟨_, _, rfl, rfl, c, q _ H (Gr.refl H) (.int _)⟩
    · cases hr
  · split at hr
    · rename_i c
      cases hr
      cases hy
      cases hx with
      | tup a1 a2 a3 =>
        rename_i ds k ad xs
        have l1 := a3.length
        by_cases e : k = 1
        · subst e
          have ef : (List.replicate (1 : Int).toNat ds).flatten = ds := by simp
          rw [ef] at q
          exact op_repT1 pins s σ H _ _ v u Q I rx ry ⟨_, _, rfl, rfl, a1.sq, q _ H (Gr.refl H) (.tup a1 a2 a3)⟩
        · refine op_repT pins s σ H _ _ v u Q I rx ry ⟨_, _, _, rfl, rfl, a1.sq, fun z => ?_, by omega, by omega, by omega, fun p hp => q _ _ (Gr.upd hp) (newT dz hp ?_ (a3.flat _))⟩
          · subst z
            simp at l1
            omega
          · rw [PyProof.Rows.lm_len_rep_flat, sizeLine_eq]
            have b1 : k.toNat * xs.length ≤ 1000 * 1000 := Nat.mul_le_mul (by omega) (by omega)
            omega
    · cases hr
  · split at hr
    · rename_i c
      cases hr; cases hx; cases hy
      exact op_fdivN pins s σ H _ _ v u Q I rx ry ⟨_, _, rfl, rfl, c, q _ H (Gr.refl H) (.int _)⟩
    · cases hr
  · split at hr
    · rename_i c
      cases hr; cases hx; cases hy
      exact op_modN pins s σ H _ _ v u Q I rx ry ⟨_, _, rfl, rfl, c, q _ H (Gr.refl H) (.int _)⟩
    · cases hr
  · split at hr
    · rename_i c
      cases hr; cases hx; cases hy
      exact op_pow pins s σ H _ _ v u Q I rx ry ⟨_, _, rfl, rfl, c, q _ H (Gr.refl H) (.int _)⟩
    · cases hr
  · split at hr
    · rename_i c
      cases hr; cases hx; cases hy
      exact op_shl pins s σ H _ _ v u Q I rx ry ⟨_, _, rfl, rfl, c, q _ H (Gr.refl H) (.int _)⟩
    · cases hr
  · split at hr
    · rename_i c
      cases hr; cases hx; cases hy
      exact op_shr pins s σ H _ _ v u Q I rx ry ⟨_, _, rfl, rfl, c, q _ H (Gr.refl H) (.int _)⟩
    · cases hr
  · cases hr; cases hx; cases hy
    exact op_and pins s σ H _ _ v u Q I rx ry ⟨_, _, rfl, rfl, q _ H (Gr.refl H) (.int _)⟩
  · cases hr
end
end Kd

namespace Kd
open PySem PySem.Spec PyProof.Rows L2

section
variable {K : PySem.W.Frag} {H : Hp} {Z : ZS}
mutual
theorem Rp.lay : ∀ (d : D) (v : V), Rp K H Z v d → flatDict d = true → d.canLay0 = true
  | .none, _, _, _ => rfl
  | .bool _, _, _, _ => rfl
  | .int _, _, _, _ => rfl
  | .str x, _, h, _ => by cases h with | str _ o => exact o.1
  | .list ds, _, h, f => by cases h with | lst _ _ r => exact RpAll.lay ds _ r (by simpa [flatDict] using f)
  | .tuple ds, _, h, f => by cases h with | tup _ _ r => exact RpAll.lay ds _ r (by simpa [flatDict] using f)
  | .dict _, _, _, f => by cases f
theorem RpAll.lay : ∀ (ds : List D) (vs : List V), RpAll K H Z vs ds → flatDictAll ds = true → PyData.canLayAll0 ds = true
  | [], _, _, _ => rfl
  | d :: ds, _, h, f => by
    cases h with
    | cons a b =>
      simp only [flatDictAll, Bool.and_eq_true] at f
      simp only [PyData.canLayAll0, Bool.and_eq_true]
      exact ⟨Rp.lay d _ a f.1, RpAll.lay ds _ b f.2⟩
end
end

/-! ### comparisons -/
def strIn (x y : Str) : Bool := match x.cps.toList with
  | [c] => decide (c ∈ y.cps.toList)
  | _ => !(Builtin.Str.occurrences y x 0 y.length 1).isEmpty
def notNone : D → Bool
  | .none => false
  | _ => true
/-- two data that == can compare -/
def canEq (a b : D) : Bool := flatDict a && flatDict b && decide (a.depth ≤ 64)
def canLt (a b : D) : Bool := flatDict a && flatDict b && PySem.W.alike a b && notNone a && decide (a.depth ≤ 64)
def keyOf : D → Option Key
  | .int i => some (.inl i)
  | .str x => some (.inr x)
  | _ => none
def keysOf : List D → Option (List Key)
  | [] => some []
  | d :: ds => match keyOf d, keysOf ds with
    | some k, some ks => some (k :: ks)
    | _, _ => none
def hasKey (kvs : List (D × D)) (k : D) : Bool := kvs.any fun p => PyData.eqv p.1 k
def isKey : D → Bool
  | .int _ => true
  | .str _ => true
  | _ => false
/-- a dict's items, its keys ints and texts -/
def dkOf : List (D × D) → Option (List (Key × D))
  | [] => some []
  | (k, v) :: r => match keyOf k, dkOf r with
    | some k, some r => some ((k, v) :: r)
    | _, _ => none
def lookK {κ : Type} [DecidableEq κ] (kvs : List (κ × D)) (k : κ) : Option D := (kvs.find? fun p => decide (p.1 = k)).map (·.2)
def inDk (k : Option Key) (l : Option (List (Key × D))) : Option Bool := match k, l with
  | some k, some (p :: l) => some (lookK (p :: l) k).isSome
  | _, _ => none
def inD (x : D) : D → Option Bool
  | .str y => match x with
    | .str x => some (strIn x y)
    | _ => none
  | .list ds => if flatDict x && flatDictAll ds && decide (x.depth ≤ 64) then some (ds.any fun z => PyData.eqv z x) else none
  | .tuple ds => if flatDict x && flatDictAll ds && decide (x.depth ≤ 64) then some (ds.any fun z => PyData.eqv z x) else none
  | .dict kvs => inDk (keyOf x) (dkOf kvs)
  | _ => none
def isD (x : D) : D → Option Bool
  | .none => some (!notNone x)
  | .bool b => match x with
    | .bool a => some (decide (a = b))
    | _ => none
  | _ => none
def cmpD : CmpOp → D → D → Option Bool
  | .Eq, a, b => if canEq a b then some (PyData.eqv a b) else none
  | .NotEq, a, b => if canEq a b then some (!PyData.eqv a b) else none
  | .Lt, a, b => if canLt a b then some (PySem.W.dataLt a b) else none
  | .Gt, a, b => if canLt a b then some (PySem.W.dataLt b a) else none
  | .LtE, a, b => if canLt a b then some (!PySem.W.dataLt b a) else none
  | .GtE, a, b => if canLt a b then some (!PySem.W.dataLt a b) else none
  | .In, a, b => inD a b
  | .NotIn, a, b => (inD a b).map (!·)
  | .Is, a, b => isD a b
  | .IsNot, a, b => (isD a b).map (!·)

section
variable {κ : Type} [DecidableEq κ] {K : PySem.W.Frag} {H : Hp} {Z : ZS}
theorem look_rp (k : κ) : ∀ {vs : List (κ × V)} {kvs : List (κ × D)}, vs.map (·.1) = kvs.map (·.1) → RpAll K H Z (vs.map (·.2)) (kvs.map (·.2)) →
    (lookK kvs k = none ∧ valV vs k = none) ∨ ∃ d v, lookK kvs k = some d ∧ valV vs k = some v ∧ Rp K H Z v d
  | [], [], _, _ => .inl ⟨rfl, rfl⟩
  | [], _ :: _, h, _ => by simp at h
  | _ :: _, [], h, _ => by simp at h
  | (a, v) :: vs, (b, d) :: kvs, h, r => by
    simp only [List.map_cons, List.cons.injEq] at h
    cases r with
    | cons r1 r2 =>
      obtain ⟨e, h2⟩ := h
      subst e
      by_cases q : a = k
      · right
        refine ⟨d, v, ?_, ?_, r1⟩
        · simp [lookK, List.find?_cons, q]
        · simp [valV, List.find?_cons, q]
      · have e1 : lookK ((a, d) :: kvs) k = lookK kvs k := by simp [lookK, List.find?_cons, q]
        have e2 : valV ((a, v) :: vs) k = valV vs k := by simp [valV, List.find?_cons, q]
        rw [e1, e2]
        exact look_rp k h2 r2
end
section
variable {K : PySem.W.Frag} {H : Hp} {Z : ZS}
theorem rpt_key {v : V} {d : D} {k : Key} (h : RpT K H Z v d) (e : keyOf d = some k) : v = kV k := by
  unfold keyOf at e
  split at e
  · cases e; cases h; rfl
  · cases e; cases h; rfl
  · cases e
theorem key_kD (k : Key) : keyOf (kD k) = some k := by cases k <;> rfl
theorem dk_dic : ∀ (kvs : List (Key × V)) (ds : List D), kvs.length = ds.length → ∃ l, dkOf ((kvs.map fun p => kD p.1).zip ds) = some l ∧ kvs.map (·.1) = l.map (·.1) ∧ l.map (·.2) = ds
  | [], [], _ => ⟨[], rfl, rfl, rfl⟩
  | [], _ :: _, h => by simp at h
  | _ :: _, [], h => by simp at h
  | (k, v) :: kvs, d :: ds, h => by
    obtain ⟨l, e, h1, h2⟩ := dk_dic kvs ds (by simpa using h)
    refine ⟨(k, d) :: l, ?_, by simp [h1], by simp [h2]⟩
    simp only [List.map_cons, List.zip_cons_cons, dkOf, key_kD, e]
/-- a dict whose keys are ints and texts -/
theorem RpT.dk {v : V} {kvs : List (D × D)} {l : List (Key × D)} (h : RpT K H Z v (.dict kvs)) (e : dkOf kvs = some l) (hne : l ≠ []) : ∃ a vs, v = .ref a ∧ Rd H a (.dK vs) ∧ vs.map (·.1) = l.map (·.1) ∧ RpAll K H Z (vs.map (·.2)) (l.map (·.2)) := by
  generalize ed : PyData.dict kvs = dd at h
  cases h with
  | @dic a vs ds h1 h2 h3 =>
    injection ed with e1
    subst e1
    have hl := h3.length
    obtain ⟨l', e2, h4, h5⟩ := dk_dic vs ds (by simpa using hl)
    rw [e2] at e
    cases e
    exact ⟨a, vs, rfl, h1, h4, by rw [h5]; exact h3⟩
  | @dit a vs ds h1 h2 h3 =>
    exfalso
    injection ed with e1
    subst e1
    cases vs with
    | nil => simp [dkOf] at e; exact hne e
    | cons p vs =>
      cases ds with
      | nil => simp [dkOf] at e; exact hne e
      | cons d ds => simp [dkOf, kT, keyOf] at e
  | scr a b c =>
    exfalso
    cases ed
    simp [dkOf, keyOf] at e
  | _ => cases ed
end
theorem sign_of {xx : Str} {c : Nat} (e : xx.cps.toList = [c]) : xx = ⟨#[c]⟩ := by
  obtain ⟨a⟩ := xx
  simp only at e
  congr
  exact Array.toList_inj.mp e
theorem op_strIn {X : Cx} : OpR X (compareOp .In) (fun x y H Q => ∃ a b, x = .str a ∧ y = .str b ∧ Q (.bl (strIn a b)) H) := by
  intro pins s σ H x y v u Q I rx ry h
  obtain ⟨a, b, rfl, rfl, q⟩ := h
  unfold strIn at q
  split at q
  · rename_i c e
    exact op_in_sign pins s σ H _ _ v u Q I rx ry ⟨_, _, by rw [sign_of e], rfl, q⟩
  · exact op_in_str pins s σ H _ _ v u Q I rx ry ⟨_, _, rfl, rfl, q⟩
theorem op_strNotIn {X : Cx} : OpR X (compareOp .NotIn) (fun x y H Q => ∃ a b, x = .str a ∧ y = .str b ∧ Q (.bl (!strIn a b)) H) := by
  intro pins s σ H x y v u Q I rx ry h
  obtain ⟨a, b, rfl, rfl, q⟩ := h
  unfold strIn at q
  split at q
  · rename_i c e
    exact op_notIn_sign pins s σ H _ _ v u Q I rx ry ⟨_, _, by rw [sign_of e], rfl, q⟩
  · exact op_notin_str pins s σ H _ _ v u Q I rx ry ⟨_, _, rfl, rfl, q⟩
def rCmp (K : PySem.W.Frag) (op : CmpOp) : R2 := fun x y H Q => ∃ Z dx dy b, RpT K H Z x dx ∧ RpT K H Z y dy ∧ cmpD op dx dy = some b ∧ Q (.bl b) H
section
variable {X : Cx} {pins : List (Addr × Obj)} {σ : L2.St} {H : Hp} {s : Shared} {Z : ZS}
theorem RpT.reads (I : Inv X pins σ H s) {d : D} {v : V} {u : Value} (h : RpT X.K H Z v d) (r : RelV v u) (f : flatDict d = true) : (∃ as, Reads s.heap u d as) ∧ d.canLay0 = true :=
  ⟨Rp.reads I d v u h.rp0 r f, Rp.lay d v h.rp0 f⟩
theorem notNone_ne {d : D} (h : notNone d = true) : d ≠ .none := fun e => by subst e; cases h
theorem op_cmp (hu : X.A.units + 65 < cLine) (op : CmpOp) : OpR X (compareOp op) (rCmp X.K op) := by
  intro pins s σ H x y v u Q I rx ry h
  obtain ⟨Z, dx, dy, b, hx, hy, hr, q⟩ := h
  have room : ∀ d : D, d.depth ≤ 64 → ∀ n : Nat, X.A.units + min d.depth n < cLine := fun d hd n => by
    have : min d.depth n ≤ d.depth := Nat.min_le_left _ _
    omega
  have roomI : ∀ d : D, d.depth ≤ 64 → ∀ n : Nat, X.A.units + 1 + min n d.depth < cLine := fun d hd n => by
    have : min n d.depth ≤ d.depth := Nat.min_le_right _ _
    omega
  have hin : ∀ c, inD dx dy = some c → (op = .In ∧ b = c ∨ op = .NotIn ∧ b = !c) → wpAny (model X.prog X.w) X.A (compareOp op v u) (EP X pins σ Q) X.xe s := by
    intro c hc ho
    unfold inD at hc
    split at hc
    · split at hc
      · cases hc
        cases hx; cases hy
        rcases ho with ⟨rfl, rfl⟩ | ⟨rfl, rfl⟩
        · exact op_strIn pins s σ H _ _ v u Q I rx ry ⟨_, _, rfl, rfl, q⟩
        · exact op_strNotIn pins s σ H _ _ v u Q I rx ry ⟨_, _, rfl, rfl, q⟩
      · cases hc
    · split at hc
      · rename_i cc
        simp only [Bool.and_eq_true, decide_eq_true_eq] at cc
        cases hc
        obtain ⟨⟨as, r1⟩, l1⟩ := RpT.reads I hx rx cc.1.1
        obtain ⟨⟨bs, r2⟩, l2⟩ := RpT.reads I hy ry (by simpa [flatDict] using cc.1.2)
        rcases ho with ⟨rfl, rfl⟩ | ⟨rfl, rfl⟩
        · exact SeqAt.in_list_reads r2 r1 l2 l1 (roomI _ cc.2 _) ⟨.bl _, H, I, rfl, q⟩
        · exact SeqAt.notIn_list_reads r2 r1 l2 l1 (roomI _ cc.2 _) ⟨.bl _, H, I, rfl, q⟩
      · cases hc
    · split at hc
      · rename_i cc
        simp only [Bool.and_eq_true, decide_eq_true_eq] at cc
        cases hc
        obtain ⟨⟨as, r1⟩, l1⟩ := RpT.reads I hx rx cc.1.1
        obtain ⟨⟨bs, r2⟩, l2⟩ := RpT.reads I hy ry (by simpa [flatDict] using cc.1.2)
        rcases ho with ⟨rfl, rfl⟩ | ⟨rfl, rfl⟩
        · exact SeqAt.in_tuple_reads r2 r1 l2 l1 (roomI _ cc.2 _) ⟨.bl _, H, I, rfl, q⟩
        · exact SeqAt.notIn_tuple_reads r2 r1 l2 l1 (roomI _ cc.2 _) ⟨.bl _, H, I, rfl, q⟩
      · cases hc
    · unfold inDk at hc
      split at hc
      · rename_i k p l ek el
        cases hc
        obtain ⟨a, vs, rfl, hr1, h1, h2⟩ := RpT.dk hy el (fun z => nomatch z)
        have ex := rpt_key hx ek
        cases ry
        have g : DGet H a x (valV vs k) := .inl ⟨vs, k, hr1, ex, rfl⟩
        have hs : (lookK (p :: l) k).isSome = (valV vs k).isSome := by
          rcases look_rp k h1 h2 with ⟨e1, e2⟩ | ⟨d, v, e1, e2, _⟩
          · rw [e1, e2]; rfl
          · rw [e1, e2]; rfl
        rw [hs] at ho
        have hu1 : X.A.units + 1 < cLine := by omega
        rcases ho with ⟨rfl, rfl⟩ | ⟨rfl, rfl⟩
        · exact d_in hu1 I g rx fun s' I' => ⟨.bl _, H, I', rfl, q⟩
        · exact d_notIn hu1 I g rx fun s' I' => ⟨.bl _, H, I', rfl, q⟩
      · cases hc
    · cases hc
  have his : ∀ c, isD dx dy = some c → (op = .Is ∧ b = c ∨ op = .IsNot ∧ b = !c) → wpAny (model X.prog X.w) X.A (compareOp op v u) (EP X pins σ Q) X.xe s := by
    intro c hc ho
    unfold isD at hc
    split at hc
    · cases hy
      cases hc
      have e : decide (x = V.non) = !notNone dx := by
        cases hx <;> simp [notNone, scrD]
      rcases ho with ⟨rfl, rfl⟩ | ⟨rfl, rfl⟩
      · exact op_isN pins s σ H _ _ v u Q I rx ry ⟨rfl, by rw [e]; exact q⟩
      · exact op_notN pins s σ H _ _ v u Q I rx ry ⟨rfl, by rw [e]; exact q⟩
    · split at hc
      · cases hc
        cases hx; cases hy
        rcases ho with ⟨rfl, rfl⟩ | ⟨rfl, rfl⟩
        · exact op_isBl pins s σ H _ _ v u Q I rx ry ⟨_, _, rfl, rfl, q⟩
        · exact op_notBl pins s σ H _ _ v u Q I rx ry ⟨_, _, rfl, rfl, q⟩
      · cases hc
    · cases hc
  unfold cmpD at hr
  split at hr
  · split at hr
    · rename_i c
      simp only [canEq, Bool.and_eq_true, decide_eq_true_eq] at c
      cases hr
      obtain ⟨⟨as, r1⟩, l1⟩ := RpT.reads I hx rx c.1.1
      obtain ⟨⟨bs, r2⟩, l2⟩ := RpT.reads I hy ry c.1.2
      exact SeqAt.compareEq_reads r1 r2 l1 l2 (room _ c.2 _) ⟨.bl _, H, I, rfl, q⟩
    · cases hr
  · split at hr
    · rename_i c
      simp only [canEq, Bool.and_eq_true, decide_eq_true_eq] at c
      cases hr
      obtain ⟨⟨as, r1⟩, l1⟩ := RpT.reads I hx rx c.1.1
      obtain ⟨⟨bs, r2⟩, l2⟩ := RpT.reads I hy ry c.1.2
      exact SeqAt.compareNe_reads r1 r2 l1 l2 (room _ c.2 _) ⟨.bl _, H, I, rfl, q⟩
    · cases hr
  · split at hr
    · rename_i c
      simp only [canLt, Bool.and_eq_true, decide_eq_true_eq] at c
      cases hr
      obtain ⟨⟨as, r1⟩, l1⟩ := RpT.reads I hx rx c.1.1.1.1
      obtain ⟨⟨bs, r2⟩, l2⟩ := RpT.reads I hy ry c.1.1.1.2
      exact PySem.W.lt_data r1 r2 c.1.1.2 (notNone_ne c.1.2) (room _ c.2 _) ⟨.bl _, H, I, rfl, q⟩
    · cases hr
  · split at hr
    · rename_i c
      simp only [canLt, Bool.and_eq_true, decide_eq_true_eq] at c
      cases hr
      obtain ⟨⟨as, r1⟩, l1⟩ := RpT.reads I hx rx c.1.1.1.1
      obtain ⟨⟨bs, r2⟩, l2⟩ := RpT.reads I hy ry c.1.1.1.2
      exact PySem.W.gt_data r1 r2 c.1.1.2 (notNone_ne c.1.2) (room _ c.2 _) ⟨.bl _, H, I, rfl, q⟩
    · cases hr
  · split at hr
    · rename_i c
      simp only [canLt, Bool.and_eq_true, decide_eq_true_eq] at c
      cases hr
      obtain ⟨⟨as, r1⟩, l1⟩ := RpT.reads I hx rx c.1.1.1.1
      obtain ⟨⟨bs, r2⟩, l2⟩ := RpT.reads I hy ry c.1.1.1.2
      exact PySem.W.le_data r1 r2 c.1.1.2 (notNone_ne c.1.2) (room _ c.2 _) ⟨.bl _, H, I, rfl, q⟩
    · cases hr
  · split at hr
    · rename_i c
      simp only [canLt, Bool.and_eq_true, decide_eq_true_eq] at c
      cases hr
      obtain ⟨⟨as, r1⟩, l1⟩ := RpT.reads I hx rx c.1.1.1.1
      obtain ⟨⟨bs, r2⟩, l2⟩ := RpT.reads I hy ry c.1.1.1.2
      exact PySem.W.ge_data r1 r2 c.1.1.2 (notNone_ne c.1.2) (room _ c.2 _) ⟨.bl _, H, I, rfl, q⟩
    · cases hr
  · exact hin b hr (.inl ⟨rfl, rfl⟩)
  · cases e : inD dx dy with
    | none => rw [e] at hr; cases hr
    | some c => rw [e] at hr; cases hr; exact hin c e (.inr ⟨rfl, rfl⟩)
  · exact his b hr (.inl ⟨rfl, rfl⟩)
  · cases e : isD dx dy with
    | none => rw [e] at hr; cases hr
    | some c => rw [e] at hr; cases hr; exact his c e (.inr ⟨rfl, rfl⟩)
end
end Kd

namespace Kd
open PySem PySem.Spec PyProof.Rows L2

inductive RpTs (K : PySem.W.Frag) (H : Hp) (Z : ZS) : List V → List D → Prop
  | nil : RpTs K H Z [] []
  | cons {v : V} {vs : List V} {d : D} {ds : List D} : RpT K H Z v d → RpTs K H Z vs ds → RpTs K H Z (v :: vs) (d :: ds)
def rBi (K : PySem.W.Frag) (f : List D → Option Rs) : List V → Hp → VK → Prop := fun xs H Q => ∃ Z ds r, RpTs K H Z xs ds ∧ Dom H Z ∧ f ds = some r ∧ RsQ K H Z r Q
def one (f : D → Option Rs) : List D → Option Rs
  | [d] => f d
  | _ => none
theorem rBi_one {K : PySem.W.Frag} {f : D → Option Rs} {xs : List V} {H : Hp} {Q : VK} (h : rBi K (one f) xs H Q) : ∃ x Z d r, xs = [x] ∧ RpT K H Z x d ∧ Dom H Z ∧ f d = some r ∧ RsQ K H Z r Q := by
  obtain ⟨Z, ds, r, hx, dz, hf, q⟩ := h
  unfold one at hf
  split at hf
  · cases hx with
    | cons h1 h2 => cases h2; exact ⟨_, Z, _, r, rfl, h1, dz, hf, q⟩
  · cases hf
/-! ### the items of a datum -/
def signs (x : Str) : List D := x.cps.toList.map fun c => .str ⟨#[c]⟩
def itemsD : D → Option (List D)
  | .list ds => some ds
  | .tuple ds => some ds
  | .str x => some (signs x)
  | .dict kvs => if kvs.all fun p => notNone p.1 then some (kvs.map (·.1)) else none
  | _ => none
def lenD : D → Option Nat
  | .str x => some x.length
  | .list ds => some ds.length
  | .tuple ds => some ds.length
  | .dict [(.none, .list ds)] => some ds.length
  | .dict kvs => if (kvs.all fun p => notNone p.1) = true then some kvs.length else none
  | _ => none
def boolsOf : List D → Option (List Bool)
  | [] => some []
  | .bool b :: ds => (boolsOf ds).map (b :: ·)
  | _ :: _ => none
def intsOf : List D → Option (List Int)
  | [] => some []
  | .int i :: ds => (intsOf ds).map (i :: ·)
  | _ :: _ => none
def strsOf : List D → Option (List Str)
  | [] => some []
  | .str x :: ds => (strsOf ds).map (x :: ·)
  | _ :: _ => none
section
variable {K : PySem.W.Frag} {H : Hp} {Z : ZS}
theorem bools_V : ∀ {xs : List V} {ds : List D} {bs : List Bool}, RpAll K H Z xs ds → boolsOf ds = some bs → xs = bs.map V.bl
  | _, _, _, .nil, e => by cases e; rfl
  | _, _, bs, .cons (d := d) (ds := ds) h t, e => by
    unfold boolsOf at e
    split at e
    · cases e; rename_i q; cases q
    · rename_i b ds' q
      cases q
      cases h
      obtain ⟨l, e1, rfl⟩ := Option.map_eq_some_iff.mp e
      rw [bools_V t e1]
      rfl
    · cases e
theorem ints_V : ∀ {xs : List V} {ds : List D} {bs : List Int}, RpAll K H Z xs ds → intsOf ds = some bs → xs = bs.map V.int
  | _, _, _, .nil, e => by cases e; rfl
  | _, _, bs, .cons (d := d) (ds := ds) h t, e => by
    unfold intsOf at e
    split at e
    · cases e; rename_i q; cases q
    · rename_i b ds' q
      cases q
      cases h
      obtain ⟨l, e1, rfl⟩ := Option.map_eq_some_iff.mp e
      rw [ints_V t e1]
      rfl
    · cases e
theorem strs_V : ∀ {xs : List V} {ds : List D} {bs : List Str}, RpAll K H Z xs ds → strsOf ds = some bs → xs = bs.map V.str ∧ ∀ b ∈ bs, SOk b
  | _, _, _, .nil, e => by cases e; exact ⟨rfl, fun _ h => nomatch h⟩
  | _, _, bs, .cons (d := d) (ds := ds) h t, e => by
    unfold strsOf at e
    split at e
    · cases e; rename_i q; cases q
    · rename_i b ds' q
      cases q
      cases h with
      | str _ o =>
        obtain ⟨l, e1, rfl⟩ := Option.map_eq_some_iff.mp e
        obtain ⟨e2, h2⟩ := strs_V t e1
        rw [e2]
        exact ⟨rfl, fun z hz => by
          rcases List.mem_cons.mp hz with rfl | hz
          · exact o
          · exact h2 z hz⟩
    · cases e
end
/-! ### functions -/
def biLen (d : D) : Option Rs := (lenD d).map fun n => .sh (.int (n : Nat))
def biAll : D → Option Rs
  | .list ds => (boolsOf ds).map fun bs => .sh (.bool (bs.all id))
  | _ => none
def biAny : D → Option Rs
  | .list ds => (boolsOf ds).map fun bs => .sh (.bool (bs.any id))
  | _ => none
def maxL : List Int → Int
  | [] => 0
  | [x] => x
  | x :: xs => if maxL xs > x then maxL xs else x
def minL : List Int → Int
  | [] => 0
  | [x] => x
  | x :: xs => if minL xs < x then minL xs else x
theorem minL_le : ∀ {l : List Int} {y : Int}, y ∈ l → minL l ≤ y
  | [x], y, h => by simp at h; subst h; exact Int.le_refl _
  | x :: z :: l, y, h => by
    rw [minL]
    · rcases List.mem_cons.mp h with rfl | h
      · split <;> omega
      · have := minL_le h
        split <;> omega
    · simp
theorem minL_mem : ∀ {l : List Int}, 0 < l.length → minL l ∈ l
  | [x], _ => by simp [minL]
  | x :: z :: l, h => by
    rw [minL]
    · split
      · exact List.mem_cons_of_mem _ (minL_mem (by simp))
      · exact List.mem_cons_self
    · simp
theorem maxL_le : ∀ {l : List Int} {y : Int}, y ∈ l → y ≤ maxL l
  | [x], y, h => by simp at h; subst h; exact Int.le_refl _
  | x :: z :: l, y, h => by
    rw [maxL]
    · rcases List.mem_cons.mp h with rfl | h
      · split <;> omega
      · have := maxL_le h
        split <;> omega
    · simp
theorem maxL_mem : ∀ {l : List Int}, 0 < l.length → maxL l ∈ l
  | [x], _ => by simp [maxL]
  | x :: z :: l, h => by
    rw [maxL]
    · split
      · exact List.mem_cons_of_mem _ (maxL_mem (by simp))
      · exact List.mem_cons_self
    · simp
def biMax : List D → Option Rs
  | [.int i, .int j] => some (.sh (.int (if j > i then j else i)))
  | [.list ds] => match intsOf ds with
    | some (i :: is) => some (.sh (.int (maxL (i :: is))))
    | _ => none
  | _ => none
def biMin : List D → Option Rs
  | [.int i, .int j] => some (.sh (.int (if j < i then j else i)))
  | [.list ds] => match intsOf ds with
    | some (i :: is) => some (.sh (.int (minL (i :: is))))
    | _ => none
  | _ => none
def biAbs : D → Option Rs
  | .int i => some (.sh (.int (if i < 0 then -i else i)))
  | _ => none
def biSum : D → Option Rs
  | .list ds => (intsOf ds).map fun bs => .sh (.int bs.sum)
  | _ => none
def biInt : D → Option Rs
  | .int i => some (.sh (.int i))
  | .bool b => some (.sh (.int (if b then 1 else 0)))
  | _ => none
def biTuple : D → Option Rs
  | .list ds => some (.sh (.tuple ds))
  | .tuple ds => some (.sh (.tuple ds))
  | _ => none
section
variable {X : Cx}
theorem bi_len : CallR X (.builtin "len") (rBi X.K (one biLen)) := by
  intro pins s σ H xs us Q I r h
  obtain ⟨x, Z, d, rr, rfl, hx, dz, hf, q⟩ := rBi_one h
  obtain ⟨n, hn, rfl⟩ := Option.map_eq_some_iff.mp hf
  have fin : LenV X.K x H n → wpAny (model X.prog X.w) X.A (PySem.call (.builtin "len") us) (EP X pins σ Q) X.xe s := fun l => call_len pins s σ H [x] us Q I r ⟨x, n, rfl, l, q _ H (Gr.refl H) (.int _)⟩
  unfold lenD at hn
  split at hn
  · cases hn
    cases hx with
    | str _ o => exact fin ⟨o.2, rfl⟩
  · cases hn
    cases hx with
    | lst a b c => exact fin (.inl ⟨_, .inl a, c.length.symm⟩)
  · cases hn
    cases hx with
    | tup a b c => exact fin (.inr ⟨_, a.sq, c.length.symm⟩)
  · cases hn
    rename_i ds
    generalize e : PyData.dict [(PyData.none, PyData.list ds)] = dd at hx
    cases hx with
    | scr a b c =>
      cases e
      exact fin (.inl ⟨_, a, c.length.symm⟩)
    | @dic a kvs vs h1 h2 h3 =>
      exfalso
      injection e with e
      cases kvs with
      | nil => cases e
      | cons p kvs =>
        cases vs with
        | nil => cases e
        | cons v vs =>
          simp only [List.map_cons, List.zip_cons_cons, List.cons.injEq, Prod.mk.injEq] at e
          obtain ⟨k, _⟩ := p
          cases k <;> cases e.1.1
    | @dit a kvs vs h1 h2 h3 =>
      exfalso
      injection e with e
      cases kvs with
      | nil => cases e
      | cons p kvs =>
        cases vs with
        | nil => cases e
        | cons v vs =>
          simp only [List.map_cons, List.zip_cons_cons, List.cons.injEq, Prod.mk.injEq] at e
          cases e.1.1
    | _ => cases e
  · rename_i kvs0 _
    split at hn
    · rename_i hnn
      cases hn
      generalize e : PyData.dict kvs0 = dd at hx
      cases hx with
      | scr a b c =>
        exfalso
        injection e with e
        subst e
        simp [notNone] at hnn
      | @dic a kvs vs h1 h2 h3 =>
        injection e with e
        have hl : kvs0.length = kvs.length := by
          rw [e, List.length_zip, List.length_map]
          have := h3.length
          rw [List.length_map] at this
          omega
        obtain ⟨u, rfl, rx⟩ := vals1 r
        obtain rfl : u = .ref a := rx
        refine d_len I h1 fun t s' I' => ?_
        rw [← hl]
        exact ⟨.int ((kvs0.length : Nat) : Int), H, I', ⟨_, rfl⟩, q _ H (Gr.refl H) (.int _)⟩
      | @dit a kvs vs h1 h2 h3 =>
        injection e with e
        have hl : kvs0.length = kvs.length := by
          rw [e, List.length_zip, List.length_map]
          have := h3.length
          rw [List.length_map] at this
          omega
        obtain ⟨u, rfl, rx⟩ := vals1 r
        obtain rfl : u = .ref a := rx
        obtain ⟨z, hd, ys, rel, dd⟩ := dt_rd I.hok h1
        have hl2 : kvs.length = ys.length := Paired.length rel
        refine call_len_dictH hd dd (by rw [← hl2]; rw [sizeLine_eq] at z; omega) ?_
        rw [← hl2, ← hl]
        exact ⟨.int ((kvs0.length : Nat) : Int), H, I.tok _, ⟨_, rfl⟩, q _ H (Gr.refl H) (.int _)⟩
      | _ => cases e
    · cases hn
  · cases hn
theorem bi_all (hc : X.calm = true) : CallR X (.builtin "all") (rBi X.K (one biAll)) := by
  intro pins s σ H xs us Q I r h
  obtain ⟨x, Z, d, rr, rfl, hx, dz, hf, q⟩ := rBi_one h
  unfold biAll at hf
  split at hf
  · obtain ⟨bs, hn, rfl⟩ := Option.map_eq_some_iff.mp hf
    cases hx with
    | lst a b c =>
      have e := bools_V c hn
      subst e
      exact cr_all hc pins s σ H _ us Q I r ⟨_, bs, rfl, .inl a, q _ H (Gr.refl H) (.bl _)⟩
  · cases hf
theorem bi_any (hc : X.calm = true) : CallR X (.builtin "any") (rBi X.K (one biAny)) := by
  intro pins s σ H xs us Q I r h
  obtain ⟨x, Z, d, rr, rfl, hx, dz, hf, q⟩ := rBi_one h
  unfold biAny at hf
  split at hf
  · obtain ⟨bs, hn, rfl⟩ := Option.map_eq_some_iff.mp hf
    cases hx with
    | lst a b c =>
      have e := bools_V c hn
      subst e
      exact cr_any hc pins s σ H _ us Q I r ⟨_, bs, rfl, .inl a, q _ H (Gr.refl H) (.bl _)⟩
  · cases hf
theorem bi_max (hc : X.calm = true) : CallR X (.builtin "max") (rBi X.K biMax) := by
  intro pins s σ H xs us Q I r h
  obtain ⟨Z, ds, rr, hx, dz, hf, q⟩ := h
  unfold biMax at hf
  split at hf
  · cases hf
    cases hx with
    | cons h1 h2 =>
      cases h2 with
      | cons h2 h3 =>
        cases h1; cases h2; cases h3
        exact call_max2 hc pins s σ H _ us Q I r ⟨_, _, rfl, q _ H (Gr.refl H) (.int _)⟩
  · rename_i ds0
    split at hf
    · rename_i i is hn
      cases hf
      cases hx with
      | cons h1 h2 =>
        cases h2
        cases h1 with
        | lst a b c =>
          have e := ints_V c hn
          subst e
          refine cr_max hc pins s σ H _ us Q I r ⟨_, i :: is, rfl, .inl a, by simp, fun m hm hl => ?_⟩
          have e2 : m = maxL (i :: is) := by
            have a1 := hl _ (maxL_mem (l := i :: is) (by simp))
            have a2 := maxL_le hm
            omega
          subst e2
          exact q _ H (Gr.refl H) (.int _)
    · cases hf
  · cases hf
theorem bi_min (hc : X.calm = true) : CallR X (.builtin "min") (rBi X.K biMin) := by
  intro pins s σ H xs us Q I r h
  obtain ⟨Z, ds, rr, hx, dz, hf, q⟩ := h
  unfold biMin at hf
  split at hf
  · cases hf
    cases hx with
    | cons h1 h2 =>
      cases h2 with
      | cons h2 h3 =>
        cases h1; cases h2; cases h3
        exact call_min2 hc pins s σ H _ us Q I r ⟨_, _, rfl, q _ H (Gr.refl H) (.int _)⟩
  · rename_i ds0
    split at hf
    · rename_i i is hn
      cases hf
      cases hx with
      | cons h1 h2 =>
        cases h2
        cases h1 with
        | lst a b c =>
          have e := ints_V c hn
          subst e
          refine cr_min hc pins s σ H _ us Q I r ⟨_, i :: is, rfl, .inl a, by simp, fun m hm hl => ?_⟩
          have e2 : m = minL (i :: is) := by
            have a1 := hl _ (minL_mem (l := i :: is) (by simp))
            have a2 := minL_le hm
            omega
          subst e2
          exact q _ H (Gr.refl H) (.int _)
    · cases hf
  · cases hf
theorem bi_abs : CallR X (.builtin "abs") (rBi X.K (one biAbs)) := by
  intro pins s σ H xs us Q I r h
  obtain ⟨x, Z, d, rr, rfl, hx, dz, hf, q⟩ := rBi_one h
  unfold biAbs at hf
  split at hf
  · cases hf
    cases hx
    exact call_abs pins s σ H _ us Q I r ⟨_, rfl, q _ H (Gr.refl H) (.int _)⟩
  · cases hf
theorem bi_sum (hc : X.calm = true) : CallR X (.builtin "sum") (rBi X.K (one biSum)) := by
  intro pins s σ H xs us Q I r h
  obtain ⟨x, Z, d, rr, rfl, hx, dz, hf, q⟩ := rBi_one h
  unfold biSum at hf
  split at hf
  · obtain ⟨bs, hn, rfl⟩ := Option.map_eq_some_iff.mp hf
    cases hx with
    | lst a b c =>
      have e := ints_V c hn
      subst e
      exact cr_sum hc pins s σ H _ us Q I r ⟨_, bs, rfl, .inl a, q _ H (Gr.refl H) (.int _)⟩
  · cases hf
theorem bi_int : CallR X (.type "int") (rBi X.K (one biInt)) := by
  intro pins s σ H xs us Q I r h
  obtain ⟨x, Z, d, rr, rfl, hx, dz, hf, q⟩ := rBi_one h
  unfold biInt at hf
  split at hf
  · cases hf
    cases hx
    exact call_int1 pins s σ H _ us Q I r (.inl ⟨_, rfl, q _ H (Gr.refl H) (.int _)⟩)
  · cases hf
    cases hx
    exact call_int1 pins s σ H _ us Q I r (.inr ⟨_, rfl, q _ H (Gr.refl H) (.int _)⟩)
  · cases hf
theorem bi_tuple : CallR X (.type "tuple") (rBi X.K (one biTuple)) := by
  intro pins s σ H xs us Q I r h
  obtain ⟨x, Z, d, rr, rfl, hx, dz, hf, q⟩ := rBi_one h
  unfold biTuple at hf
  split at hf
  · cases hf
    cases hx with
    | lst a b c => exact call_tuple_of pins s σ H _ us Q I r ⟨_, _, rfl, .inl ⟨.inl a, fun p hp => q _ _ (Gr.upd hp) (newT dz hp b c)⟩⟩
  · cases hf
    cases hx with
    | tup a b c => exact call_tuple_of pins s σ H _ us Q I r ⟨_, _, rfl, .inr ⟨a.sq, q _ H (Gr.refl H) (.tup a b c)⟩⟩
  · cases hf
end
end Kd

namespace Kd
open PySem PySem.Spec PyProof.Rows L2
section
variable {K : PySem.W.Frag} {H : Hp} {Z : ZS}
theorem rp_key (k : Key) (h : KOk k) : Rp K H Z (kV k) (kD k) := by
  cases k with
  | inl i => exact .int i
  | inr x => exact .str x h
theorem rp_keys : ∀ (ks : List Key), (∀ k ∈ ks, KOk k) → RpAll K H Z (ks.map kV) (ks.map kD)
  | [], _ => .nil
  | k :: ks, h => .cons (rp_key k (h k List.mem_cons_self)) (rp_keys ks fun q hq => h q (List.mem_cons_of_mem _ hq))
theorem strOk_sign {x : Str} {c : Nat} (h : SOk x) (hc : c ∈ x.cps.toList) : SOk ⟨#[c]⟩ := by
  refine ⟨?_, ?_⟩
  · have := h.1
    unfold PyData.strOk at this ⊢
    rw [← Array.all_toList] at this ⊢
    simp only [List.all_cons, List.all_nil, Bool.and_true]
    exact List.all_eq_true.mp this c hc
  · show 1 ≤ sizeLine
    decide
theorem rp_signs {x : Str} (h : SOk x) : ∀ (cs : List Nat), (∀ c ∈ cs, c ∈ x.cps.toList) → RpAll K H Z (cs.map fun c => V.str ⟨#[c]⟩) (cs.map fun c => (.str ⟨#[c]⟩ : D))
  | [], _ => .nil
  | c :: cs, q => .cons (.str _ (strOk_sign h (q c List.mem_cons_self))) (rp_signs h cs fun d hd => q d (List.mem_cons_of_mem _ hd))
theorem zip_fst {α β : Type} : ∀ {l : List α} {m : List β}, l.length = m.length → (l.zip m).map (·.1) = l
  | [], [], _ => rfl
  | [], _ :: _, h => by simp at h
  | _ :: _, [], h => by simp at h
  | a :: l, b :: m, h => by simp only [List.zip_cons_cons, List.map_cons]; rw [zip_fst (by simpa using h)]
end
section
variable {X : Cx} {pins : List (Addr × Obj)} {σ : L2.St} {H : Hp} {s : Shared} {Z : ZS}
theorem rp_tupkeys (I : Inv X pins σ H s) (dz : Dom H Z) : ∀ {kvs : List (List Key × V)} {bs : List Addr}, IsKeys H kvs bs → (∀ p ∈ kvs, ∀ k ∈ p.1, KOk k) → RpAll X.K H Z (bs.map V.ref) (kvs.map fun p => kT p.1)
  | _, _, .nil, _ => .nil
  | p :: kvs, b :: bs, .cons h t, q => by
    refine .cons (.tup ⟨fun z => ?_, h⟩ (I.hok b _ h).1 (rp_keys p.1 (q p List.mem_cons_self))) (rp_tupkeys I dz t fun r hr => q r (List.mem_cons_of_mem _ hr))
    obtain ⟨u, e, nt⟩ := dz b z
    rw [h] at e
    cases e
    cases nt
theorem vals_at : ∀ {xs : List V} {us : List Value}, xs.length = us.length → (∀ (j : Nat) (u : Value), us[j]? = some u → ∃ x, xs[j]? = some x ∧ RelV x u) → Vals xs us
  | [], [], _, _ => .nil
  | [], _ :: _, h, _ => by simp at h
  | _ :: _, [], h, _ => by simp at h
  | x :: xs, u :: us, h, f => by
    obtain ⟨y, e, r⟩ := f 0 u rfl
    have e' : x = y := by simpa using e
    subst e'
    exact .cons r (vals_at (by simpa using h) fun j w hj => by
      obtain ⟨z, e1, r1⟩ := f (j + 1) w (by simpa using hj)
      exact ⟨z, by simpa using e1, r1⟩)
theorem collectD {A : Around} {E : Value → Shared → Prop} {Q : List Value → Shared → Prop} {x : V} {u : Value} {d : D} {ds : List D} (I : Inv X pins σ H s) (dz : Dom H Z) (hx : RpT X.K H Z x d) (rx : RelV x u) (hd : itemsD d = some ds) (hh : A.handled = none)
    (h : ∀ us vs s', Inv X pins σ H s' → Vals vs us → RpAll X.K H Z vs ds → us.length ≤ sizeLine → Q us s') : wpAny (model X.prog X.w) A (collect u) Q E s := by
  unfold itemsD at hd
  split at hd
  · cases hd
    cases hx with
    | lst a b c =>
      cases rx
      obtain ⟨z, its, n, r, hl, e⟩ := Inv.lstR I a
      refine wpAny_collect_seq _ (.inl rfl) e rfl rfl (fun h' k => ?_) (by rw [List.size_toArray]; omega)
      rw [List.toList_toArray]
      exact h its _ _ (I.kept (t' := s.toks) k) r c (by omega)
  · cases hd
    cases hx with
    | tup a b c =>
      cases rx
      obtain ⟨its, r, ⟨o, ho, hc, n, hdt⟩, z⟩ := I.tuple a.sq
      have hl := r.length
      refine wpAny_collect_seq _ (.inr rfl) ho hc hdt (fun h' k => ?_) (by rw [List.size_toArray]; omega)
      rw [List.toList_toArray]
      exact h its _ _ (I.kept (t' := s.toks) k) r c (by omega)
  · cases hd
    cases hx with
    | str xx o =>
      rename_i x
      obtain ⟨t, rfl⟩ := rx
      refine wpAny_collect_str hh x t (fun s' acc k g1 g2 g3 it => ?_) o.2
      obtain ⟨hp, gs, dr, tk, os⟩ := s'
      cases g1; cases g2; cases g3
      have I' : Inv X pins σ H ⟨hp, s.gens, s.drawn, tk, s.os⟩ := I.kept (t' := tk) k
      refine h acc.toList (x.cps.toList.map fun c => V.str ⟨#[c]⟩) _ I' (vals_at (by simp [it.1]) fun j u hj => ?_) (rp_signs o _ fun _ q => q) (by rw [Array.length_toList, it.1]; exact o.2)
      obtain ⟨c, w, e1, rfl⟩ := it.2 j u (by rw [← Array.getElem?_toList]; exact hj)
      refine ⟨.str ⟨#[c]⟩, ?_, ⟨w, rfl⟩⟩
      rw [List.getElem?_map, Array.getElem?_toList, e1]
      rfl
  · split at hd
    · rename_i kvs hn
      cases hd
      generalize ed : PyData.dict kvs = dd at hx
      cases hx with
      | @dic a kvs' ds h1 h2 h3 =>
        injection ed with ed
        have hlen := h3.length
        rw [List.length_map] at hlen
        have ek : kvs.map (·.1) = kvs'.map fun p => kD p.1 := by rw [ed, zip_fst (by rw [List.length_map, hlen])]
        rw [ek] at h
        cases rx
        obtain ⟨z, lo, vs, rel, dd⟩ := dk_rd I.hok h1
        obtain ⟨ep, hat⟩ := dd.dictAt
        have el := rel.length
        refine PySem.W.kdu_collect (PySem.W.kdl_dict (knd := mixKind X.prog X.w) (kvs := vs) (ep := ep) lo) hh hat (by omega) fun h' tk acc k it => ?_
        have e3 : (kvs'.map fun p => kD p.1) = (kvs'.map (·.1)).map kD := by rw [List.map_map]; rfl
        refine h acc.toList (kvs'.map fun p => kV p.1) _ (I.kept (t' := tk) k) (vals_at (by have := it.1; simp only [List.length_map, Array.length_toList]; omega) fun j u hj => ?_) ?_ (by rw [Array.length_toList, it.1]; omega)
        · obtain ⟨kk, y, hky, hi⟩ := it.2 j u (by rw [← Array.getElem?_toList]; exact hj)
          have e1 : (kvs'.map (·.1))[j]? = some kk := by rw [KV.keys rel, List.getElem?_map, hky]; rfl
          refine ⟨kV kk, ?_, keyIs_rel hi⟩
          have e4 : (kvs'.map fun p => kV p.1) = (kvs'.map (·.1)).map kV := by rw [List.map_map]; rfl
          rw [e4, List.getElem?_map, e1]
          rfl
        · have e4 : (kvs'.map fun p => kV p.1) = (kvs'.map (·.1)).map kV := by rw [List.map_map]; rfl
          rw [e3, e4]
          refine rp_keys _ fun q hq => ?_
          obtain ⟨p, hp, rfl⟩ := List.mem_map.mp hq
          exact h2.2 p hp
      | @dit a kvs' ds h1 h2 h3 =>
        injection ed with ed
        have hlen := h3.length
        rw [List.length_map] at hlen
        have ek : kvs.map (·.1) = kvs'.map fun p => kT p.1 := by rw [ed, zip_fst (by rw [List.length_map, hlen])]
        rw [ek] at h
        cases rx
        obtain ⟨z, hs, ks, pr, o, es, ep, ho, hx, hdt, he, hnd⟩ := (show ObjOk X.prog X.w H s.heap a (.dT kvs') from h1.ok I.hok)
        have l1 : es.size = ks.length := size_of_entries he
        have l2 : kvs'.length = ks.length := Paired.length pr
        refine PySem.W.kdu_collect (kdl_raw hs hx hdt) hh ho (by omega) fun h' tk acc k it => ?_
        have I' : Inv X pins σ H { s with heap := h', toks := tk } := I.kept (t' := tk) k
        refine h acc.toList ((ks.map fun q => q.2.1).map V.ref) _ I' (vals_at (by have := it.1; simp only [List.length_map, Array.length_toList]; omega) fun j u hj => ?_) (rp_tupkeys I dz (isKeys_of pr) h2.2) (by rw [Array.length_toList, it.1]; omega)
        obtain ⟨en, hen, hv⟩ := it.2 j u (by rw [← Array.getElem?_toList]; exact hj)
        have qe := entry_at he j
        rw [hen] at qe
        cases hb : ks[j]? with
        | none =>
          rw [hb] at qe
          cases qe
        | some b =>
          rw [hb] at qe
          cases qe
          subst hv
          refine ⟨.ref b.2.1, ?_, rfl⟩
          rw [List.getElem?_map, List.getElem?_map, hb]
          rfl
      | scr a b c =>
        injection ed with ed
        subst ed
        simp [notNone] at hn
      | _ => cases ed
    · cases hd
  · cases hd
end
end Kd

namespace Kd
open PySem PySem.Spec PyProof.Rows L2
mutual
theorem reads_lt {h : Heap} : ∀ (d : D) (v : Value) (as : List Addr), Reads h v d as → flatDict d = true → ∀ b ∈ as, b < h.objs.size
  | .none, _, _, r, _ => by cases r; intro b hb; cases hb
  | .bool _, _, _, r, _ => by cases r; intro b hb; cases hb
  | .int _, _, _, r, _ => by cases r; intro b hb; cases hb
  | .str _, _, _, r, _ => by cases r; intro b hb; cases hb
  | .list xs, _, _, r, f => by
    cases r with
    | list h1 h2 h3 h4 =>
      intro b hb
      rcases List.mem_cons.mp hb with rfl | hb
      · exact Heap.lt_size h1
      · exact readsAll_lt xs _ _ h4 (by simpa [flatDict] using f) b hb
  | .tuple xs, _, _, r, f => by
    cases r with
    | tuple h1 h2 h3 h4 => exact readsAll_lt xs _ _ h4 (by simpa [flatDict] using f)
  | .dict _, _, _, _, f => by cases f
theorem readsAll_lt {h : Heap} : ∀ (ds : List D) (vs : List Value) (as : List Addr), ReadsAll h vs ds as → flatDictAll ds = true → ∀ b ∈ as, b < h.objs.size
  | [], _, _, r, _ => by cases r; intro b hb; cases hb
  | d :: ds, _, _, r, f => by
    cases r with
    | cons h1 h2 =>
      simp only [flatDictAll, Bool.and_eq_true] at f
      intro b hb
      rcases List.mem_append.mp hb with hb | hb
      · exact reads_lt d _ _ h1 f.1 b hb
      · exact readsAll_lt ds _ _ h2 f.2 b hb
end
def allAlike (ds : List D) : Bool := ds.all fun a => ds.all fun b => PySem.W.alike a b
def allTup : List D → Bool
  | [] => true
  | .tuple (_ :: _) :: ds => allTup ds
  | _ => false
def noTup : List D → Bool
  | [] => true
  | .tuple _ :: _ => false
  | .none :: _ => false
  | _ :: ds => noTup ds
def canSort (ds : List D) : Bool := allAlike ds && (allTup ds || noTup ds) && flatDictAll ds && ds.all fun d => decide (d.depth ≤ 64)
def sortD (ds : List D) : List D := ds.mergeSort (PySem.W.dataLe false id)
theorem allTup_ok : ∀ {ds : List D}, allTup ds = true → ∀ d ∈ ds, ∃ x r, d = .tuple (x :: r)
  | [], _, _, h => nomatch h
  | d :: ds, h, e, he => by
    unfold allTup at h
    split at h
    · rename_i q; cases q
    · rename_i x r ds' q
      cases q
      rcases List.mem_cons.mp he with rfl | he
      · exact ⟨_, _, rfl⟩
      · exact allTup_ok h e he
    · cases h
theorem noTup_ok : ∀ {ds : List D}, noTup ds = true → ∀ d ∈ ds, d ≠ .none ∧ ∀ xs, d ≠ .tuple xs
  | [], _, _, h => nomatch h
  | d :: ds, h, e, he => by
    unfold noTup at h
    split at h
    · rename_i q; cases q
    · cases h
    · cases h
    · rename_i x ds' n1 n2 q
      cases q
      rcases List.mem_cons.mp he with rfl | he
      · exact ⟨fun z => n2 z, fun xs z => n1 xs z⟩
      · exact noTup_ok h e he
theorem canSort_ok {ds : List D} (h : canSort ds = true) : PySem.W.AllAlike ds ∧ PySem.W.Sortable ds ∧ flatDictAll ds = true ∧ ∀ d ∈ ds, d.depth ≤ 64 := by
  unfold canSort at h
  simp only [Bool.and_eq_true, Bool.or_eq_true, List.all_eq_true, decide_eq_true_eq] at h
  obtain ⟨⟨⟨h1, h2⟩, h3⟩, h4⟩ := h
  refine ⟨fun d hd e he => ?_, ?_, h3, h4⟩
  · unfold allAlike at h1
    rw [List.all_eq_true] at h1
    exact List.all_eq_true.mp (h1 d hd) e he
  · rcases h2 with h2 | h2
    · exact .inl (allTup_ok h2)
    · exact .inr (noTup_ok h2)
theorem flat_mem : ∀ {ds : List D}, flatDictAll ds = true → ∀ d ∈ ds, flatDict d = true
  | [], _, _, h => nomatch h
  | d :: ds, h, e, he => by
    simp only [flatDictAll, Bool.and_eq_true] at h
    rcases List.mem_cons.mp he with rfl | he
    · exact h.1
    · exact flat_mem h.2 e he
def biSorted (d : D) : Option Rs := match itemsD d with
  | some ds => if canSort ds = true then some (.fr (.lst (sortD ds))) else none
  | none => none
section
variable {X : Cx} {pins : List (Addr × Obj)} {σ : L2.St} {H : Hp} {s : Shared} {Z : ZS}
theorem each_of (I : Inv X pins σ H s) : ∀ {vs : List V} {ds : List D} {us : List Value}, RpAll X.K H Z vs ds → Vals vs us → flatDictAll ds = true →
    PySem.W.EachIs (fun u (b : V × D) => RelV b.1 u ∧ Rp X.K H Z b.1 b.2) us (vs.zip ds) ∧ PySem.W.EachIs (fun u (b : V × D) => ∃ as, Reads s.heap u b.2 as ∧ ∀ c ∈ as, c < s.heap.objs.size) us (vs.zip ds)
  | _, _, _, .nil, .nil, _ => ⟨.nil, .nil⟩
  | _, _, _, .cons h t, .cons r q, f => by
    simp only [flatDictAll, Bool.and_eq_true] at f
    obtain ⟨a, b⟩ := each_of I t q f.2
    obtain ⟨as, rd⟩ := Rp.reads I _ _ _ h r f.1
    exact ⟨.cons ⟨r, h⟩ a, .cons ⟨as, rd, reads_lt _ _ _ rd f.1⟩ b⟩
theorem each_back : ∀ {us : List Value} {bs : List (V × D)}, PySem.W.EachIs (fun u (b : V × D) => RelV b.1 u ∧ Rp X.K H Z b.1 b.2) us bs → Vals (bs.map (·.1)) us ∧ RpAll X.K H Z (bs.map (·.1)) (bs.map (·.2))
  | _, _, .nil => ⟨.nil, .nil⟩
  | _, _, .cons h t => by
    obtain ⟨a, b⟩ := each_back t
    exact ⟨.cons h.1 a, .cons h.2 b⟩
theorem map_snd_zip : ∀ {α β : Type} {l : List α} {m : List β}, l.length = m.length → (l.zip m).map (·.2) = m
  | _, _, [], [], _ => rfl
  | _, _, [], _ :: _, h => by simp at h
  | _, _, _ :: _, [], h => by simp at h
  | _, _, a :: l, b :: m, h => by simp only [List.zip_cons_cons, List.map_cons]; rw [map_snd_zip (by simpa using h)]
theorem bi_sorted (hc : X.calm = true) (hu : X.A.units + 70 < cLine) : CallR X (.builtin "sorted") (rBi X.K (one biSorted)) := by
  intro pins s σ H xs us Q I r h
  obtain ⟨x, Z, d, rr, rfl, hx, dz, hf, q⟩ := rBi_one h
  unfold biSorted at hf
  cases hi : itemsD d with
  | none => rw [hi] at hf; cases hf
  | some ds =>
    rw [hi] at hf
    simp only at hf
    split at hf
    · rename_i cs
      cases hf
      obtain ⟨hal, hsr, hfl, hdp⟩ := canSort_ok cs
      obtain ⟨u, rfl, rx⟩ := vals1 r
      refine call_function_entry_kw kind_sorted plain_sorted entry_sorted (args_sorted1 _) ?_
      unfold Builtin.«sorted»
      refine wpAny_bind (m := checkCount "sorted" 1 1 _) (wpAny_pure ?_)
      refine wpAny_bind (collectD I dz hx rx hi (I.ok.hd hc) fun us vs s' I' hv hr hl => ?_)
      refine wpAny_bind (wpAny_newList ?_ hl)
      have lv := hv.length
      have ld := hr.length
      have I1 := I'.lnew (t' := s'.toks) hv (by omega)
      have hp : H s'.heap.objs.size = none := I'.fresh
      have hat : (s'.heap.push { cls := .type "list", data := .seq us.toArray }).get? s'.heap.objs.size = some (seqObj "list" us.toArray 0) := Heap.get?_push_size _ rfl
      obtain ⟨e1, e2⟩ := each_of I' hr hv hfl
      have em : (vs.zip ds).map (·.2) = ds := map_snd_zip (by omega)
      refine wpAny_bind (wpAny_holding (PySem.W.list_sort_data (s := { s' with heap := s'.heap.push { cls := .type "list", data := .seq us.toArray } }) (bs := vs.zip ds) (enc := (·.2)) hat e1 (e2.mono fun u b hh => ?_) ?_ ?_ ?_ ?_ fun out ho he => ?_))
      · obtain ⟨as, rd, lt⟩ := hh
        exact ⟨as, PyProof.Rows.Reads.keeps (fun _ _ e => Heap.get?_push_of_some _ e) rd, fun hm => absurd (lt _ hm) (Nat.lt_irrefl _)⟩
      · rw [em]; exact hal
      · rw [em]; exact hsr
      · rw [List.length_zip]; omega
      · intro b hb
        have : b.2 ∈ ds := by rw [← em]; exact List.mem_map_of_mem hb
        have := hdp _ this
        show X.A.units + 1 + 1 + b.2.depth < cLine
        omega
      · obtain ⟨b1, b2⟩ := each_back (X := X) he
        have es : ((vs.zip ds).mergeSort (PySem.W.dataLe false (·.2))).map (·.2) = sortD ds := by
          unfold sortD
          rw [PySem.W.sort_maps (r := PySem.W.dataLe false fun b : V × D => b.2) (s := PySem.W.dataLe false id) (fun b : V × D => b.2) (fun _ _ _ _ => rfl), em]
        rw [es] at b2
        obtain ⟨c, hc'⟩ := sortedHeap_at (out := out.toArray) hat
        have lo := b1.length
        have lz : (vs.zip ds).length = us.length := by rw [List.length_zip]; omega
        refine wpAny_pure ⟨_, rfl, ?_⟩
        refine ⟨.ref s'.heap.objs.size, upd H s'.heap.objs.size (.lst (((vs.zip ds).mergeSort (PySem.W.dataLe false (·.2))).map (·.1))), ?_, rfl, ?_⟩
        · refine I'.laid (t' := s'.toks) (fun b o e => ?_) (Nat.le_refl _) ⟨by omega, out, c, b1, hc'⟩
          have hlt := Heap.lt_size e
          rw [sortedHeap_old (Nat.ne_of_lt hlt) (by rw [size_push']; exact Nat.lt_succ_of_lt hlt)]
          exact Heap.get?_push_of_some _ e
        · exact q _ _ (Gr.upd hp) hp (newL hp (by omega) b2)
    · cases hf
end
end Kd

namespace Kd
open PySem PySem.Spec PyProof.Rows L2
/-! ### the signs of what is shown -/
def small (l : List Nat) : Prop := ∀ c ∈ l, c < 0x110000
theorem strOk_iff {x : Str} : PyData.strOk x = true ↔ small x.cps.toList := by
  unfold PyData.strOk small
  rw [← Array.all_toList, List.all_eq_true]
  simp only [decide_eq_true_eq]
theorem small_app {a b : List Nat} (h1 : small a) (h2 : small b) : small (a ++ b) := fun c hc => (List.mem_append.mp hc).elim (h1 c) (h2 c)
theorem small_str (s : String) : small (Str.ofString s).cps.toList := by
  rw [PyProof.Rows.signs_ofString]
  intro c hc
  obtain ⟨ch, _, rfl⟩ := List.mem_map.mp hc
  have := ch.valid
  have : ch.val.toNat < 0x110000 := by
    simp only [UInt32.isValidChar, Nat.isValidChar] at this
    omega
  exact this
theorem small_app' {a b : Str} (h1 : small a.cps.toList) (h2 : small b.cps.toList) : small (a ++ b).cps.toList := by
  rw [Str.cps_append, Array.toList_append]
  exact small_app h1 h2
theorem small_char {q c : Nat} (hq : q < 0x110000) (hc : c < 0x110000) : small (Builtin.Str.reprChar q c) := by
  have hex : ∀ n : Nat, small (List.replicate n 48 ++ (Nat.toDigits 16 c).map Char.toNat) := fun n => by
    refine small_app (fun d hd => ?_) fun d hd => ?_
    · rw [(List.mem_replicate.mp hd).2]; decide
    · obtain ⟨ch, _, rfl⟩ := List.mem_map.mp hd
      have := ch.valid
      have : ch.val.toNat < 0x110000 := by
        simp only [UInt32.isValidChar, Nat.isValidChar] at this
        omega
      exact this
  have two : ∀ a b : Nat, a < 0x110000 → b < 0x110000 → small [a, b] := fun a b ha hb d hd => by
    simp only [List.mem_cons, List.not_mem_nil, or_false] at hd
    rcases hd with rfl | rfl
    · exact ha
    · exact hb
  unfold Builtin.Str.reprChar
  simp only
  repeat' split
  · exact two _ _ (by decide) hc
  · exact two _ _ (by decide) (by decide)
  · exact two _ _ (by decide) (by decide)
  · exact two _ _ (by decide) (by decide)
  · intro d hd
    simp only [List.mem_cons, List.not_mem_nil, or_false] at hd
    subst hd; exact hc
  · exact small_app (two _ _ (by decide) (by decide)) (hex _)
  · exact small_app (two _ _ (by decide) (by decide)) (hex _)
  · exact small_app (two _ _ (by decide) (by decide)) (hex _)
theorem small_fold {q : Nat} (hq : q < 0x110000) : ∀ (l : List Nat) (acc : Array Nat), small l → small acc.toList → small (l.foldl (fun out c => out ++ (Builtin.Str.reprChar q c).toArray) acc).toList
  | [], _, _, h => h
  | c :: l, acc, h, ha => by
    rw [List.foldl_cons]
    refine small_fold hq l _ (fun d hd => h d (List.mem_cons_of_mem _ hd)) ?_
    rw [Array.toList_append]
    exact small_app ha (small_char hq (h c List.mem_cons_self))
theorem small_repr {x : Str} (h : small x.cps.toList) : small (reprText x).cps.toList := by
  have hq : reprQuote x < 0x110000 := by
    unfold reprQuote
    split <;> decide
  unfold reprText
  show small (Array.push _ _).toList
  rw [Array.toList_push, ← Array.foldl_toList]
  refine small_app (small_fold hq _ _ h ?_) ?_
  · intro d hd
    have : d = reprQuote x := by simpa using hd
    rw [this]; exact hq
  · intro d hd
    have : d = reprQuote x := by simpa using hd
    rw [this]; exact hq
theorem small_textFrom : ∀ (ts : List Str) (k : Nat) (acc : Str), (∀ t ∈ ts, small t.cps.toList) → small acc.cps.toList → small (textFrom k acc ts).cps.toList
  | [], _, _, _, h => h
  | t :: ts, k, acc, h, ha => by
    unfold textFrom
    exact small_textFrom ts _ _ (fun u hu => h u (List.mem_cons_of_mem _ hu)) (small_app' (small_app' ha (small_str _)) (h t List.mem_cons_self))
theorem small_join : ∀ (ts : List Str), (∀ t ∈ ts, small t.cps.toList) → small (Str.join ", " ts).cps.toList
  | [], _ => by
    have e : (Str.join ", " []) = Str.empty := rfl
    rw [e]
    intro c hc
    cases hc
  | [t], h => by
    have e : (Str.join ", " [t]) = t := rfl
    rw [e]; exact h t List.mem_cons_self
  | t :: u :: ts, h => by
    have e : (Str.join ", " (t :: u :: ts)) = t ++ ", " ++ Str.join ", " (u :: ts) := rfl
    rw [e]
    exact small_app' (small_app' (h t List.mem_cons_self) (small_str _)) (small_join (u :: ts) fun v hv => h v (List.mem_cons_of_mem _ hv))
mutual
theorem small_shown {K : PySem.W.Frag} {H : Hp} {Z : ZS} : ∀ (d : D) (v : V), Rp K H Z v d → flatDict d = true → small d.shown.cps.toList
  | .none, _, _, _ => small_str _
  | .bool b, _, _, _ => by cases b <;> exact small_str _
  | .int i, _, _, _ => small_str _
  | .str x, _, h, _ => by cases h with | str _ o => exact small_repr (strOk_iff.mp o.1)
  | .list ds, _, h, f => by
    cases h with
    | lst _ _ r => exact small_app' (small_textFrom _ _ _ (small_shownAll ds _ r (by simpa [flatDict] using f)) (small_str _)) (small_str _)
  | .tuple ds, _, h, f => by
    cases h with
    | tup _ _ r =>
      refine small_app' (small_app' (small_str _) (small_join _ (small_shownAll ds _ r (by simpa [flatDict] using f)))) ?_
      split <;> exact small_str _
  | .dict _, _, _, f => by cases f
theorem small_shownAll {K : PySem.W.Frag} {H : Hp} {Z : ZS} : ∀ (ds : List D) (vs : List V), RpAll K H Z vs ds → flatDictAll ds = true → ∀ t ∈ PyData.shownAll ds, small t.cps.toList
  | [], _, _, _, _, h => nomatch h
  | d :: ds, _, h, f, t, ht => by
    cases h with
    | cons a b =>
      simp only [flatDictAll, Bool.and_eq_true] at f
      simp only [PyData.shownAll, List.mem_cons] at ht
      rcases ht with rfl | ht
      · exact small_shown d _ a f.1
      · exact small_shownAll ds _ b f.2 t ht
end
mutual
theorem noDict_of : ∀ (d : D), flatDict d = true → d.hasDict = false
  | .none, _ => rfl
  | .bool _, _ => rfl
  | .int _, _ => rfl
  | .str _, _ => rfl
  | .list ds, h => noDict_all ds (by simpa [flatDict] using h)
  | .tuple ds, h => noDict_all ds (by simpa [flatDict] using h)
  | .dict _, h => by cases h
theorem noDict_all : ∀ (ds : List D), flatDictAll ds = true → PyData.hasDictAll ds = false
  | [], _ => rfl
  | d :: ds, h => by
    simp only [flatDictAll, Bool.and_eq_true] at h
    simp only [PyData.hasDictAll, noDict_of d h.1, noDict_all ds h.2, Bool.or_self]
end
def canRepr (d : D) : Bool := flatDict d && d.showable && decide (d.depth ≤ 64) && decide (d.shown.length ≤ sizeLine)
def biRepr (d : D) : Option Rs := if canRepr d = true then some (.sh (.str d.shown)) else none
def biList (d : D) : Option Rs := (itemsD d).map fun ds => .fr (.lst ds)
section
variable {X : Cx}
theorem bi_repr (hg : X.A.guards = some []) (hu : X.A.units + 70 < cLine) : CallR X (.builtin "repr") (rBi X.K (one biRepr)) := by
  intro pins s σ H xs us Q I r h
  obtain ⟨x, Z, d, rr, rfl, hx, dz, hf, q⟩ := rBi_one h
  unfold biRepr at hf
  split at hf
  · rename_i c
    cases hf
    simp only [canRepr, Bool.and_eq_true, decide_eq_true_eq] at c
    obtain ⟨⟨⟨c1, c2⟩, c3⟩, c4⟩ := c
    obtain ⟨u, rfl, rx⟩ := vals1 r
    have ok : SOk d.shown := ⟨strOk_iff.mpr (small_shown d x hx.rp0 c1), c4⟩
    have fin : ∀ (t : Tok) (s' : Shared), Inv X pins σ H s' → EP X pins σ Q (.str d.shown t) s' := fun t s' I' => ⟨.str d.shown, H, I', ⟨t, rfl⟩, q _ H (Gr.refl H) (.str _ ok)⟩
    obtain ⟨⟨as, rd⟩, _⟩ := RpT.reads I hx rx c1
    have nest : ∀ a : Addr, u = .ref a → wpAny (model X.prog X.w) X.A (PySem.call (.builtin "repr") [u]) (EP X pins σ Q) X.xe s := fun a e => by
      subst e
      exact repr_of_reads' rd c2 (fun z => by rw [noDict_of d c1] at z; cases z) hg (by omega) (fun _ _ e => e) (fun h' t tk k => fin t _ (I.kept (t' := tk) k)) c4
    cases rd with
    | none => exact P.repr_of_none (fin _ _ (I.tok _))
    | bool b => exact P.repr_of_bool (fin _ _ (I.tok _))
    | int i t => exact P.repr_of_int (by simpa [PyData.showable] using c2) (fin _ _ (I.tok _))
    | str y t => exact P.repr_of_str (fin _ _ (I.tok _)) c4
    | list _ _ _ _ => exact nest _ rfl
    | tuple _ _ _ _ => exact nest _ rfl
    | dict _ _ _ _ _ => cases c1
  · cases hf
theorem vals_signs {x : Str} {acc : Array Value} (it : ItemsOf (SignAt x) acc x.cps.size) : Vals (x.cps.toList.map fun c => V.str ⟨#[c]⟩) acc.toList := by
  refine vals_at (by have := it.1; simp only [List.length_map, Array.length_toList]; omega) fun j u hj => ?_
  obtain ⟨c, w, e1, rfl⟩ := it.2 j u (by rw [← Array.getElem?_toList]; exact hj)
  refine ⟨.str ⟨#[c]⟩, ?_, ⟨w, rfl⟩⟩
  rw [List.getElem?_map, Array.getElem?_toList, e1]
  rfl
theorem bi_list (hc : X.calm = true) : CallR X (.type "list") (rBi X.K (one biList)) := by
  intro pins s σ H xs us Q I r h
  obtain ⟨x, Z, d, rr, rfl, hx, dz, hf, q⟩ := rBi_one h
  obtain ⟨ds, hi, rfl⟩ := Option.map_eq_some_iff.mp hf
  unfold itemsD at hi
  split at hi
  · cases hi
    cases hx with
    | lst a b c => exact call_list_of pins s σ H _ us Q I r ⟨_, _, rfl, .inl (.inl a), fun p hp => q _ _ (Gr.upd hp) hp (newL hp b c)⟩
  · cases hi
    cases hx with
    | tup a b c => exact call_list_of pins s σ H _ us Q I r ⟨_, _, rfl, .inr a.sq, fun p hp => q _ _ (Gr.upd hp) hp (newL hp b c)⟩
  · cases hi
    cases hx with
    | str xx o =>
      rename_i y
      obtain ⟨u, rfl, rx⟩ := vals1 r
      obtain ⟨t, rfl⟩ := rx
      refine call_list_str (I.ok.hd hc) y t (fun h' tk acc c' k hS it => ?_) o.2
      have hp : H s.heap.objs.size = none := I.fresh
      have lz : (y.cps.toList.map fun c => V.str ⟨#[c]⟩).length ≤ sizeLine := by
        rw [List.length_map]
        exact o.2
      refine ⟨.ref s.heap.objs.size, upd H s.heap.objs.size (.lst (y.cps.toList.map fun c => V.str ⟨#[c]⟩)), I.laid (t' := tk) k (Nat.le_refl _) (show ObjOk X.prog X.w _ _ _ (.lst _) from ⟨lz, acc.toList, c', vals_signs it, by rw [Array.toArray_toList]; exact hS⟩), rfl, ?_⟩
      exact q _ _ (Gr.upd hp) hp (newL hp lz (rp_signs o _ fun _ z => z))
  · split at hi
    · rename_i kvs hn
      cases hi
      generalize ed : PyData.dict kvs = dd at hx
      cases hx with
      | @dic a kvs' ds h1 h2 h3 =>
        injection ed with ed
        have hlen := h3.length
        rw [List.length_map] at hlen
        have ek : kvs.map (·.1) = kvs'.map fun p => kD p.1 := by rw [ed, zip_fst (by rw [List.length_map, hlen])]
        rw [ek] at q
        refine call_listD hc pins s σ H _ us Q I r ⟨a, kvs', rfl, h1, fun p hp => q _ _ (Gr.upd hp) hp (newL hp (by rw [List.length_map]; exact h2.1) ?_)⟩
        have e3 : (kvs'.map fun p => kD p.1) = (kvs'.map (·.1)).map kD := by rw [List.map_map]; rfl
        have e4 : (kvs'.map fun p => kV p.1) = (kvs'.map (·.1)).map kV := by rw [List.map_map]; rfl
        rw [e3, e4]
        refine rp_keys _ fun q hq => ?_
        obtain ⟨p, hp, rfl⟩ := List.mem_map.mp hq
        exact h2.2 p hp
      | @dit a kvs' ds h1 h2 h3 =>
        injection ed with ed
        have hlen := h3.length
        rw [List.length_map] at hlen
        have ek : kvs.map (·.1) = kvs'.map fun p => kT p.1 := by rw [ed, zip_fst (by rw [List.length_map, hlen])]
        rw [ek] at q
        refine call_list_dT hc pins s σ H _ us Q I r ⟨a, kvs', rfl, h1, fun p bs hp hk => q _ _ (Gr.upd hp) hp (newL hp ?_ (rp_tupkeys I dz hk h2.2))⟩
        have := Paired.length hk
        rw [List.length_map]; omega
      | scr a b c =>
        injection ed with ed
        subst ed
        simp [notNone] at hn
      | _ => cases ed
    · cases hi
  · cases hi
end
end Kd

namespace Kd
open PySem PySem.Spec PyProof.Rows L2
/-! ### isinstance -/
inductive Ty where
  | str | int | bool | tuple | list | dict
def Ty.id : Ty → String
  | .str => "str" | .int => "int" | .bool => "bool" | .tuple => "tuple" | .list => "list" | .dict => "dict"
def isiD : Ty → D → Bool
  | .str, d => d.isStr
  | .int, d => d.isInt
  | .bool, d => d.isBool
  | .tuple, d => d.isTuple
  | .list, d => d.isList
  | .dict, d => d.isDict
section
variable {X : Cx}
theorem bi_isi (t : Ty) : CallR X (.builtin "isinstance") (fun xs H Q => ∃ x Z d, xs = [x, .ty t.id] ∧ RpT X.K H Z x d ∧ flatDict d = true ∧ Q (.bl (isiD t d)) H) := by
  intro pins s σ H xs us Q I r h
  obtain ⟨x, Z, d, rfl, hx, hf, q⟩ := h
  obtain ⟨u, w, rfl, rx, rw'⟩ := vals2 r
  cases (show w = Value.type t.id from rw')
  obtain ⟨⟨as, rd⟩, _⟩ := RpT.reads I hx rx hf
  have fin : ∀ tk, EP X pins σ Q (.bool (isiD t d)) { s with toks := tk } := fun tk => ⟨.bl _, H, I.tok tk, rfl, q⟩
  cases t with
  | str => exact PySem.W.isinstance_str_data rd fun tk _ => fin tk
  | int => exact PySem.W.isinstance_int_data rd fun tk _ => fin tk
  | bool => exact PySem.W.isinstance_bool_data rd fun tk _ => fin tk
  | tuple => exact PySem.W.isinstance_tuple_data rd fun tk _ => fin tk
  | list => exact PySem.W.isinstance_list_data rd fun tk _ => fin tk
  | dict => exact PySem.W.isinstance_dict_data rd fun tk _ => fin tk
end
/-! ### subscripts -/
def getKey (kvs : List (D × D)) (k : D) : Option D := (kvs.find? fun p => PyData.eqv p.1 k).map (·.2)
def ixD : D → D → Option D
  | .list ds, .int i => atI ds i
  | .tuple ds, .int i => atI ds i
  | .str x, .int i => (atI x.cps.toList i).map fun c => .str ⟨#[c]⟩
  | .dict [(.none, .list ds)], .int i => atI ds i
  | .dict kvs, x => match keyOf x, dkOf kvs with
    | some k, some l => lookK l k
    | _, _ => none
  | _, _ => none
theorem atI_rp {K : PySem.W.Frag} {H : Hp} {Z : ZS} {xs : List V} {ds : List D} {i : Int} {d : D} (h : RpAll K H Z xs ds) (e : atI ds i = some d) : ∃ v, atI xs i = some v ∧ Rp K H Z v d := by
  unfold atI at e ⊢
  rw [h.length]
  cases q : ixN ds.length i with
  | none => rw [q] at e; cases e
  | some j =>
    rw [q] at e
    exact h.get e
def rIxD (K : PySem.W.Frag) : R2 := fun x y H Q => ∃ Z dx dy r, RpT K H Z x dx ∧ RpT K H Z y dy ∧ ixD dx dy = some r ∧ ∀ v, Rp K H Z v r → Q v H
section
variable {X : Cx}
theorem ix_of_get {prog : Program} {w : World} {A : Around} {E : Value → Shared → Prop} {s : Shared} {vl sl : Expr} {o i : Value} {Q : Value → Shared → Prop} (hT : s.TypeIs o "dict") (hs : subscripted sl false o i = operate [o, i] (getItem o i))
    (hg : wpAny (model prog w) A (getItem o i) Q E s) : wpAny (model prog w) A (subscriptTail vl sl o i) Q E s := by
  have tail : wpAny (model prog w) A (subscripted sl false o i) (fun r s3 => wpAny (model prog w) A (letTemporaryGo vl o r >>= fun _ => pure r) Q E s3) E s := by
    rw [hs]
    exact wpAny_operating (wpAny_mono hg (fun r s3 q => wpAny_bind (wpAny_letTemporaryGo (wpAny_pure q))) fun _ _ z => z)
  unfold subscriptTail
  refine wpAny_bind ?_
  rw [getitemInPython_of_ne hT.not_modules]
  refine wpAny_bind (wpAny_specialOf hT PySem.F.slot_dict_getitem.lookup ?_)
  first
    | exact wpAny_pure (wpAny_bind tail)
    | exact wpAny_bind (wpAny_pure (wpAny_bind tail))
    | exact wpAny_bind tail
theorem ix_D (hu : X.A.units + 1 < cLine) : IxR X (rIxD X.K) := by
  intro value slice pins s σ H x y v u Q I rx ry h hs
  obtain ⟨Z, dx, dy, r, hx, hy, hr, q⟩ := h
  unfold ixD at hr
  split at hr
  · cases hy
    cases hx with
    | lst a b c =>
      obtain ⟨z, e, rz⟩ := atI_rp c hr
      exact ix_list value slice pins s σ H _ _ v u Q I rx ry ⟨_, _, _, z, rfl, rfl, .inl a, e, q z rz⟩ hs
  · cases hy
    cases hx with
    | tup a b c =>
      obtain ⟨z, e, rz⟩ := atI_rp c hr
      exact ix_tup value slice pins s σ H _ _ v u Q I rx ry ⟨_, _, _, z, rfl, rfl, a.sq, e, q z rz⟩ hs
  · cases hy
    cases hx with
    | str _ o =>
      obtain ⟨c, e, rfl⟩ := Option.map_eq_some_iff.mp hr
      refine ix_str value slice pins s σ H _ _ v u Q I rx ry ⟨_, _, c, rfl, rfl, o.2, e, q _ (.str _ (strOk_sign o ?_))⟩ hs
      unfold atI at e
      obtain ⟨j, _, e2⟩ := Option.bind_eq_some_iff.mp e
      exact List.mem_of_getElem? e2
  · cases hy
    rename_i ds i
    generalize ed : PyData.dict [(PyData.none, PyData.list ds)] = dd at hx
    cases hx with
    | scr a b c =>
      cases ed
      obtain ⟨z, e, rz⟩ := atI_rp c hr
      exact ix_list value slice pins s σ H _ _ v u Q I rx ry ⟨_, _, _, z, rfl, rfl, a, e, q z rz⟩ hs
    | @dic a kvs vs h1 h2 h3 =>
      exfalso
      injection ed with e
      cases kvs with
      | nil => cases e
      | cons p kvs =>
        cases vs with
        | nil => cases e
        | cons v vs =>
          simp only [List.map_cons, List.zip_cons_cons, List.cons.injEq, Prod.mk.injEq] at e
          obtain ⟨k, _⟩ := p
          cases k <;> cases e.1.1
    | @dit a kvs vs h1 h2 h3 =>
      exfalso
      injection ed with e
      cases kvs with
      | nil => cases e
      | cons p kvs =>
        cases vs with
        | nil => cases e
        | cons v vs =>
          simp only [List.map_cons, List.zip_cons_cons, List.cons.injEq, Prod.mk.injEq] at e
          cases e.1.1
    | _ => cases ed
  · split at hr
    · rename_i k l ek el
      have hne : l ≠ [] := fun z => by subst z; cases hr
      obtain ⟨a, vs, rfl, hr1, h1, h2⟩ := RpT.dk hx el hne
      have ex := rpt_key hy ek
      cases rx
      rcases look_rp k h1 h2 with ⟨e1, e2⟩ | ⟨d, v, e1, e2, rv⟩
      · rw [e1] at hr; cases hr
      · rw [e1] at hr
        cases hr
        have g : DGet H a y (some v) := .inl ⟨vs, k, hr1, ex, e2.symm⟩
        exact ix_of_get (dict_typeIs I g) hs (d_getItem hu I g ry fun w' s' I' rw' => ⟨v, H, I', rw', q v rv⟩)
    · cases hr
  · cases hr
end
/-! ### slices -/
def cutD (ds : List D) (lo hi : Option Int) : List D := (ds.drop (HT.sIx ds.length 0 lo)).take (HT.sIx ds.length ds.length hi - HT.sIx ds.length 0 lo)
def slD : D → Option Int → Option Int → Option Rs
  | .list ds, lo, hi => some (.fr (.lst (cutD ds lo hi)))
  | .tuple ds, lo, hi => some (.sh (.tuple (cutD ds lo hi)))
  | .str x, lo, hi => some (.sh (.str (cutS x lo hi)))
  | _, _, _ => none
theorem cut_rp {K : PySem.W.Frag} {H : Hp} {Z : ZS} {xs : List V} {ds : List D} (lo hi : Option Int) (h : RpAll K H Z xs ds) : RpAll K H Z (cutV xs lo hi) (cutD ds lo hi) := by
  unfold cutV cutD
  rw [h.length]
  exact (h.drop _).take _
def rSlD (K : PySem.W.Frag) : V → Option Int → Option Int → Hp → VK → Prop := fun x lo hi H Q => ∃ Z d r, RpT K H Z x d ∧ Dom H Z ∧ slD d lo hi = some r ∧ RsQ K H Z r Q
section
variable {X : Cx}
theorem sl_D : L2.SlR X (rSlD X.K) := by
  intro pins s σ H x v vl vu lo hi sl Q I rx hs pl pu h
  obtain ⟨Z, d, r, hx, dz, hr, q⟩ := h
  unfold slD at hr
  split at hr
  · cases hr
    cases hx with
    | lst a b c => exact sl_list pins s σ H _ v vl vu lo hi sl Q I rx hs pl pu ⟨_, _, rfl, .inl a, fun p hp => q _ _ (Gr.upd hp) hp (newL hp (Nat.le_trans (cutV_length _ _ _) b) (cut_rp lo hi c))⟩
  · cases hr
    cases hx with
    | tup a b c =>
      refine sl_tupA pins s σ H _ v vl vu lo hi sl Q I rx hs pl pu ⟨_, _, rfl, a.sq, fun e => ?_, fun _ p hp => q _ _ (Gr.upd hp) (newT dz hp (Nat.le_trans (cutV_length _ _ _) b) (cut_rp lo hi c))⟩
      rename_i xs
      have e2 : cutD ‹List D› lo hi = ‹List D› := by
        unfold cutD
        rw [← c.length, e.1, e.2, c.length]
        simp
      rw [e2] at q
      exact q _ H (Gr.refl H) (.tup a b c)
  · cases hr
    cases hx with
    | str _ o =>
      refine sl_str pins s σ H _ v vl vu lo hi sl Q I rx hs pl pu ⟨_, rfl, o.2, q _ H (Gr.refl H) (.str _ ⟨strOk_iff.mpr fun c hc => ?_, Nat.le_trans (cutS_length _ _ _) o.2⟩)⟩
      unfold cutS at hc
      exact strOk_iff.mp o.1 c (List.mem_of_mem_drop (List.mem_of_mem_take hc))
  · cases hr
end
/-! ### truth -/
def truD : D → Option Bool
  | .none => some false
  | .bool b => some b
  | .int i => some (i != 0)
  | .str x => some ((x.length : Int) != 0)
  | .list ds => some (!ds.isEmpty)
  | .tuple ds => some (!ds.isEmpty)
  | _ => none
theorem empty_rp {K : PySem.W.Frag} {H : Hp} {Z : ZS} {xs : List V} {ds : List D} (h : RpAll K H Z xs ds) : ds.isEmpty = xs.isEmpty := by cases h <;> rfl
theorem tru_V {K : PySem.W.Frag} {H : Hp} {Z : ZS} {x : V} {d : D} {b : Bool} (h : RpT K H Z x d) (e : truD d = some b) : TruV K x H b := by
  unfold truD at e
  split at e
  · cases e; cases h; rfl
  · cases e; cases h; rfl
  · cases e; cases h; rfl
  · cases e
    cases h with
    | str _ o => exact ⟨o.2, rfl⟩
  · cases e
    cases h with
    | lst a b c => exact .inl ⟨_, .inl a, by rw [empty_rp c]⟩
  · cases e
    cases h with
    | tup a b c => exact .inr (.inl ⟨_, a.sq, by rw [empty_rp c]⟩)
  · cases e
end Kd

namespace Kd
open PySem PySem.Spec PyProof.Rows L2
/-! ### keys -/
section
variable {K : PySem.W.Frag} {H : Hp} {Z : ZS}
theorem key_V {v : V} {d : D} {k : Key} (h : Rp K H Z v d) (e : keyOf d = some k) : v = kV k ∧ KOk k := by
  unfold keyOf at e
  split at e
  · cases e; cases h; exact ⟨rfl, trivial⟩
  · cases e
    cases h with
    | str _ o => exact ⟨rfl, o⟩
  · cases e
theorem keys_V : ∀ {vs : List V} {ds : List D} {ks : List Key}, RpAll K H Z vs ds → keysOf ds = some ks → vs = ks.map kV ∧ ∀ k ∈ ks, KOk k
  | _, _, _, .nil, e => by cases e; exact ⟨rfl, fun _ h => nomatch h⟩
  | _, _, ks, .cons (d := d) (ds := ds) h t, e => by
    unfold keysOf at e
    cases e1 : keyOf d with
    | none => rw [e1] at e; cases e
    | some k =>
      rw [e1] at e
      cases e2 : keysOf ds with
      | none => rw [e2] at e; cases e
      | some ks' =>
        rw [e2] at e
        cases e
        obtain ⟨rfl, o⟩ := key_V h e1
        obtain ⟨rfl, os⟩ := keys_V t e2
        exact ⟨rfl, fun q hq => by
          rcases List.mem_cons.mp hq with rfl | hq
          · exact o
          · exact os q hq⟩
end
/-! ### a dict's value by a key -/
def putD {κ : Type} [DecidableEq κ] (kvs : List (κ × D)) (k : κ) (d : D) : List (κ × D) :=
  if (kvs.any fun p => decide (p.1 = k)) = true then kvs.map (fun p => if p.1 = k then (p.1, d) else p) else kvs ++ [(k, d)]
section
variable {κ : Type} [DecidableEq κ] {K : PySem.W.Frag} {H : Hp} {Z : ZS}
theorem any_fst (k : κ) : ∀ {vs : List (κ × V)} {kvs : List (κ × D)}, vs.map (·.1) = kvs.map (·.1) → (vs.any fun p => decide (p.1 = k)) = kvs.any fun p => decide (p.1 = k)
  | [], [], _ => rfl
  | [], _ :: _, h => by simp at h
  | _ :: _, [], h => by simp at h
  | (a, v) :: vs, (b, d) :: kvs, h => by
    simp only [List.map_cons, List.cons.injEq] at h
    simp only [List.any_cons]
    rw [h.1, any_fst k h.2]
theorem put_map (k : κ) {v : V} {d : D} (rv : Rp K H Z v d) : ∀ {vs : List (κ × V)} {kvs : List (κ × D)}, vs.map (·.1) = kvs.map (·.1) → RpAll K H Z (vs.map (·.2)) (kvs.map (·.2)) →
    ((vs.map fun p => if p.1 = k then (p.1, v) else p).map (·.1) = (kvs.map fun p => if p.1 = k then (p.1, d) else p).map (·.1)) ∧
    RpAll K H Z ((vs.map fun p => if p.1 = k then (p.1, v) else p).map (·.2)) ((kvs.map fun p => if p.1 = k then (p.1, d) else p).map (·.2))
  | [], [], _, _ => ⟨rfl, .nil⟩
  | [], _ :: _, h, _ => by simp at h
  | _ :: _, [], h, _ => by simp at h
  | (a, w) :: vs, (b, e) :: kvs, h, r => by
    simp only [List.map_cons, List.cons.injEq] at h
    cases r with
    | cons r1 r2 =>
      obtain ⟨e1, h2⟩ := h
      subst e1
      obtain ⟨i1, i2⟩ := put_map k rv h2 r2
      by_cases q : a = k
      · simp only [List.map_cons, if_pos q, List.cons.injEq, true_and]
        exact ⟨i1, .cons rv i2⟩
      · simp only [List.map_cons, if_neg q, List.cons.injEq, true_and]
        exact ⟨i1, .cons r1 i2⟩
theorem put_rp (k : κ) {v : V} {d : D} (rv : Rp K H Z v d) {vs : List (κ × V)} {kvs : List (κ × D)} (h : vs.map (·.1) = kvs.map (·.1)) (r : RpAll K H Z (vs.map (·.2)) (kvs.map (·.2))) :
    (putK vs k v).map (·.1) = (putD kvs k d).map (·.1) ∧ RpAll K H Z ((putK vs k v).map (·.2)) ((putD kvs k d).map (·.2)) := by
  unfold putK putD
  rw [any_fst k h]
  split
  · exact put_map k rv h r
  · simp only [List.map_append, List.map_cons, List.map_nil]
    exact ⟨by rw [h], r.append (.cons rv .nil)⟩
theorem put_len (k : κ) (v : V) (vs : List (κ × V)) : (putK vs k v).length ≤ vs.length + 1 := by
  unfold putK
  split
  · simp
  · simp
theorem put_mem {k : κ} {v : V} {vs : List (κ × V)} {P : κ → Prop} (h : ∀ p ∈ vs, P p.1) (hk : P k) : ∀ p ∈ putK vs k v, P p.1 := by
  unfold putK
  split
  · intro p hp
    obtain ⟨q, hq, rfl⟩ := List.mem_map.mp hp
    split
    · exact h q hq
    · exact h q hq
  · intro p hp
    rcases List.mem_append.mp hp with hp | hp
    · exact h p hp
    · simp only [List.mem_cons, List.not_mem_nil, or_false] at hp
      subst hp
      exact hk
end
/-! ### methods that change an owned object -/
inductive Mu where
  | append | extend | pop | popAt | insert | remove | clear
def Mu.nm : Mu → Str
  | .append => "append" | .extend => "extend" | .pop => "pop" | .popAt => "pop" | .insert => "insert" | .remove => "remove" | .clear => "clear"
def muD : Mu → OO → List D → Option (OO × D)
  | .append, .lst ds, [d] => if ds.length < sizeLine then some (.lst (ds ++ [d]), .none) else none
  | .extend, .lst ds, [.list es] => if ds.length + es.length ≤ sizeLine then some (.lst (ds ++ es), .none) else none
  | .pop, .lst ds, [] => (ds[ds.length - 1]?).map fun d => (.lst ds.dropLast, d)
  | .popAt, .lst ds, [.int i] => match ixN ds.length i with
    | some j => (ds[j]?).map fun d => (.lst (ds.eraseIdx j), d)
    | none => none
  | .insert, .lst ds, [.int i, d] => if ds.length < sizeLine ∧ 0 ≤ i ∧ i < 2 ^ 62 then some (.lst (ds.take i.toNat ++ [d] ++ ds.drop i.toNat), .none) else none
  | .remove, .lst ds, [d] => if flatDict d && flatDictAll ds && decide (d.depth ≤ 64) then (SeqAt.dataPlace ds d).map fun j => (.lst (ds.eraseIdx j), .none) else none
  | .clear, .lst ds, [] => some (.lst [], .none)
  | _, _, _ => none
def rMu (K : PySem.W.Frag) (m : Mu) : V → List V → Hp → VK → Prop := fun x vs H Q => ∃ a Z ob ds ob' d, x = .ref a ∧ OAt K H Z a ob ∧ RpAll K H Z vs ds ∧ Z a ∧ muD m ob ds = some (ob', d) ∧
  ∀ v ho, OAt K (upd H a ho) Z a ob' → Rp K (upd H a ho) Z v d → Q v (upd H a ho)
def Mu.id : Mu → String
  | .append => "list.append" | .extend => "list.extend" | .pop => "list.pop" | .popAt => "list.pop" | .insert => "list.insert" | .remove => "list.remove" | .clear => "list.clear"
theorem Kp.upd {H : Hp} {Z : ZS} {a : Addr} {ho : HO} (h : Z a) : Kp H (upd H a ho) Z Z where
  rd := fun b u n r => by
    have ne : b ≠ a := fun e => n (e ▸ h)
    rcases r with r | ⟨o, r⟩
    · exact .inl (by rw [upd_ne ne]; exact r)
    · exact .inr ⟨o, by rw [upd_ne ne]; exact r⟩
  tp := fun b xs n r => by
    have ne : b ≠ a := fun e => n (e ▸ h)
    rw [upd_ne ne]; exact r
  nz := fun b u n _ => n
section
variable {X : Cx}
theorem mt_extendR : MtR X "list.extend" (fun x vs H Q => ∃ l b xs zs, x = .ref l ∧ vs = [.ref b] ∧ H l = some (.lst xs) ∧ Rd H b (.lst zs) ∧ xs.length + zs.length ≤ sizeLine ∧ Q .non (upd H l (.lst (xs ++ zs)))) := by
  intro pins s σ H x vs v us Q I rx rv h
  obtain ⟨l, b, xs, zs, rfl, rfl, hH, hB, hz, q⟩ := h
  cases rx
  obtain ⟨u, rfl, ru⟩ := rv.one
  cases ru
  obtain ⟨z, its, n, r, hl, e⟩ := I.lstM hH
  obtain ⟨z2, its2, n2, r2, hl2, e2⟩ := Inv.lstR I hB
  have hsz : its.toArray.size + its2.toArray.size ≤ sizeLine := by simp only [List.size_toArray]; omega
  have hlong : ¬ (!its.toArray.isEmpty && Builtin.List.listTooLong (its.toArray.size + its2.toArray.size)) = true := by
    rw [notLongL hsz, Bool.and_false]; decide
  refine call_meets F.slot_list_extend ⟨_, e, rfl⟩ F.entry_list_extend (F.args_list_extend_2 _ _)
    (AutoSeq1.list_extend_list_list_0 l its.toArray n b its2.toArray n2 hlong (by simp only [List.size_toArray]; omega) (by omega)) ⟨e, e2, ?_⟩
  exact ⟨.non, _, I.lset (its' := its ++ its2) hH e (by simp) (r.append r2) (by rw [List.length_append]; omega), rfl, q⟩
mutual
theorem flat_plain : ∀ d : D, flatDict d = true → d.plain = true
  | .none, _ => rfl
  | .bool _, _ => rfl
  | .int _, _ => rfl
  | .str _, _ => rfl
  | .list xs, h => flat_plains xs (by simpa [flatDict] using h)
  | .tuple xs, h => flat_plains xs (by simpa [flatDict] using h)
  | .dict _, h => by cases h
theorem flat_plains : ∀ ds : List D, flatDictAll ds = true → PyData.plainAll ds = true
  | [], _ => rfl
  | d :: ds, h => by
    simp only [flatDictAll, Bool.and_eq_true] at h
    simp only [PyData.plainAll, Bool.and_eq_true]
    exact ⟨flat_plain d h.1, flat_plains ds h.2⟩
end
theorem mt_mu (m : Mu) (hu : X.A.units + 70 < cLine) : MtR X m.id (rMu X.K m) := by
  intro pins s σ H x vs v us Q I rx rv h
  obtain ⟨a, Z, ob, ds, ob', d, rfl, hat, hvs, za, hm, q⟩ := h
  unfold muD at hm
  split at hm
  · split at hm
    · rename_i c
      cases hm
      obtain ⟨xs, e, z, r⟩ := hat
      cases hvs with
      | cons hv hn =>
        cases hn
        have l := r.length
        exact mt_append pins s σ H _ _ v us Q I rx rv ⟨a, xs, _, rfl, rfl, e, by omega, q _ _ ⟨_, upd_same, by simp; omega, (r.keep (Kp.upd za)).append (.cons (hv.keep (Kp.upd za)) .nil)⟩ .non⟩
    · cases hm
  · split at hm
    · rename_i c
      cases hm
      obtain ⟨xs, e, z, r⟩ := hat
      cases hvs with
      | cons hv hn =>
        cases hn
        have l := r.length
        cases hv with
        | lst h1 h2 h3 =>
          have l2 := h3.length
          exact mt_extendR pins s σ H _ _ v us Q I rx rv ⟨a, _, xs, _, rfl, rfl, e, h1.2, by omega, q _ _ ⟨_, upd_same, by simp; omega, (r.keep (Kp.upd za)).append (h3.keep (Kp.upd za))⟩ .non⟩
    · cases hm
  · obtain ⟨dd, e1, e2⟩ := Option.map_eq_some_iff.mp hm
    cases e2
    cases hvs
    obtain ⟨xs, e, z, r⟩ := hat
    have l := r.length
    obtain ⟨y, ey, ry⟩ := r.get e1
    refine mt_pop pins s σ H _ _ v us Q I rx rv ⟨a, xs, y, rfl, rfl, e, by rw [l]; exact ey, q _ _ ⟨_, upd_same, by rw [List.length_dropLast]; omega, ?_⟩ (ry.keep (Kp.upd za))⟩
    rw [List.dropLast_eq_take, List.dropLast_eq_take, l]
    exact (r.keep (Kp.upd za)).take _
  · split at hm
    · rename_i j hj
      obtain ⟨dd, e1, e2⟩ := Option.map_eq_some_iff.mp hm
      cases e2
      cases hvs with
      | cons hv hn =>
        cases hn
        cases hv
        obtain ⟨xs, e, z, r⟩ := hat
        have l := r.length
        obtain ⟨y, ey, ry⟩ := r.get e1
        obtain ⟨s1, s2, s3, s4⟩ := ixN_seq hj
        have := line63
        have le := len_erase xs j
        exact mt_popAt pins s σ H _ _ v us Q I rx rv ⟨a, xs, _, j, y, rfl, rfl, e, by omega, by omega, by rw [l]; exact s1, ey, q _ _ ⟨_, upd_same, by omega, (r.keep (Kp.upd za)).eraseIdx j⟩ (ry.keep (Kp.upd za))⟩
    · cases hm
  · split at hm
    · rename_i c
      cases hm
      obtain ⟨xs, e, z, r⟩ := hat
      cases hvs with
      | cons hv hn =>
        cases hn with
        | cons hv2 hn =>
          cases hn
          cases hv
          have l := r.length
          have c3 : (_ : Int) < 2 ^ 63 := Int.lt_trans c.2.2 (by decide)
          exact mt_insert pins s σ H _ _ v us Q I rx rv ⟨a, xs, _, _, rfl, rfl, e, by omega, c.2.1, c3, q _ _ ⟨_, upd_same, by simp only [List.length_append, List.length_take, List.length_drop, List.length_singleton]; omega, (((r.keep (Kp.upd za)).take _).append (.cons (hv2.keep (Kp.upd za)) .nil)).append ((r.keep (Kp.upd za)).drop _)⟩ .non⟩
    · cases hm
  · split at hm
    · rename_i c
      simp only [Bool.and_eq_true, decide_eq_true_eq] at c
      obtain ⟨j, hj, e2⟩ := Option.map_eq_some_iff.mp hm
      cases e2
      obtain ⟨xs, e, z, r⟩ := hat
      cases hvs with
      | cons hv hn =>
        cases hn
        cases rx
        obtain ⟨u, rfl, ru⟩ := rv.one
        obtain ⟨z', its, n, r', hl, eo⟩ := I.lstM e
        obtain ⟨as, rd⟩ := Rp.readsAll I _ _ its r r' c.1.2
        obtain ⟨bs, rx⟩ := Rp.reads I _ _ _ hv ru c.1.1
        have l := r.length
        have le := len_erase xs j
        have jl : j < xs.length := by
          obtain ⟨h1, _⟩ := List.findIdx?_eq_some_iff_getElem.mp hj
          omega
        refine SeqAt.remove_list_data (vs := its.toArray) ⟨_, eo, rfl, n, rfl⟩ (by simpa using rd) rx (flat_plains _ c.1.2) (flat_plain _ c.1.1) ?_ hj (by rw [List.size_toArray]; omega) ?_
        · rename_i ds0 d0 _
          have m1 : min (PyData.depthAll ds0) (PyData.depth d0) ≤ PyData.depth d0 := Nat.min_le_right _ _
          have m2 := c.2
          omega
        · refine ⟨.non, _, I.lset (its' := its.eraseIdx j) (t' := s.toks) e eo ?_ (r'.eraseIdx j) (by omega), rfl, q _ _ ⟨_, upd_same, by omega, (r.keep (Kp.upd za)).eraseIdx j⟩ .non⟩
          show its.toArray.eraseIdxIfInBounds j = (its.eraseIdx j).toArray
          rw [List.eraseIdxIfInBounds_toArray]
    · cases hm
  · cases hm
    cases hvs
    obtain ⟨xs, e, z, r⟩ := hat
    exact mt_clear pins s σ H _ _ v us Q I rx rv ⟨a, xs, rfl, rfl, e, q _ _ ⟨_, upd_same, Nat.zero_le _, .nil⟩ .non⟩
  · cases hm
/-! ### stores -/
def setD : OO → D → D → Option OO
  | .lst ds, .int i, d => (ixN ds.length i).map fun j => .lst (ds.set j d)
  | .dK kvs, k, d => match keyOf k with
    | some k => if kvs.length < sizeLine then some (.dK (putD kvs k d)) else none
    | none => none
  | .dT kvs, .tuple es, d => match keysOf es with
    | some ks => if kvs.length < sizeLine then some (.dT (putD kvs ks d)) else none
    | none => none
  | _, _, _ => none
def rSetD (K : PySem.W.Frag) : TSet := fun o i v H Q => ∃ a Z ob di d ob', o = .ref a ∧ OAt K H Z a ob ∧ Rp K H Z i di ∧ Rp K H Z v d ∧ Z a ∧ setD ob di d = some ob' ∧ ∀ ho, OAt K (upd H a ho) Z a ob' → Q (upd H a ho)
theorem set_D (hu : X.A.units + 1 < cLine) : PSet X (rSetD X.K) := by
  intro pins s σ H o i v ov iv u Q I ro ri rv h
  obtain ⟨a, Z, ob, di, d, ob', rfl, hat, hi, hv, za, hm, q⟩ := h
  unfold setD at hm
  split at hm
  · obtain ⟨j, hj, rfl⟩ := Option.map_eq_some_iff.mp hm
    cases hi
    obtain ⟨xs, e, z, r⟩ := hat
    exact set_list pins s σ H _ _ v ov iv u Q I ro ri rv ⟨a, xs, _, j, rfl, rfl, e, by rw [r.length]; exact hj, q _ ⟨_, upd_same, by rw [List.length_set]; exact z, (r.keep (Kp.upd za)).set (hv.keep (Kp.upd za)) j⟩⟩
  · split at hm
    · rename_i k hk
      split at hm
      · rename_i c
        cases hm
        obtain ⟨ei, ko⟩ := key_V hi hk
        subst ei
        obtain ⟨vs, e, ⟨z, zk⟩, ke, r⟩ := hat
        cases ro
        have l := congrArg List.length ke
        simp only [List.length_map] at l
        have hz : vs.length < sizeLine := by omega
        refine d_setItem hu I (.inl ⟨vs, k, e, rfl, hz, rfl⟩) ri rv fun s' I' => ⟨_, I', q _ ?_⟩
        obtain ⟨p1, p2⟩ := put_rp k (hv.keep (Kp.upd (ho := .dK (putK vs k v)) za)) ke (r.keep (Kp.upd za))
        exact ⟨_, upd_same, ⟨Nat.le_trans (put_len k v vs) hz, put_mem zk ko⟩, p1, p2⟩
      · cases hm
    · cases hm
  · split at hm
    · rename_i ks hk
      split at hm
      · rename_i c
        cases hm
        cases hi with
        | tup h1 h2 h3 =>
          obtain ⟨ei, ko⟩ := keys_V h3 hk
          subst ei
          obtain ⟨vs, e, ⟨z, zk⟩, ke, r⟩ := hat
          cases ro
          have l := congrArg List.length ke
          simp only [List.length_map] at l
          have hz : vs.length < sizeLine := by omega
          refine d_setItem hu I (.inr ⟨vs, ks, _, e, rfl, h1.2, hz, rfl⟩) ri rv fun s' I' => ⟨_, I', q _ ?_⟩
          obtain ⟨p1, p2⟩ := put_rp ks (hv.keep (Kp.upd (ho := .dT (putK vs ks v)) za)) ke (r.keep (Kp.upd za))
          exact ⟨_, upd_same, ⟨Nat.le_trans (put_len ks v vs) hz, put_mem (P := fun k => ∀ q ∈ k, KOk q) zk ko⟩, p1, p2⟩
      · cases hm
    · cases hm
  · cases hm
end
end Kd

namespace Kd
open PySem PySem.Spec PyProof.Rows L2
inductive Me where
  | join
  | index
def Me.T : Me → String
  | .join => "str"
  | .index => "str"
def Me.nm : Me → Str
  | .join => "join"
  | .index => "index"
def Me.id : Me → String
  | .join => "str.join"
  | .index => "str.index"
def strsIn : D → Option (List Str)
  | .list ds => strsOf ds
  | .tuple ds => strsOf ds
  | _ => none
def meD : Me → D → List D → Option Rs
  | .join, .str a, [d] => match strsIn d with
    | some ys => if (ys.map (·.length)).sum + ys.length * a.length ≤ sizeLine then some (.sh (.str (Str.join a ys))) else none
    | none => none
  | .index, .str a, [.str b] => match Builtin.Str.occurrences a b 0 a.length 1 with
    | i :: _ => some (.sh (.int (i : Nat)))
    | [] => none
  | _, _, _ => none
theorem small_joinG {a : Str} (ha : small a.cps.toList) : ∀ (ts : List Str), (∀ t ∈ ts, small t.cps.toList) → small (Str.join a ts).cps.toList
  | [], _ => by
    have e : (Str.join a []) = Str.empty := rfl
    rw [e]
    intro c hc
    cases hc
  | [t], h => by
    have e : (Str.join a [t]) = t := rfl
    rw [e]; exact h t List.mem_cons_self
  | t :: u :: ts, h => by
    have e : (Str.join a (t :: u :: ts)) = t ++ a ++ Str.join a (u :: ts) := rfl
    rw [e]
    exact small_app' (small_app' (h t List.mem_cons_self) ha) (small_joinG ha (u :: ts) fun v hv => h v (List.mem_cons_of_mem _ hv))
theorem join_len (a : Str) : ∀ (ts : List Str), (Str.join a ts).length ≤ (ts.map (·.length)).sum + ts.length * a.length
  | [] => by
    have e : (Str.join a []) = Str.empty := rfl
    rw [e]; exact Nat.zero_le _
  | [t] => by
    have e : (Str.join a [t]) = t := rfl
    rw [e]; simp
  | t :: u :: ts => by
    have e : (Str.join a (t :: u :: ts)) = t ++ a ++ Str.join a (u :: ts) := rfl
    have ih := join_len a (u :: ts)
    rw [e, len_app, len_app]
    simp only [List.map_cons, List.sum_cons, List.length_cons, Nat.add_mul, Nat.one_mul] at ih ⊢
    omega
def rMe (K : PySem.W.Frag) (m : Me) : V → List V → Hp → VK → Prop := fun x vs H Q => ∃ Z d ds r, RpT K H Z x d ∧ RpTs K H Z vs ds ∧ Dom H Z ∧ meD m d ds = some r ∧ RsQ K H Z r Q
section
variable {X : Cx}
theorem mt_me (m : Me) : MtR X m.id (rMe X.K m) := by
  intro pins s σ H x vs v us Q I rx rv h
  obtain ⟨Z, d, ds, r, hx, hvs, dz, hm, q⟩ := h
  unfold meD at hm
  split at hm
  · split at hm
    · rename_i ys hy
      split at hm
      · rename_i c
        cases hm
        cases hvs with
        | cons hv hn =>
          cases hn
          cases hx with
          | str _ oa =>
            have c' := c
            rw [sizeLine_eq] at c'
            unfold strsIn at hy
            split at hy
            · cases hv with
              | lst h1 h2 h3 =>
                obtain ⟨rfl, oy⟩ := strs_V h3 hy
                refine mt_join pins s σ H _ _ v us Q I rx rv ⟨_, _, ys, rfl, rfl, .inl (.inl h1), c', ?_⟩
                rw [TL.join_eq]
                exact q _ H (Gr.refl H) (.str _ ⟨strOk_iff.mpr (small_joinG (strOk_iff.mp oa.1) ys fun t ht => strOk_iff.mp (oy t ht).1), Nat.le_trans (join_len _ _) c⟩)
            · cases hv with
              | tup h1 h2 h3 =>
                obtain ⟨rfl, oy⟩ := strs_V h3 hy
                refine mt_join pins s σ H _ _ v us Q I rx rv ⟨_, _, ys, rfl, rfl, .inr h1.sq, c', ?_⟩
                rw [TL.join_eq]
                exact q _ H (Gr.refl H) (.str _ ⟨strOk_iff.mpr (small_joinG (strOk_iff.mp oa.1) ys fun t ht => strOk_iff.mp (oy t ht).1), Nat.le_trans (join_len _ _) c⟩)
            · cases hy
      · cases hm
    · cases hm
  · split at hm
    · rename_i i rest ho
      cases hm
      cases hvs with
      | cons hv hn =>
        cases hn
        cases hx with
        | str _ oa =>
          cases hv with
          | str _ ob => exact mt_sindex pins s σ H _ _ v us Q I rx rv ⟨_, _, i, rest, rfl, rfl, ho, q _ H (Gr.refl H) (.int _)⟩
    · cases hm
  · cases hm
end
end Kd

namespace Kd
open PySem PySem.Spec PyProof.Rows L2
def pairsOf : List D → Option (List (Key × D))
  | [] => some []
  | .tuple [k, v] :: r => match keyOf k, pairsOf r with
    | some k, some r => some ((k, v) :: r)
    | _, _ => none
  | _ :: _ => none
def mergeD (acc l : List (Key × D)) : List (Key × D) := l.foldl (fun acc p => putD acc p.1 p.2) acc
def biDict : D → Option Rs
  | .list ds => (pairsOf ds).map fun l => .fr (.dK (mergeD [] l))
  | _ => none
section
variable {K : PySem.W.Frag} {H : Hp} {Z : ZS}
theorem pairs_V : ∀ {xs : List V} {ds : List D} {l : List (Key × D)}, RpAll K H Z xs ds → pairsOf ds = some l →
    ∃ (ps : List Addr) (kvs : List (Key × V)), xs = ps.map V.ref ∧ Paired (fun p kv => SqT K H p [kV kv.1, kv.2]) ps kvs ∧ kvs.map (·.1) = l.map (·.1) ∧ RpAll K H Z (kvs.map (·.2)) (l.map (·.2)) ∧ ∀ p ∈ kvs, KOk p.1
  | _, _, _, .nil, e => by
    cases e
    exact ⟨[], [], rfl, .nil, rfl, .nil, fun _ h => nomatch h⟩
  | _, _, _, .cons (d := d) (ds := ds) r1 r2, e => by
    unfold pairsOf at e
    split at e
    · rename_i heq; cases heq
    · rename_i k v r heq
      cases heq
      split at e
      · rename_i k' r' ek er
        cases e
        obtain ⟨ps, kvs, e1, e2, e3, e4, e5⟩ := pairs_V r2 er
        cases r1 with
        | tup a b c =>
          cases c with
          | cons c1 c2 =>
            cases c2 with
            | cons c2 c3 =>
              cases c3
              obtain ⟨rfl, ko⟩ := key_V c1 ek
              refine ⟨_ :: ps, (k', _) :: kvs, by rw [e1]; rfl, .cons a.sq e2, by simp [e3], .cons c2 e4, fun p hp => ?_⟩
              rcases List.mem_cons.mp hp with q | q
              · rw [q]; exact ko
              · exact e5 p q
      · cases e
    · cases e
theorem merge_rp : ∀ {kvs : List (Key × V)} {l : List (Key × D)} {vs : List (Key × V)} {acc : List (Key × D)}, kvs.map (·.1) = l.map (·.1) → RpAll K H Z (kvs.map (·.2)) (l.map (·.2)) → (∀ p ∈ kvs, KOk p.1) →
    vs.map (·.1) = acc.map (·.1) → RpAll K H Z (vs.map (·.2)) (acc.map (·.2)) → (∀ p ∈ vs, KOk p.1) →
    (mergeK vs kvs).map (·.1) = (mergeD acc l).map (·.1) ∧ RpAll K H Z ((mergeK vs kvs).map (·.2)) ((mergeD acc l).map (·.2)) ∧ (∀ p ∈ mergeK vs kvs, KOk p.1) ∧ (mergeK vs kvs).length ≤ vs.length + kvs.length
  | [], [], vs, acc, _, _, _, h1, h2, h3 => ⟨h1, h2, h3, Nat.le_refl _⟩
  | [], _ :: _, _, _, h, _, _, _, _, _ => by simp at h
  | _ :: _, [], _, _, h, _, _, _, _, _ => by simp at h
  | (k, v) :: kvs, (k', d) :: l, vs, acc, e, r, ko, h1, h2, h3 => by
    simp only [List.map_cons, List.cons.injEq] at e
    obtain ⟨rfl, e⟩ := e
    cases r with
    | cons r1 r2 =>
      obtain ⟨a1, a2⟩ := put_rp k r1 h1 h2
      have a3 := put_mem (v := v) h3 (ko (k, v) List.mem_cons_self)
      have a4 := put_len k v vs
      obtain ⟨b1, b2, b3, b4⟩ := merge_rp e r2 (fun p hp => ko p (List.mem_cons_of_mem _ hp)) a1 a2 a3
      refine ⟨b1, b2, b3, ?_⟩
      have : (mergeK vs ((k, v) :: kvs)).length ≤ (putK vs k v).length + kvs.length := b4
      simp; omega
end
theorem bi_dict {X : Cx} (hc : X.calm = true) : CallR X (.type "dict") (rBi X.K (one biDict)) := by
  intro pins s σ H xs us Q I r h
  obtain ⟨x, Z, d, rr, rfl, hx, dz, e, q⟩ := rBi_one h
  unfold biDict at e
  split at e
  · obtain ⟨l, e1, rfl⟩ := Option.map_eq_some_iff.mp e
    cases hx with
    | lst a b c =>
      obtain ⟨ps, kvs, rfl, h1, h2, h3, h4⟩ := pairs_V c e1
      refine call_dictP hc pins s σ H _ us Q I r ⟨_, ps, kvs, rfl, .inl a, h1, fun p hp => ?_⟩
      obtain ⟨b1, b2, b3, b4⟩ := merge_rp (vs := []) (acc := []) h2 h3 h4 rfl .nil (fun _ h => nomatch h)
      have hpl := Paired.length h1
      refine q p _ (Gr.upd hp) hp ⟨_, upd_same, ⟨?_, b3⟩, b1, b2.keep (Kp.new (Gr.upd hp) hp)⟩
      simp at b b4
      omega
  · cases e
end Kd

namespace Kd
open PySem PySem.Spec PyProof.Rows L2
def lenKey : D → D
  | .str x => .int (x.length : Nat)
  | _ => .int 0
def isStrD : D → Bool
  | .str _ => true
  | _ => false
def srtLen (rv : Bool) (ds : List D) : List D := ds.mergeSort (PySem.W.dataLe rv lenKey)
def sortKD (rv : Bool) (d : D) : Option (List D) := match itemsD d with
  | some ds => if ds.all isStrD = true then some (srtLen rv ds) else none
  | none => none
def kwLen (rv : Bool) : List (Str × Value) := if rv = true then [(Str.ofString "key", .builtin "len"), (Str.ofString "reverse", .bool true)] else [(Str.ofString "key", .builtin "len")]
section
variable {X : Cx} {pins : List (Addr × Obj)} {σ : L2.St} {H : Hp} {s : Shared} {Z : ZS}
theorem each_str (I : Inv X pins σ H s) : ∀ {vs : List V} {ds : List D} {us : List Value}, RpAll X.K H Z vs ds → Vals vs us → PySem.W.EachIs (fun u (b : V × D) => RelV b.1 u ∧ Rp X.K H Z b.1 b.2) us (vs.zip ds)
  | _, _, _, .nil, .nil => .nil
  | _, _, _, .cons h t, .cons r q => .cons ⟨r, h⟩ (each_str I t q)
theorem bi_sortK (rv : Bool) (hc : X.calm = true) (hu : X.A.units + 70 < cLine) {x : V} {u : Value} {d : D} {ds : List D} {Q : VK} (I : Inv X pins σ H s) (rx : RelV x u) (hx : RpT X.K H Z x d) (dz : Dom H Z) (hf : sortKD rv d = some ds) (q : RsQ X.K H Z (.fr (.lst ds)) Q) :
    wpAny (model X.prog X.w) X.A (PySem.call (.builtin "sorted") [u] (kwLen rv)) (EP X pins σ Q) X.xe s := by
  unfold sortKD at hf
  cases hi : itemsD d with
  | none => rw [hi] at hf; cases hf
  | some es =>
    rw [hi] at hf
    simp only at hf
    split at hf
    · rename_i cs
      cases hf
      have isS : ∀ e ∈ es, ∃ y, e = .str y := fun e he => by
        have := List.all_eq_true.mp cs e he
        cases e with
        | str y => exact ⟨y, rfl⟩
        | _ => cases this
      have a1 : argsOk "sorted" ⟨[u], kwLen rv⟩ := by cases rv; exact PyProof.Rows.ksk_s1 _ _; exact PyProof.Rows.ksk_s2 _ _ _
      have a2 : ∀ a, argsOk "list.sort" ⟨[.ref a], kwLen rv⟩ := fun a => by cases rv; exact PyProof.Rows.ksk_l1 _ _; exact PyProof.Rows.ksk_l2 _ _ _
      have a3 : ∀ a, Builtin.«list.sort» ⟨[.ref a], kwLen rv⟩ = PyProof.Rows.ksk_tree a (.builtin "len") rv := fun a => by cases rv; exact PyProof.Rows.ksk_t4 _ _; exact PyProof.Rows.ksk_t5 _ _ _
      refine call_function_entry_kw kind_sorted plain_sorted entry_sorted a1 ?_
      unfold Builtin.«sorted»
      refine wpAny_bind (m := checkCount "sorted" 1 1 _) (wpAny_pure ?_)
      refine wpAny_bind (collectD I dz hx rx hi (I.ok.hd hc) fun us vs s' I' hv hr hl => ?_)
      refine wpAny_bind (wpAny_newList ?_ hl)
      have lv := hv.length
      have ld := hr.length
      have hp : H s'.heap.objs.size = none := I'.fresh
      have hat : (s'.heap.push { cls := .type "list", data := .seq us.toArray }).get? s'.heap.objs.size = some (seqObj "list" us.toArray 0) := Heap.get?_push_size _ rfl
      have em : (vs.zip es).map (·.2) = es := map_snd_zip (by omega)
      have kint : ∀ e : V × D, ∃ n : Int, lenKey e.2 = .int n := fun e => by cases e.2 <;> exact ⟨_, rfl⟩
      refine wpAny_bind (wpAny_holding (PySem.W.list_sort_key_data (s := { s' with heap := s'.heap.push { cls := .type "list", data := .seq us.toArray } }) (bs := vs.zip es) (b := rv) (f := .builtin "len") (fun b : V × D => lenKey b.2) hat (each_str I' hr hv) ?_ ?_ ?_ ?_ (a2 _) (a3 _) ?_ fun out c h' tk kp ho hlen he => ?_))
      · intro a ha b hb
        obtain ⟨e, _, rfl⟩ := List.mem_map.mp ha
        obtain ⟨e', _, rfl⟩ := List.mem_map.mp hb
        obtain ⟨n, hn⟩ := kint e
        obtain ⟨m, hm⟩ := kint e'
        rw [hn, hm]
        simp [PySem.W.alike]
      · refine .inr fun a ha => ?_
        obtain ⟨e, _, rfl⟩ := List.mem_map.mp ha
        obtain ⟨n, hn⟩ := kint e
        rw [hn]
        exact ⟨(fun z => PyData.noConfusion z), (fun xs z => PyData.noConfusion z)⟩
      · rw [List.length_zip]; omega
      · intro b hb
        obtain ⟨n, hn⟩ := kint b
        rw [hn]
        show X.A.units + 1 + 1 + (PyData.int n).depth < cLine
        simp only [PyData.depth]
        omega
      · intro v b hR hb h tk kp
        obtain ⟨r1, r2⟩ := hR
        have hm : b.2 ∈ es := by rw [← em]; exact List.mem_map_of_mem hb
        obtain ⟨y, ey⟩ := isS _ hm
        obtain ⟨b1, b2⟩ := b
        simp only at ey r1 r2 hm
        subst ey
        cases r2 with
        | str _ o =>
          obtain ⟨t, rfl⟩ := r1
          have := o.2
          have l63 := line63
          refine PySem.P.len_str (s := { s' with heap := h, toks := tk }) (by omega) ?_
          exact ⟨h, tk + 1 + 1, rfl, fun b o e => e, Reads.int _ _⟩
      · obtain ⟨b1, b2⟩ := each_back (X := X) he
        have es' : ((vs.zip es).mergeSort (PySem.W.dataLe rv fun b : V × D => lenKey b.2)).map (·.2) = srtLen rv es := by
          unfold srtLen
          rw [PySem.W.sort_maps (r := PySem.W.dataLe rv fun b : V × D => lenKey b.2) (s := PySem.W.dataLe rv lenKey) (fun b : V × D => b.2) (fun _ _ _ _ => rfl), em]
        rw [es'] at b2
        have lo := b1.length
        have lz : (vs.zip es).length = us.length := by rw [List.length_zip]; omega
        refine wpAny_pure ⟨_, rfl, ?_⟩
        refine ⟨.ref s'.heap.objs.size, upd H s'.heap.objs.size (.lst (((vs.zip es).mergeSort (PySem.W.dataLe rv fun b : V × D => lenKey b.2)).map (·.1))), ?_, rfl, ?_⟩
        · refine I'.laid (t' := tk) (fun b o e => ?_) (Nat.le_refl _) ⟨by omega, out, c, b1, ho⟩
          have hlt := Heap.lt_size e
          exact kp b o (Nat.ne_of_lt hlt) (Heap.get?_push_of_some _ e)
        · exact q _ _ (Gr.upd hp) hp (newL hp (by omega) b2)
    · cases hf
end
/-- the keywords -/
def kwsLen (rv : Bool) (q k1 k2 p2 : Pos) (j : Nat) : List Keyword := if rv = true then [⟨some (Str.ofString "key"), .Name "len" q, k1⟩, ⟨some (Str.ofString "reverse"), .Constant (.bool true) j p2, k2⟩] else [⟨some (Str.ofString "key"), .Name "len" q, k1⟩]
def tSrtK (K : PySem.W.Frag) (rv : Bool) (te : TE) : TE := fun σ H Q => te σ H fun x H1 => ∃ Z d ds, RpT K H1 Z x d ∧ Dom H1 Z ∧ sortKD rv d = some ds ∧ RsQ K H1 Z (.fr (.lst ds)) Q
theorem pe_srtK {X : Cx} {e : Expr} {te : TE} {p pos q k1 k2 p2 : Pos} {j : Nat} (rv : Bool) (hc : X.calm = true) (hu : X.A.units + 70 < cLine) (hg : Gl X "sorted") (hm : X.mg "sorted" = none) (hgl : Gl X "len") (hml : X.mg "len" = none) (he : PE X e te)
    (hs : starEach [e] X.env = (false, eval e X.env) :: starEach [] X.env) : PE X (.Call (.Name "sorted" p) [e] (kwsLen rv q k1 k2 p2 j) pos) (tSrtK X.K rv te) := by
  refine ⟨fun pins s σ H Q I h => ?_⟩
  have kw : ∀ (s1 : Shared) (σ1 : L2.St) (H1 : Hp) (R : List Value → Shared → Prop), Inv X pins σ1 H1 s1 → (∀ s2, Inv X pins σ1 H1 s2 → R ((kwLen rv).map (·.2)) s2) → wpAny (model X.prog X.w) X.A (evalAll ((backToKw pos (keywordEach (kwsLen rv q k1 k2 p2 j) X.env)).map (·.2))) R X.xe s1 := by
    intro s1 σ1 H1 R I1 hR
    cases rv with
    | false =>
      show wpAny _ _ (evalAll [(do let v ← eval (.Name "len" q) X.env; standAt pos; pure v)]) _ _ s1
      refine wpAny_evalAll_cons (wpAny_bind (ld_blt I1 hgl hml (u := .builtin "len") (by kernel_rfl) (wpAny_bind (wpAny_standAt (wpAny_pure (wpAny_evalAll_nil ?_)))) (by decide) (by decide)))
      exact hR s1 I1
    | true =>
      show wpAny _ _ (evalAll [(do let v ← eval (.Name "len" q) X.env; standAt pos; pure v), (do let v ← eval (.Constant (.bool true) j p2) X.env; standAt pos; pure v)]) _ _ s1
      refine wpAny_evalAll_cons (wpAny_bind (ld_blt I1 hgl hml (u := .builtin "len") (by kernel_rfl) (wpAny_bind (wpAny_standAt (wpAny_pure ?_))) (by decide) (by decide)))
      have hb := (pe_bl (X := X) (b := true) (j := j) (pos := p2)).run pins s1 σ1 H1 (fun v H2 => v = .bl true ∧ H2 = H1) I1 ⟨rfl, rfl⟩
      refine wpAny_evalAll_cons (wpAny_bind (thn hb fun v s2 hh => ?_))
      obtain ⟨x, H2, I2, r, rfl, rfl⟩ := hh
      cases r
      exact wpAny_bind (wpAny_standAt (wpAny_pure (wpAny_evalAll_nil (hR s2 I2))))
  have k1' : (backToKw pos (keywordEach (kwsLen rv q k1 k2 p2 j) X.env)).all (·.1.isSome) = true := by cases rv <;> rfl
  have k2' : (backToKw pos (keywordEach (kwsLen rv q k1 k2 p2 j) X.env)).any (·.1.isNone) = false := by cases rv <;> rfl
  have k3 : ((backToKw pos (keywordEach (kwsLen rv q k1 k2 p2 j) X.env)).filterMap (·.1)).zip ((kwLen rv).map (·.2)) = kwLen rv := by cases rv <;> rfl
  refine wpAny_Call_Name_kw (ld_blt I hg hm (u := .builtin "sorted") (by kernel_rfl) ?_ (by decide) (by decide))
  refine PyProof.Rows.callWith_kw (args_cons (thn (he.run pins s σ H _ I h) fun u s1 hh => args_nil ?_) hs) (by rw [hs]; rfl) (by rw [hs]; rfl) k1' k2'
  obtain ⟨x, H1, I1, rx, Z, d, ds, hx, dz, hf, qq⟩ := hh
  refine kw s1 σ H1 _ I1 fun s2 I2 => ?_
  rw [k3]
  exact bi_sortK rv hc hu I2 rx hx dz hf qq
end Kd

namespace Kd
open PySem PySem.Spec PyProof.Rows L2
/-! ### a set of texts, walkable -/
def txE (e : Int × Value) : Str := match e.2 with | .str k _ => k | _ => Str.empty
def TxE (w : World) (e : Int × Value) : Prop := ∃ k t, e.2 = Value.str k t ∧ e.1 = hashStr w k
structure TxPay (w : World) (es : Array (Int × Value)) (t : SetTable) (l : List Str) : Prop where
  good : ∀ e ∈ es.toList, TxE w e
  perm : (es.toList.map txE).Perm l
  nd : l.Nodup
  fits : t.fits es.size = true
  ris : Ris t.place.toList
  led : w.params.followText "set-order" = true ∨ t.led = true
def TxSet (w : World) (h : Heap) (a : Addr) (l : List Str) : Prop := ∃ o es ep t, h.get? a = some o ∧ o.ExactSet ∧ o.data = .set es ep t ∧ TxPay w es t l
def addS (l : List Str) (k : Str) : List Str := if k ∈ l then l else l ++ [k]
def dedS (xs : List Str) : List Str := xs.foldl addS []
theorem addS_nd {l : List Str} {k : Str} (h : l.Nodup) : (addS l k).Nodup := by
  unfold addS
  split
  · exact h
  · rename_i n
    exact List.nodup_append.mpr ⟨h, by simp, fun a ha b hb => by simp at hb; subst hb; exact fun z => n (z ▸ ha)⟩
theorem addS_len (l : List Str) (k : Str) : (addS l k).length ≤ l.length + 1 := by
  unfold addS
  split
  · omega
  · simp
theorem foldS_len (xs : List Str) : ∀ l : List Str, (xs.foldl addS l).length ≤ l.length + xs.length := by
  induction xs with
  | nil => intro l; simp
  | cons x xs ih =>
    intro l
    have := ih (addS l x)
    have := addS_len l x
    simp only [List.foldl_cons, List.length_cons]
    omega
theorem mem_addS {l : List Str} {k x : Str} : x ∈ addS l k ↔ x ∈ l ∨ x = k := by
  unfold addS
  split
  · rename_i h
    exact ⟨.inl, fun z => z.elim id fun e => e ▸ h⟩
  · simp
theorem foldS_mem (xs : List Str) : ∀ (l : List Str) (x : Str), x ∈ xs.foldl addS l ↔ x ∈ l ∨ x ∈ xs := by
  induction xs with
  | nil => intro l x; simp
  | cons y xs ih =>
    intro l x
    simp only [List.foldl_cons, ih, mem_addS, List.mem_cons]
    constructor
    · rintro ((h | h) | h)
      · exact .inl h
      · exact .inr (.inl h)
      · exact .inr (.inr h)
    · rintro (h | h | h)
      · exact .inl (.inl h)
      · exact .inl (.inr h)
      · exact .inr h
theorem mem_dedS {xs : List Str} {x : Str} : x ∈ dedS xs ↔ x ∈ xs := by
  unfold dedS
  rw [foldS_mem]
  simp
theorem foldS_nd (xs : List Str) : ∀ l : List Str, l.Nodup → (xs.foldl addS l).Nodup := by
  induction xs with
  | nil => intro l h; exact h
  | cons x xs ih => intro l h; exact ih _ (addS_nd h)
theorem dedS_nd (xs : List Str) : (dedS xs).Nodup := foldS_nd xs [] .nil
section
variable {P : Program} {w : World} {A : Around} {E : Value → Shared → Prop} {s : Shared} {a : Addr}
theorem tx_elems {l : List (Int × Value)} (g : ∀ e ∈ l, TxE w e) : ElemsOf (PySem.strKind P w) l := fun e he => by
  obtain ⟨k, t, h1, h2⟩ := g e he
  exact ⟨⟨k, by rw [h1]; exact strKind_is _ _ _ _, h2⟩, by rw [h1] <;> rfl⟩
theorem tx_is {e : Int × Value} (g : TxE w e) (k : Str) : (PySem.strKind P w).is k e.2 = true ↔ txE e = k := by
  obtain ⟨k0, t, h1, _⟩ := g
  unfold txE
  rw [h1]
  show ((k0 == k) = true) ↔ k0 = k
  exact beq_iff_eq
theorem TxPay.size {es : Array (Int × Value)} {t : SetTable} {l : List Str} (p : TxPay w es t l) : es.size = l.length := by
  have := p.perm.length_eq
  rw [List.length_map, Array.length_toList] at this
  exact this
theorem TxPay.mem {es : Array (Int × Value)} {t : SetTable} {l : List Str} (p : TxPay w es t l) (k : Str) : k ∈ l ↔ ∃ e ∈ es.toList, (PySem.strKind P w).is k e.2 = true := by
  rw [← p.perm.mem_iff, List.mem_map]
  exact ⟨fun ⟨e, he, q⟩ => ⟨e, he, (tx_is (p.good e he) k).2 q⟩, fun ⟨e, he, q⟩ => ⟨e, he, (tx_is (p.good e he) k).1 q⟩⟩
/-- the table laid anew holds the same -/
theorem TxPay.relay {es es' : Array (Int × Value)} {t t' : SetTable} {l : List Str} (p : TxPay w es t l) (pm : es'.toList.Perm es.toList) (hf : t'.fits es'.size = true) (hr : Ris t'.place.toList) (hl : t'.led = t.led) : TxPay w es' t' l :=
  ⟨fun e he => p.good e (pm.mem_iff.mp he), (pm.map txE).trans p.perm, p.nd, hf, hr, p.led.imp id fun z => by rw [hl]; exact z⟩
theorem tx_tail {g : Bool → Sem Unit} (hg : ∀ (b : Bool) (s₁ : Shared) (Q' : Unit → Shared → Prop), Q' () s₁ → wpAny (model P w) A (g b) Q' E s₁)
    {o : Obj} {es : Array (Int × Value)} {ep : Nat} {t : SetTable} (ho : s.heap.get? a = some o) (hex : o.ExactSet) (hd : o.data = .set es ep t)
    {es1 : Array (Int × Value)} {t2 : SetTable} {l : List Str} (p1 : TxPay w es1 t2 l) (hb : l.length < scanBound) {wasDummy : Bool} {R : Option Bool → Shared → Prop}
    (hR : ∀ h', Heap.SameBut a s.heap h' → TxSet w h' a l → R (some true) { s with heap := h' }) :
    wpAny (model P w) A (do
        storeSet a es1 t2
        if (!wasDummy && t2.tooFull) = true then do
            g (relayAll t2 es1 (SetTable.grown es1.size)).2.2
            storeSet a (relayAll t2 es1 (SetTable.grown es1.size)).1 (relayAll t2 es1 (SetTable.grown es1.size)).2.1
            pure (some true)
          else pure (some true)) R E s := by
  have hb1 : es1.size < scanBound := by rw [p1.size]; exact hb
  refine wpAny_bind (wpAny_storeSet_of ho hd ?_ (fits_of_scanBound hb1))
  have ho1 := store_at (es' := es1) (t' := t2) ho hd
  have sb1 := Heap.SameBut.update s.heap a (Obj.putSet es1 t2)
  split
  · have p2 := p1.relay (relayAll_perm t2 es1 (SetTable.grown es1.size)) (relayAll_fits t2 es1 (SetTable.grown es1.size)) (relayAll_ris t2 es1 (SetTable.grown es1.size)) (relayAll_led t2 es1 (SetTable.grown es1.size))
    generalize relayAll t2 es1 (SetTable.grown es1.size) = Z at p2 ⊢
    obtain ⟨es2, t3, gave⟩ := Z
    dsimp only at p2 ⊢
    have hb2 : es2.size < scanBound := by rw [p2.size]; exact hb
    refine wpAny_bind (hg _ _ _ ?_)
    refine wpAny_bind (wpAny_storeSet_of ho1 rfl ?_ (fits_of_scanBound hb2))
    have ho2 := store_at (es' := es2) (t' := t3) ho1 rfl
    exact wpAny_pure (hR _ (sb1.trans (Heap.SameBut.update _ a _)) ⟨_, es2, _, t3, ho2, hex, rfl, p2⟩)
  · exact wpAny_pure (hR _ sb1 ⟨_, es1, _, t2, ho1, hex, rfl, p1⟩)
theorem tx_add {l : List Str} {k : Str} {tk : Tok} {Q : Bool → Shared → Prop} (R : TxSet w s.heap a l) (room : l.length + 1 < scanBound)
    (hQ : ∀ h' b, Heap.SameBut a s.heap h' → TxSet w h' a (addS l k) → Q b { s with heap := h' }) :
    wpAny (model P w) A (setAddHashed a (.str k tk) ((PySem.strKind P w).hash k)) Q E s := by
  obtain ⟨o, es, ep, t, ho, hex, hd, pay⟩ := R
  have hkey : (PySem.strKind P w).is k (.str k tk) = true := strKind_is _ _ _ _
  have hsc : (Value.str k tk).scannable = true := rfl
  have hel : ElemsOf (PySem.strKind P w) es.toList := tx_elems pay.good
  have hb : es.size < scanBound := by rw [pay.size]; omega
  unfold setAddHashed setAddHashedIn
  refine wpAny_holding (wpAny_bind (wpAny_setState_of ho hd pay.fits ?_))
  dsimp only
  rw [byScan_of hsc hb hel]
  simp only [↓reduceIte]
  unfold setAddByScan
  refine wpAny_bind ?_
  refine wpAny_bind (wpAny_rule ?_)
  refine wpAny_bind (wpAny_setScan_of hkey ho hd pay.fits hel ?_)
  cases hfi : List.findIdx? (fun e => (PySem.strKind P w).is k e.2) es.toList with
  | some j =>
    dsimp only
    obtain ⟨hj, pj, _⟩ := List.findIdx?_eq_some_iff_getElem.mp hfi
    have hm : k ∈ l := (pay.mem (P := P) k).2 ⟨es.toList[j], List.getElem_mem hj, pj⟩
    have e : addS l k = l := if_pos hm
    refine wpAny_pure (wpAny_pure ?_)
    exact hQ s.heap _ (Heap.SameBut.refl a s.heap) (by rw [e]; exact ⟨o, es, ep, t, ho, hex, hd, pay⟩)
  | none =>
    dsimp only
    have hm : k ∉ l := fun z => by
      obtain ⟨e, he, q⟩ := (pay.mem (P := P) k).1 z
      have c := List.findIdx?_eq_none_iff.mp hfi e he
      rw [q] at c
      cases c
    have e : addS l k = l ++ [k] := if_neg hm
    have hgw : ∀ (b : Bool) {s₁ : Shared} {Q' : Unit → Shared → Prop}, Q' () s₁ → wpAny (model P w) A (match b with | true => rule "set.scan.the-table-gave-way" | false => pure ()) Q' E s₁ :=
      fun b s₁ Q' q => by cases b <;> first | exact wpAny_pure q | exact wpAny_rule q
    have pm := layNew_perm t es ((PySem.strKind P w).hash k) (.str k tk)
    have hf1 := layNew_fits t es ((PySem.strKind P w).hash k) (.str k tk)
    have hr1 := layNew_ris t es ((PySem.strKind P w).hash k) (.str k tk) pay.ris
    have hl1 := layNew_led t es ((PySem.strKind P w).hash k) (.str k tk)
    generalize layNew t es ((PySem.strKind P w).hash k) (.str k tk) = Z at pm hf1 hr1 hl1 ⊢
    obtain ⟨es1, t1, wasDummy, gave⟩ := Z
    dsimp only at pm hf1 hr1 hl1 ⊢
    rw [Array.toList_push] at pm
    have p1 : TxPay w es1 t1 (l ++ [k]) := by
      refine ⟨fun e he => ?_, ?_, ?_, hf1, hr1, pay.led.imp id fun z => by rw [hl1]; exact z⟩
      · rcases List.mem_append.mp (pm.mem_iff.mp he) with z | z
        · exact pay.good e z
        · rw [List.mem_singleton.mp z]
          exact ⟨k, tk, rfl, rfl⟩
      · have q := pm.map txE
        rw [List.map_append] at q
        exact q.trans (pay.perm.append (List.Perm.refl _))
      · exact e ▸ addS_nd pay.nd
    have hb1 : (l ++ [k]).length < scanBound := by simp; omega
    rw [e] at hQ
    refine wpAny_bind (hgw _ ?_)
    split
    · refine wpAny_bind ?_
      rw [hashByValue_scannable 8 hsc]
      refine wpAny_pure ?_
      have p2 : ∀ {t2 : SetTable}, t2.fits es1.size = true → t2.place = t1.place → t2.led = t1.led → TxPay w es1 t2 (l ++ [k]) := fun h1 h2 h3 => p1.relay (List.Perm.refl _) h1 (by rw [h2]; exact hr1) h3
      refine tx_tail ?_ ho hex hd (l := l ++ [k]) ?_ hb1 ?_
      · intro b s₁ Q' q; cases b <;> first | exact wpAny_pure q | exact wpAny_rule q
      · first | (split <;> first | exact p1 | exact p2 (SetTable.fits_plain_off hf1) rfl rfl) | exact p1
      · intro h' sb r; dsimp only; exact wpAny_pure (hQ h' _ sb r)
    · refine wpAny_bind (wpAny_pure ?_)
      simp only [↓reduceIte]
      refine tx_tail ?_ ho hex hd p1 hb1 ?_
      · intro b s₁ Q' q; cases b <;> first | exact wpAny_pure q | exact wpAny_rule q
      · intro h' sb r; dsimp only; exact wpAny_pure (hQ h' _ sb r)
theorem TxSet.at {h h' : Heap} {l : List Str} (R : TxSet w h a l) (k : ∀ o, h.get? a = some o → h'.get? a = some o) : TxSet w h' a l := by
  obtain ⟨o, es, ep, t, ho, r⟩ := R
  exact ⟨o, es, ep, t, k o ho, r⟩
end
/-! ### set(..) -/
section
variable {prog : Program} {w : World} {A : Around} {R : Result → Shared → Prop} {I : Addr} {fp wr : List Addr} {G : Array GenState → Array GenState → Prop} {n : Nat} {P : Nat → Value → Prop} {St : Nat → Shared → Prop}
theorem tx_loop (W : WalksS prog w A.in1 I fp wr G n P St) (S : Addr) (hSf : S ∉ fp) (xs : List Str) (hsz : xs.length = n) (hn1 : n < 4000)
    (hval : ∀ i v, P i v → ∃ x t, xs[i]? = some x ∧ v = .str x t) :
    ∀ (k i : Nat) (s : Shared), n - i = k → i ≤ n → St i s → TxSet w s.heap S (dedS (xs.take i)) →
      (∀ s', Moved (S :: wr) G s s' → TxSet w s'.heap S (dedS xs) → R (.ok (.ret .none)) s') →
      codeAny (model prog w) A (.builtin "set.update.loop" ⟨[.ref S, .ref I], []⟩) R s := by
  have hSw : S ∉ wr := fun h => hSf (W.sub _ h)
  have hsub : ∀ b ∈ wr, b ∈ S :: wr := fun b hb => List.mem_cons_of_mem _ hb
  intro k
  induction k with
  | zero =>
    intro i s hk hi hst hS hR
    have hin : i = n := by omega
    subst hin
    refine codeAny_builtin PyProof.Rows.F.entry_set_update_loop ?_
    rw [Around.under_plainId PyProof.Rows.F.plain_set_update_loop _]
    show wpAny _ A.in1 (pyNext (.ref I) >>= _) _ _ s
    refine wpAny_bind (W.done s _ _ hst fun s' hm => ?_)
    show wpAny _ A.in1 (ret Value.none) _ _ s'
    rw [List.take_of_length_le (by omega)] at hS
    exact wpAny_pure (hR s' (hm.mono hsub) (hS.at fun o e => hm.heap S _ hSw e))
  | succ k ih =>
    intro i s hk hi hst hS hR
    have hlt : i < n := by omega
    refine codeAny_builtin PyProof.Rows.F.entry_set_update_loop ?_
    rw [Around.under_plainId PyProof.Rows.F.plain_set_update_loop _]
    show wpAny _ A.in1 (pyNext (.ref I) >>= _) _ _ s
    refine wpAny_bind (W.item i s _ _ hlt hst fun v s' hP hst' hm => ?_)
    obtain ⟨x, t, hx, rfl⟩ := hval i v hP
    have hS' := hS.at (h' := s'.heap) fun o e => hm.heap S _ hSw e
    have step : dedS (xs.take (i + 1)) = addS (dedS (xs.take i)) x := by
      have hl : i < xs.length := by omega
      rw [List.getElem?_eq_getElem hl] at hx
      cases hx
      unfold dedS
      rw [List.take_succ_eq_append_getElem hl, List.foldl_append]
      rfl
    have hlen : (dedS (xs.take i)).length + 1 < scanBound := by
      have := foldS_len (xs.take i) []
      unfold dedS
      simp only [List.length_nil, List.length_take] at this
      unfold scanBound
      omega
    show wpAny _ A.in1 (holding [Value.str x t] (setAdd S (.str x t)) >>= _) _ _ s'
    refine wpAny_bind (wpAny_holding ?_)
    unfold setAdd
    refine wpAny_holding ?_
    refine wpAny_bind ((PySem.strKind prog w).pyHash (k := x) (strKind_is _ _ _ _) ?_)
    refine tx_add (s := { s' with toks := s'.toks + 1 }) hS' hlen fun h' bb hsb hS2 => ?_
    rw [← step] at hS2
    refine wpAny_pure ⟨plainId_quiet PyProof.Rows.F.plain_set_update_loop _, ih (i + 1) _ (by omega) hlt (W.frame _ s' _ _ hst' (Nat.le_succ _) fun b hb o e => ?_) hS2 fun s'' hm'' hS'' => ?_⟩
    · rw [hsb.2 b (fun h : b = S => hSf (by rw [← h]; exact hb))]; exact e
    · refine hR s'' (Moved.trans W.gtrans ((hm.mono hsub).then_heap (Nat.le_succ _) fun b o hb e => ?_) hm'') hS''
      rw [hsb.2 b (fun h : b = S => hb (by rw [h]; exact List.mem_cons_self))]; exact e
end
section
variable {prog : Program} {w : World} {A : Around} {E : Value → Shared → Prop} {s : Shared}
abbrev newSetO (w : World) : Obj := { cls := .type "set", dict := none, data := .set #[] 0 (.fresh 0 0 (!w.params.followText "set-order")) }
theorem tx_fresh {h : Heap} (w : World) : TxSet w (h.push (newSetO w)) h.objs.size [] :=
  ⟨_, #[], 0, _, Heap.get?_push_size _ rfl, ⟨rfl, rfl, rfl⟩, rfl, (fun e he => by simp at he), (by simp), .nil, (by rfl), List.Pairwise.nil, by
    show _ ∨ (!w.params.followText "set-order") = true
    cases w.params.followText "set-order"
    · exact .inr rfl
    · exact .inl rfl⟩
theorem code_set_led1 (x : Value) {Q₁ : Value → Shared → Prop} (h : Q₁ (.ref s.heap.objs.size) { s with heap := s.heap.push (newSetO w) }) :
    codeAny (model prog w) A (.call (.builtin "set.__new__") ⟨[.type "set", x], []⟩) (wants Q₁ E) s := by
  refine codeAny_of_tree ?_
  show wpAny _ A.in1 (do checkBuiltinCall "set.__new__" ⟨[.type "set", x], []⟩; again (.builtin "set.__new__" ⟨[.type "set", x], []⟩)) _ _ s
  refine wpAny_bind (wpAny_of_eq (F.newCall_set_1 x) (wpAny_pure ⟨plainId_quiet F.plain_set_new _, codeAny_builtin F.entry_set_new ?_⟩))
  rw [Around.under_plainId F.plain_set_new _]
  unfold Builtin.«set.__new__» Builtin.Frozenset.newClass
  have hsub := sub_set_self
  obtain ⟨hp, g, d, tk, os⟩ := s
  dsimp only
  wp_walk
  refine wpAny_askSetting (wpAny_pure ?_)
  dsimp only
  simp only [newObj]
  refine wpAny_bind (wpAny_alloc (wpAny_pure ?_))
  exact wpAny_pure h
/-- set(x): x told by what updateFrom does with it -/
theorem call_set_by {x : Value} {Y : Heap → Prop} {Q : Value → Shared → Prop}
    (hup : ∀ (A' : Around) (E' : Value → Shared → Prop) (Q' : Unit → Shared → Prop), A'.handled = A.handled → A'.units ≤ A.units + 8 → (∀ (h' : Heap) (tk : Nat), Y h' → (∀ b o, b < s.heap.objs.size → s.heap.get? b = some o → h'.get? b = some o) → Q' () { s with heap := h', toks := tk }) →
      wpAny (model prog w) A' (Builtin.Frozenset.updateFrom "set.__init__" s.heap.objs.size x) Q' E' { s with heap := s.heap.push (newSetO w) })
    (h : ∀ (h' : Heap) (tk : Nat), Y h' → (∀ b o, b < s.heap.objs.size → s.heap.get? b = some o → h'.get? b = some o) → Q (.ref s.heap.objs.size) { s with heap := h', toks := tk }) :
    wpAny (model prog w) A (call (.type "set") [x]) Q E s := by
  obtain ⟨c, tl, hmro⟩ := PySem.F.called_set.mro
  have hmade := PySem.F.called_set.made
  have hsub := PySem.F.called_set.sub
  refine wpAny_call (codeAny_of_tree ?_)
  show wpAny _ _ (callAny (.type "set") _) _ _ _
  refine wpAny_pure ⟨Code.quiet_builtin _ (by decide +kernel), codeAny_builtin PySem.F.entry_type_call ?_⟩
  rw [Around.under_plain (weight_type_call_type "set" [x] []) rfl]
  have h1 := PySem.F.called_set.notType
  have h2 := PySem.F.called_set.canCreate
  have hct := PySem.F.typeCall_set_1 x
  repeat (any_goals (first | assumption | wp_step))
  refine codeAny_mono (code_set_led1 x (E := E) (Q₁ := fun obj s₁ => obj = .ref s.heap.objs.size ∧ s₁ = { s with heap := s.heap.push (newSetO w) }) ⟨rfl, rfl⟩) fun r s₁ hr => ?_
  cases r with
  | error e => exact hr
  | ok fl =>
    cases fl with
    | ret obj =>
      obtain ⟨rfl, rfl⟩ := hr
      have hS : (s.heap.push (newSetO w)).get? s.heap.objs.size = some (newSetO w) := Heap.get?_push_size _ rfl
      have hT : Shared.TypeIs { s with heap := s.heap.push (newSetO w) } (.ref s.heap.objs.size) "set" := ⟨_, hS, rfl⟩
      have hli := PySem.F.called_set.init.lookup
      have hbi := PySem.F.called_set.init.bind (.ref s.heap.objs.size)
      repeat (any_goals (first | assumption | wp_step))
      refine codeAny_mono (codeAny_call_builtin (R := wants (fun r s₂ => r = .none ∧ ∃ h' tk, s₂ = { s with heap := h', toks := tk } ∧ Y h' ∧
          (∀ b o, b < s.heap.objs.size → s.heap.get? b = some o → h'.get? b = some o)) E) PySem.F.called_set.init.plain PySem.F.entry_set_init (check_set_init_1 hT ?_)) fun r₂ s₂ hr₂ => ?_
      · unfold Builtin.«set.__init__» noKeywords
        generalize hPI : Builtin.Frozenset.updateFrom = PI at hup ⊢
        wp_walk
        refine hup _ _ _ ?_ ?_ fun h' tk hS' hk => ?_
        · rfl
        · simp only [Around.in1_units]
          omega
        · show wpAny _ _ (ret Value.none) _ _ _
          exact wpAny_pure ⟨rfl, h', tk, rfl, hS', hk⟩
      · cases r₂ with
        | error e => exact hr₂
        | ok fl₂ =>
          cases fl₂ with
          | ret r =>
            obtain ⟨rfl, h', tk, rfl, hS', hk'⟩ := hr₂
            repeat (any_goals (first | assumption | wp_step))
            exact h _ _ hS' hk'
          | _ => exact hr₂.elim
    | _ => exact hr.elim
end
section
variable {prog : Program} {w : World} {A : Around} {E : Value → Shared → Prop} {s : Shared}
/-- updateFrom, of a new set -/
theorem upd_list {S : Addr} {l : Addr} {items : Array Value} {xs : List Str} {Q : Unit → Shared → Prop} (hh : A.handled = none) (hS : TxSet w s.heap S []) (hl : s.heap.IsList l items) (hlen : xs.length = items.size) (hn : xs.length < 4000) (hval : ∀ (i : Nat) (v : Value), items[i]? = some v → ∃ x t, xs[i]? = some x ∧ v = .str x t)
    (h : ∀ (h' : Heap) (tk : Nat), TxSet w h' S (dedS xs) → (∀ b o, b ≠ S → s.heap.get? b = some o → h'.get? b = some o) → Q () { s with heap := h', toks := tk }) :
    wpAny (model prog w) A (Builtin.Frozenset.updateFrom "set.__init__" S (.ref l)) Q E s := by
  have hT : s.TypeIs (.ref l) "list" := let ⟨o, e, c, _⟩ := hl; ⟨o, e, c⟩
  have any : ∀ {Q' : Bool → Shared → Prop}, Q' false s → wpAny (model prog w) A (Builtin.Frozenset.isAnySet (.ref l)) Q' E s := fun {Q'} hq => by
    unfold Builtin.Frozenset.isAnySet orM
    refine wpAny_bind (wpAny_isInstance hT PySem.F.sub_list_set ?_)
    show wpAny _ _ (isInstance (.ref l) (.type "frozenset")) _ _ s
    exact wpAny_isInstance hT PySem.F.sub_list_frozenset hq
  have hne : (Value.type "list" == Value.type "dict") = false := by decide
  unfold Builtin.Frozenset.updateFrom
  refine wpAny_bind (any ?_)
  simp only [Bool.false_eq_true, if_false]
  refine wpAny_bind (wpAny_typeOf hT ?_)
  simp only [hne, Bool.false_eq_true, if_false]
  have hSl : S < s.heap.objs.size := by
    obtain ⟨o, _, _, _, e, _⟩ := hS
    exact Heap.lt_size e
  have hlt : l < s.heap.objs.size := by obtain ⟨_, e, _⟩ := hl; exact Heap.lt_size e
  have hlS : l ≠ S := by
    obtain ⟨o, _, _, _, e, hx, hd, _⟩ := hS
    obtain ⟨o', e', hc, n, hd'⟩ := hl
    intro z
    subst z
    rw [e] at e'
    cases e'
    rw [hd] at hd'
    cases hd'
  refine wpAny_bind (wpAny_pyIter_list hl ?_)
  refine wpAny_bind (wpAny_runValue ?_)
  refine tx_loop ((Walks.list (A := A.in1) hh _ l (Nat.ne_of_lt hlt) items).toS) S ?_ xs (n := items.size) ?_ (by rw [← hlen]; exact hn) hval (items.size - 0) 0 _ (by omega) (Nat.zero_le _) ⟨⟨_, Heap.get?_push_size _ rfl, rfl, rfl⟩, (hl.push _)⟩ ?_ ?_
  · simp only [List.mem_cons, List.not_mem_nil, or_false, not_or]
    exact ⟨Nat.ne_of_lt hSl, Ne.symm hlS⟩
  · exact hlen
  · exact hS.at fun o e => Heap.get?_push_of_some _ e
  · intro s' hm hS'
    obtain ⟨h', g', d', tk', os'⟩ := s'
    have eg : g' = s.gens := hm.gens
    have ed : d' = s.drawn := hm.drawn
    have eo : os' = s.os := hm.os
    subst eg; subst ed; subst eo
    show wpAny _ _ _ _ _ _
    refine wpAny_pure ?_
    refine h h' tk' hS' fun b o hb e => ?_
    refine hm.heap b o ?_ (Heap.get?_push_of_some _ e)
    simp only [List.mem_cons, List.not_mem_nil, or_false, not_or]
    exact ⟨hb, Nat.ne_of_lt (Heap.lt_size e)⟩

/-- updateFrom, of a new set -/
theorem upd_tuple {S : Addr} {l : Addr} {items : Array Value} {xs : List Str} {Q : Unit → Shared → Prop} (hh : A.handled = none) (hS : TxSet w s.heap S []) (hl : s.heap.IsTuple l items) (hlen : xs.length = items.size) (hn : xs.length < 4000) (hval : ∀ (i : Nat) (v : Value), items[i]? = some v → ∃ x t, xs[i]? = some x ∧ v = .str x t)
    (h : ∀ (h' : Heap) (tk : Nat), TxSet w h' S (dedS xs) → (∀ b o, b ≠ S → s.heap.get? b = some o → h'.get? b = some o) → Q () { s with heap := h', toks := tk }) :
    wpAny (model prog w) A (Builtin.Frozenset.updateFrom "set.__init__" S (.ref l)) Q E s := by
  have hT : s.TypeIs (.ref l) "tuple" := let ⟨o, e, c, _⟩ := hl; ⟨o, e, c⟩
  have any : ∀ {Q' : Bool → Shared → Prop}, Q' false s → wpAny (model prog w) A (Builtin.Frozenset.isAnySet (.ref l)) Q' E s := fun {Q'} hq => by
    unfold Builtin.Frozenset.isAnySet orM
    refine wpAny_bind (wpAny_isInstance hT PySem.F.sub_tuple_set ?_)
    show wpAny _ _ (isInstance (.ref l) (.type "frozenset")) _ _ s
    exact wpAny_isInstance hT PySem.F.sub_tuple_frozenset hq
  have hne : (Value.type "tuple" == Value.type "dict") = false := by decide
  unfold Builtin.Frozenset.updateFrom
  refine wpAny_bind (any ?_)
  simp only [Bool.false_eq_true, if_false]
  refine wpAny_bind (wpAny_typeOf hT ?_)
  simp only [hne, Bool.false_eq_true, if_false]
  have hSl : S < s.heap.objs.size := by
    obtain ⟨o, _, _, _, e, _⟩ := hS
    exact Heap.lt_size e
  have hlt : l < s.heap.objs.size := by obtain ⟨_, e, _⟩ := hl; exact Heap.lt_size e
  have hlS : l ≠ S := by
    obtain ⟨o, _, _, _, e, hx, hd, _⟩ := hS
    obtain ⟨o', e', hc, n, hd'⟩ := hl
    intro z
    subst z
    rw [e] at e'
    cases e'
    rw [hd] at hd'
    cases hd'
  refine wpAny_bind (wpAny_pyIter_tuple hl ?_)
  refine wpAny_bind (wpAny_runValue ?_)
  refine tx_loop ((Walks.tuple (A := A.in1) hh _ l (Nat.ne_of_lt hlt) items).toS) S ?_ xs (n := items.size) ?_ (by rw [← hlen]; exact hn) hval (items.size - 0) 0 _ (by omega) (Nat.zero_le _) ⟨⟨_, Heap.get?_push_size _ rfl, rfl, rfl⟩, (hl.push _)⟩ ?_ ?_
  · simp only [List.mem_cons, List.not_mem_nil, or_false, not_or]
    exact ⟨Nat.ne_of_lt hSl, Ne.symm hlS⟩
  · exact hlen
  · exact hS.at fun o e => Heap.get?_push_of_some _ e
  · intro s' hm hS'
    obtain ⟨h', g', d', tk', os'⟩ := s'
    have eg : g' = s.gens := hm.gens
    have ed : d' = s.drawn := hm.drawn
    have eo : os' = s.os := hm.os
    subst eg; subst ed; subst eo
    show wpAny _ _ _ _ _ _
    refine wpAny_pure ?_
    refine h h' tk' hS' fun b o hb e => ?_
    refine hm.heap b o ?_ (Heap.get?_push_of_some _ e)
    simp only [List.mem_cons, List.not_mem_nil, or_false, not_or]
    exact ⟨hb, Nat.ne_of_lt (Heap.lt_size e)⟩

/-- updateFrom, of a new set -/
theorem upd_str {S : Addr} {x : Str} {tk0 : Tok} {xs : List Str} {Q : Unit → Shared → Prop} (hh : A.handled = none) (hS : TxSet w s.heap S []) (hlen : xs.length = x.cps.size) (hn : xs.length < 4000) (hval : ∀ (i : Nat) (v : Value), SignAt x i v → ∃ y t, xs[i]? = some y ∧ v = .str y t)
    (h : ∀ (h' : Heap) (tk : Nat), TxSet w h' S (dedS xs) → (∀ b o, b ≠ S → s.heap.get? b = some o → h'.get? b = some o) → Q () { s with heap := h', toks := tk }) :
    wpAny (model prog w) A (Builtin.Frozenset.updateFrom "set.__init__" S (.str x tk0)) Q E s := by
  have hT : s.TypeIs (.str x tk0) "str" := typeIs_str _ _ _
  have any : ∀ {Q' : Bool → Shared → Prop}, Q' false s → wpAny (model prog w) A (Builtin.Frozenset.isAnySet (.str x tk0)) Q' E s := fun {Q'} hq => by
    unfold Builtin.Frozenset.isAnySet orM
    refine wpAny_bind (wpAny_isInstance hT PySem.F.sub_str_set ?_)
    show wpAny _ _ (isInstance (.str x tk0) (.type "frozenset")) _ _ s
    exact wpAny_isInstance hT PySem.F.sub_str_frozenset hq
  have hne : (Value.type "str" == Value.type "dict") = false := by decide
  unfold Builtin.Frozenset.updateFrom
  refine wpAny_bind (any ?_)
  simp only [Bool.false_eq_true, if_false]
  refine wpAny_bind (wpAny_typeOf hT ?_)
  simp only [hne, Bool.false_eq_true, if_false]
  have hSl : S < s.heap.objs.size := by
    obtain ⟨o, _, _, _, e, _⟩ := hS
    exact Heap.lt_size e
  refine wpAny_bind (wpAny_pyIter_str fun o St W st => ?_)
  refine wpAny_bind (wpAny_runValue ?_)
  refine tx_loop ((W A.in1 hh).toS) S ?_ xs (n := x.cps.size) ?_ (by rw [← hlen]; exact hn) hval (x.cps.size - 0) 0 _ (by omega) (Nat.zero_le _) st ?_ ?_
  · simp only [List.mem_cons, List.not_mem_nil, or_false]
    exact Nat.ne_of_lt hSl
  · exact hlen
  · exact hS.at fun o e => Heap.get?_push_of_some _ e
  · intro s' hm hS'
    obtain ⟨h', g', d', tk', os'⟩ := s'
    have eg : g' = s.gens := hm.gens
    have ed : d' = s.drawn := hm.drawn
    have eo : os' = s.os := hm.os
    subst eg; subst ed; subst eo
    show wpAny _ _ _ _ _ _
    refine wpAny_pure ?_
    refine h h' tk' hS' fun b o hb e => ?_
    refine hm.heap b o ?_ (Heap.get?_push_of_some _ e)
    simp only [List.mem_cons, List.not_mem_nil, or_false, not_or]
    exact ⟨hb, Nat.ne_of_lt (Heap.lt_size e)⟩

end
end Kd

namespace Kd
open PySem PySem.Spec PyProof.Rows L2
/-! ### what is asked of a tuple of texts -/
abbrev tph (P : Program) (w : World) (k : List Str) : Int := tupleKeyHash (PySem.strKind P w) k
abbrev TpAt (P : Program) (w : World) (h : Heap) (p : Addr × List Str) : Prop := IsTupleKey (PySem.strKind P w) h p.2 p.1
section
variable {P : Program} {w : World} {A : Around} {E : Value → Shared → Prop} {s : Shared}
theorem txt_items {k : List Str} {vs : List Value} (h : ItemsAre (PySem.strKind P w) k vs) : ∀ v ∈ vs, ∃ y t, v = Value.str y t := by
  induction h with
  | nil => simp
  | @cons y u ks us q _ ih =>
    simp only [List.mem_cons, forall_eq_or_imp]
    refine ⟨?_, ih⟩
    cases u with
    | str z t => exact ⟨z, t, rfl⟩
    | _ => cases q
theorem cls_txt (n : Nat) (y : Str) (t : Tok) : ofAClassStatement n (Value.str y t) = pure false := by cases n <;> rfl
theorem hby_txt (n : Nat) (y : Str) (t : Tok) : hashByValue n (Value.str y t) = pure false := by cases n <;> rfl
/-- its hash is by value or it is not -/
theorem tp_hby {p : Addr × List Str} {Q : Bool → Shared → Prop} (hk : TpAt P w s.heap p) (h : ∀ b, Q b s) : wpAny (model P w) A (hashByValue 8 (.ref p.1)) Q E s := by
  have hT := hk.typeIs
  obtain ⟨o, its, n, ho, hc, hd, hi⟩ := hk
  unfold hashByValue
  refine wpAny_bind (wpAny_specialOf hT F.slot_tuple_hash.lookup ?_)
  show wpAny _ _ (seqItems? (.ref p.1) >>= _) _ _ s
  refine wpAny_bind (wpAny_seqItems ho hd ?_)
  refine wpAny_bind ?_
  show wpAny _ _ (forIn its _ _) _ _ s
  rw [← Array.forIn_toList]
  refine wpAny_forIn_list _ (fun l r z => r.1 = none ∧ z = s ∧ ∀ v ∈ l, ∃ y t, v = Value.str y t) _ (fun v l r z hz => ?_) (fun r z hz => ?_) _ _ ⟨rfl, rfl, txt_items hi⟩
  · obtain ⟨_, rfl, hv⟩ := hz
    obtain ⟨y, t, rfl⟩ := hv v (by simp)
    rw [hby_txt]
    refine wpAny_bind (wpAny_pure ?_)
    simp only [Bool.not_false, if_true]
    exact wpAny_pure (wpAny_pure (h false))
  · obtain ⟨r1, r2⟩ := r
    obtain ⟨e, rfl, _⟩ := hz
    cases e
    exact wpAny_pure (h true)
theorem tp_cls {p : Addr × List Str} {Q : Bool → Shared → Prop} (hk : TpAt P w s.heap p) (h : Q false s) : wpAny (model P w) A (ofAClassStatement 8 (.ref p.1)) Q E s := by
  have hT := hk.typeIs
  obtain ⟨o, its, n, ho, hc, hd, hi⟩ := hk
  unfold ofAClassStatement
  refine wpAny_bind (wpAny_typeOf hT ?_)
  have e : (("tuple" : String) == "tuple") = true := by decide
  simp only [e, if_true, Bool.not_true, Bool.false_eq_true, if_false]
  show wpAny _ _ (seqItems? (.ref p.1) >>= _) _ _ s
  refine wpAny_bind (wpAny_seqItems ho hd ?_)
  refine wpAny_bind ?_
  show wpAny _ _ (forIn its _ _) _ _ s
  rw [← Array.forIn_toList]
  refine wpAny_forIn_list _ (fun l r z => r.1 = none ∧ z = s ∧ ∀ v ∈ l, ∃ y t, v = Value.str y t) _ (fun v l r z hz => ?_) (fun r z hz => ?_) _ _ ⟨rfl, rfl, txt_items hi⟩
  · obtain ⟨_, rfl, hv⟩ := hz
    obtain ⟨y, t, rfl⟩ := hv v (by simp)
    rw [cls_txt]
    refine wpAny_bind (wpAny_pure ?_)
    simp only [Bool.false_eq_true, if_false]
    exact wpAny_pure ⟨rfl, rfl, fun u hu => hv u (List.mem_cons_of_mem _ hu)⟩
  · obtain ⟨r1, r2⟩ := r
    obtain ⟨e, rfl, _⟩ := hz
    cases e
    exact wpAny_pure h
theorem tp_seen {p : Addr × List Str} {ys : List Value} {Q : Bool → Shared → Prop} (hk : TpAt P w s.heap p) (hy : ∀ y ∈ ys, ∃ q, y = Value.ref q.1 ∧ TpAt P w s.heap q) (h : Q false s) : wpAny (model P w) A (searchCouldBeSeen (.ref p.1) ys) Q E s := by
  unfold searchCouldBeSeen
  refine wpAny_bind ?_
  refine wpAny_forIn_list _ (fun l r z => r.1 = none ∧ z = s ∧ ∀ y ∈ l, ∃ q, y = Value.ref q.1 ∧ TpAt P w s.heap q) _ (fun v l r z hz => ?_) (fun r z hz => ?_) _ _ ⟨rfl, rfl, hy⟩
  · obtain ⟨_, rfl, hv⟩ := hz
    obtain ⟨q, rfl, hq⟩ := hv v (by simp)
    have tl : ∀ y ∈ l, ∃ q, y = Value.ref q.1 ∧ TpAt P w z.heap q := fun u hu => hv u (List.mem_cons_of_mem _ hu)
    dsimp only
    split
    · exact wpAny_pure ⟨rfl, rfl, tl⟩
    · refine wpAny_bind (wpAny_eqIsQuiet_tuple hk ?_)
      simp only [Bool.not_true, Bool.false_eq_true, if_false]
      refine wpAny_bind (wpAny_eqIsQuiet_tuple hq ?_)
      simp only [Bool.not_true, Bool.false_eq_true, if_false]
      refine wpAny_bind (tp_cls hk ?_)
      simp only [Bool.false_eq_true, if_false]
      refine wpAny_bind (tp_cls hq ?_)
      simp only [Bool.false_eq_true, if_false]
      exact wpAny_pure ⟨rfl, rfl, tl⟩
  · obtain ⟨r1, r2⟩ := r
    obtain ⟨e, rfl, _⟩ := hz
    cases e
    exact wpAny_pure h
/-! ### the set -/
structure TpPay (P : Program) (w : World) (es : Array (Int × Value)) (t : SetTable) (L : List (Addr × List Str)) : Prop where
  rows : es.toList = L.map fun q => (tph P w q.2, Value.ref q.1)
  tab : TabOk t (L.map fun q => tph P w q.2)
  nd : (L.map (·.2)).Nodup
  led : w.params.followText "set-order" = true ∨ t.led = true
  room : L.length * 5 < t.mask * 3
def TpSet (P : Program) (w : World) (h : Heap) (a : Addr) (L : List (Addr × List Str)) : Prop := ∃ o es ep t, h.get? a = some o ∧ o.ExactSet ∧ o.data = .set es ep t ∧ TpPay P w es t L
theorem TpPay.size {es : Array (Int × Value)} {t : SetTable} {L : List (Addr × List Str)} (p : TpPay P w es t L) : es.size = L.length := by
  have := congrArg List.length p.rows
  simpa using this
theorem fits_tab {t : SetTable} {hs : List Int} (T : TabOk t hs) (hl : hs.length ≤ t.mask) : t.fits hs.length = true := by
  unfold SetTable.fits SetTable.fill
  have h := T.sz
  simp [T.dm, h, hl]
theorem TpPay.fits {es : Array (Int × Value)} {t : SetTable} {L : List (Addr × List Str)} (p : TpPay P w es t L) : t.fits es.size = true := by
  have h := fits_tab p.tab (by have := p.room; rw [List.length_map]; omega)
  rw [List.length_map] at h
  rw [p.size]
  exact h
theorem TpPay.at {es : Array (Int × Value)} {t : SetTable} {L : List (Addr × List Str)} (p : TpPay P w es t L) {i : Nat} {q : Addr × List Str} (h : L[i]? = some q) : es[i]? = some (tph P w q.2, Value.ref q.1) := by
  rw [← Array.getElem?_toList, p.rows, List.getElem?_map, h]
  rfl
theorem nth_dm (m : Nat) : ∀ (n : Nat) (p : SetTable.Probe), (nth m p n).dummy = p.dummy
  | 0, _ => rfl
  | n + 1, p => (nth_dm m n (adv m p)).trans (by unfold adv; split <;> rfl)
theorem same_slot {t : SetTable} (r : Ris t.place.toList) {i j x : Nat} (hi : t.place.toList[i]? = some x) (hj : t.place.toList[j]? = some x) : i = j := by
  have e := (slot_live r hi).symm.trans (slot_live r hj)
  injection e
theorem tp_search {a x : Addr} {k : List Str} {L : List (Addr × List Str)} {es : Array (Int × Value)} {ep : Nat} {t : SetTable} {o : Obj} (ho : s.heap.get? a = some o) (hd : o.data = .set es ep t) (p : TpPay P w es t L)
    (hg : ∀ q ∈ L, TpAt P w s.heap q) (hx : TpAt P w s.heap (x, k)) (hu : A.units < cLine) {Q : SetFound → Shared → Prop} {N : Nat} (n1 : N < 10 * SetTable.turns t.mask)
    (n2 : way t.mask (tph P w k) N ∉ t.place.toList) (n3 : ∀ c, c < N → way t.mask (tph P w k) c ∈ t.place.toList)
    (yes : k ∈ L.map (·.2) → Q (.there none) s) (no : k ∉ L.map (·.2) → Q (.free (way t.mask (tph P w k) N) false) s) :
    ∀ (d c f : Nat) (st : Option SetTable.Probe), d = N - c → c ≤ N → d < f → st.getD (t.probeStart (tph P w k)) = nth t.mask (t.probeStart (tph P w k)) c →
      (∀ (c' i : Nat) (q : Addr × List Str), c' < c → t.place.toList[i]? = some (way t.mask (tph P w k) c') → L[i]? = some q → q.2 ≠ k) →
      wpAny (model P w) A (setSearchFrom a (.ref x) (tph P w k) true f st) Q E s := by
  intro d
  induction d using Nat.strongRecOn with
  | ind d ih =>
    intro c f st hdc hc hf hst inv
    obtain ⟨f, rfl⟩ : ∃ g, f = g + 1 := ⟨f - 1, by omega⟩
    rw [setSearchFrom_succ]
    refine wpAny_bind (wpAny_setState_of ho hd p.fits ?_)
    dsimp only
    have gw : ¬ t.gaveWay = true := by
      unfold SetTable.gaveWay
      rw [mask_odd p.tab.mok]
      decide
    rw [if_neg gw]
    generalize hH : tph P w k = H at *
    have sh : ∀ q, nth t.mask (nth t.mask (t.probeStart H) c) q = nth t.mask (t.probeStart H) (c + q) := fun q => (nth_add t.mask c _ q).symm
    have wj : ∀ q, (nth t.mask (nth t.mask (t.probeStart H) c) q).j = way t.mask H (c + q) := fun q => by rw [sh]; rfl
    have sp := go_spec t p.tab.ris p.tab.dm (fun i => (es[i]?.map (·.1)).getD 0) H (10 * SetTable.turns t.mask) (N - c) (nth t.mask (t.probeStart H) c) ((nth_dm _ _ _).trans rfl) (by omega)
      (fun q hq => by rw [wj]; exact n3 _ (by omega)) (by rw [wj, show c + (N - c) = N by omega]; exact n2)
    have lk : ∀ (i : Nat) (q : Addr × List Str), L[i]? = some q → (es[i]?.map (·.1)).getD 0 = tph P w q.2 := fun i q hq => by rw [p.at hq]; rfl
    have prb : t.probe (fun i => (es[i]?.map (·.1)).getD 0) H (st.getD (t.probeStart H)) = SetTable.probe.go t (fun i => (es[i]?.map (·.1)).getD 0) H (10 * SetTable.turns t.mask) (nth t.mask (t.probeStart H) c) := by rw [hst]; rfl
    rw [prb]
    rcases sp with ⟨q, i, hq, hi, hh, hno, e⟩ | ⟨hno, e⟩
    · rw [e]
      dsimp only
      rw [wj] at hi ⊢
      have hil : i < L.length := by
        have h1 := (List.getElem?_eq_some_iff.mp hi).1
        have h2 := p.tab.sz
        rw [List.length_map] at h2
        rw [Array.length_toList] at h1
        omega
      obtain ⟨y, hy⟩ : ∃ y, L[i]? = some y := ⟨_, List.getElem?_eq_getElem hil⟩
      have hm := List.mem_of_getElem? hy
      have go : wpAny (model P w) A (searchRest a (.ref x) H true f es t (way t.mask H (c + q)) i (nth t.mask (nth t.mask (t.probeStart H) c) (q + 1))) Q E s := by
        unfold searchRest
        rw [p.at hy]
        dsimp only
        refine wpAny_bind (wpAny_holding (wpAny_eqBool_tuple hu (hg y hm) hx ?_))
        refine wpAny_bind (wpAny_setState_of ho hd p.fits ?_)
        dsimp only
        by_cases ek : y.2 = k
        · simp only [ek, decide_true, Bool.and_self, if_true]
          exact wpAny_pure (yes (List.mem_map.mpr ⟨y, hm, ek⟩))
        · have hs := slot_live p.tab.ris hi
          simp only [ek, decide_false, Bool.and_false, Bool.false_eq_true, if_false, sameMem, if_true, hs, p.at hy]
          refine wpAny_bind (wpAny_isSame_ref_self (wpAny_bind (wpAny_pure ?_)))
          simp only [if_true]
          refine ih (N - (c + (q + 1))) (by omega) (c + (q + 1)) f _ rfl (by omega) (by omega) (by rw [Option.getD_some, sh]) fun c' i' z hc' hi' hz ez => ?_
          rcases Nat.lt_or_ge c' c with h1 | h1
          · exact inv c' i' z h1 hi' hz ez
          · rcases Nat.lt_or_ge c' (c + q) with h2 | h2
            · refine hno (c' - c) i' (by omega) (by rw [wj, show c + (c' - c) = c' by omega]; exact hi') ?_
              rw [← hH, ← ez]
              exact lk i' z hz
            · have h3 : c' = c + q := by omega
              subst h3
              have := same_slot p.tab.ris hi hi'
              subst this
              rw [hy] at hz
              cases hz
              exact ek ez
      cases hl : t.led
      · simp only [Bool.not_false, if_true]
        refine wpAny_bind (tp_seen (p := (x, k)) hx (fun v hv => ?_) ?_)
        · obtain ⟨e1, h1, rfl⟩ := List.mem_map.mp hv
          have h2 : e1 ∈ es.toList := by
            have h0 : e1 ∈ es ∧ e1.1 = H := by simpa using h1
            simpa using h0.1
          rw [p.rows] at h2
          obtain ⟨q2, h3, rfl⟩ := List.mem_map.mp h2
          exact ⟨q2, rfl, hg q2 h3⟩
        · simp only [Bool.false_eq_true, if_false]
          exact go
      · simp only [Bool.not_true, Bool.false_eq_true, if_false]
        exact go
    · rw [e]
      dsimp only
      rw [wj, show c + (N - c) = N by omega]
      refine wpAny_pure (no fun hm => ?_)
      obtain ⟨y, hy, ey⟩ := List.mem_map.mp hm
      obtain ⟨i, hi⟩ := List.mem_iff_getElem?.mp hy
      have hil : i < t.place.toList.length := by
        have h1 := (List.getElem?_eq_some_iff.mp hi).1
        have h2 := p.tab.sz
        rw [List.length_map] at h2
        rw [Array.length_toList]
        omega
      obtain ⟨j, hj⟩ : ∃ j, t.place.toList[i]? = some j := ⟨_, List.getElem?_eq_getElem hil⟩
      obtain ⟨c', h1, h2⟩ := p.tab.before n2 (i := i) (j := j) (by rw [List.getElem?_map, hi, ← hH, ← ey]; rfl) hj
      subst h2
      rcases Nat.lt_or_ge c' c with h3 | h3
      · exact inv c' i y h3 hj hi ey
      · refine hno (c' - c) i (by omega) (by rw [wj, show c + (c' - c) = c' by omega]; exact hj) ?_
        rw [← hH, ← ey]
        exact lk i y hi
/-! ### laid anew -/
theorem range_all {α : Type} : ∀ l : List α, (List.range l.length).filterMap (fun i => l[i]?) = l
  | [] => rfl
  | x :: l => by
    rw [List.length_cons, List.range_succ_eq_map, List.filterMap_cons]
    simp only [List.getElem?_cons_zero, List.filterMap_map]
    congr 1
    exact range_all l
theorem order_map {L : List (Addr × List Str)} {es : Array (Int × Value)} (rows : es.toList = L.map fun q => (tph P w q.2, Value.ref q.1)) : ∀ od : List Nat, (∀ i ∈ od, i < L.length) →
    (od.filterMap fun i => es[i]?) = (od.filterMap fun i => L[i]?).map (fun q => (tph P w q.2, Value.ref q.1)) ∧ ((od.filterMap fun i => L[i]?).map fun q => tph P w q.2) = od.map fun i => (es.map (·.1)).getD i 0
  | [], _ => ⟨rfl, rfl⟩
  | i :: od, h => by
    obtain ⟨e1, e2⟩ := order_map rows od fun j hj => h j (List.mem_cons_of_mem _ hj)
    have hi := h i List.mem_cons_self
    obtain ⟨y, hy⟩ : ∃ y, L[i]? = some y := ⟨_, List.getElem?_eq_getElem hi⟩
    have he : es[i]? = some (tph P w y.2, Value.ref y.1) := by rw [← Array.getElem?_toList, rows, List.getElem?_map, hy]; rfl
    rw [List.filterMap_cons, List.filterMap_cons, he, hy]
    dsimp only
    refine ⟨by rw [e1]; rfl, ?_⟩
    rw [List.map_cons, List.map_cons, e2]
    congr 1
    simp [Array.getD_eq_getD_getElem?, he]
theorem tp_relay {a : Addr} {o : Obj} {es : Array (Int × Value)} {ep wanted M : Nat} {t : SetTable} {L : List (Addr × List Str)} (ho : s.heap.get? a = some o) (hex : o.ExactSet) (hd : o.data = .set es ep t)
    (rows : es.toList = L.map fun q => (tph P w q.2, Value.ref q.1)) (T : TabOk t (L.map fun q => tph P w q.2)) (nd : (L.map (·.2)).Nodup) (ld : w.params.followText "set-order" = true ∨ t.led = true) (fit : L.length ≤ t.mask)
    (hw : SetTable.sizeAbove wanted - 1 = M) (hM : MaskOk M) (h128 : SetTable.sizeAbove wanted ≤ 128) (hn : L.length * 5 < M * 3) {Q : Unit → Shared → Prop}
    (hQ : ∀ h' L', Heap.SameBut a s.heap h' → TpSet P w h' a L' → L'.Perm L → Q () { s with heap := h' }) : wpAny (model P w) A (setRelay a wanted) Q E s := by
  have sz : es.size = L.length := by simpa using congrArg List.length rows
  have ft : t.fits es.size = true := by
    have h := fits_tab T (by rw [List.length_map]; exact fit)
    rw [List.length_map] at h
    rw [sz]
    exact h
  obtain ⟨t', od, e, pm, T', em, el, _, _⟩ := relaid_ok t (hs := es.map (·.1)) hw hM (by rw [Array.size_map, sz]; omega)
  rw [Array.size_map, sz] at pm
  obtain ⟨e1, e2⟩ := order_map rows od.toList fun i hi => List.mem_range.mp (pm.mem_iff.mp hi)
  have pL : (od.toList.filterMap fun i => L[i]?).Perm L := by
    have h := pm.filterMap fun i => L[i]?
    rw [range_all] at h
    exact h
  rw [← e2] at T'
  have e3 : (od.filterMap fun i => es[i]?).toList = od.toList.filterMap fun i => es[i]? := by simp
  rw [e1] at e3
  generalize (od.toList.filterMap fun i => L[i]?) = L' at *
  have s2 : (od.filterMap fun i => es[i]?).size = es.size := by
    have h := congrArg List.length e3
    rw [Array.length_toList, List.length_map, pL.length_eq] at h
    rw [h, sz]
  rw [setRelay_eq]
  refine wpAny_bind (wpAny_setState_of ho hd ft ?_)
  dsimp only
  rw [if_neg (by rw [sizeLine_eq]; omega), e]
  dsimp only
  refine wpAny_bind ?_
  rw [if_neg (by rw [s2]; simp)]
  refine wpAny_pure ?_
  dsimp only
  refine wpAny_storeSet_of ho hd ?_ (by rw [s2, sz, sizeLine_eq]; omega)
  refine hQ _ L' (Heap.SameBut.update ..) ⟨_, _, _, t', store_at ho hd, ⟨hex.1, hex.2.1, hex.2.2⟩, rfl, e3, T', (pL.map _).nodup_iff.mpr nd, by rw [el]; exact ld, ?_⟩ pL
  rw [pL.length_eq, em]
  exact hn
/-! ### one more -/
theorem tp_add {a x : Addr} {k : List Str} {L : List (Addr × List Str)} (R : TpSet P w s.heap a L) (hg : ∀ q ∈ L, TpAt P w s.heap q) (hx : TpAt P w s.heap (x, k)) (hu : A.units < cLine) (h64 : L.length + 1 < 64) {Q : Bool → Shared → Prop}
    (hQ : ∀ b h' L', Heap.SameBut a s.heap h' → TpSet P w h' a L' → (k ∈ L.map (·.2) → L' = L) → (k ∉ L.map (·.2) → L'.Perm ((x, k) :: L)) → Q b { s with heap := h' }) :
    wpAny (model P w) A (setAddHashed a (.ref x) (tph P w k)) Q E s := by
  obtain ⟨o, es, ep, t, ho, hex, hd, p⟩ := R
  have sz := p.size
  have room := p.room
  unfold setAddHashed
  refine wpAny_holding ?_
  rw [show (100000 : Nat) = 99999 + 1 from rfl, setAddHashedIn_succ]
  refine wpAny_bind (wpAny_setState_of ho hd p.fits ?_)
  dsimp only
  have nb : byScan (.ref x) es = false := by simp [byScan, Value.scannable]
  rw [nb]
  simp only [Bool.false_eq_true, if_false]
  obtain ⟨N, n1, n2, n3⟩ := p.tab.first (by rw [List.length_map]; omega) (tph P w k)
  have nN : N < 100000 := by
    have h := p.tab.mok
    unfold SetTable.turns at n1
    rcases h with h | h | h <;> rw [h] at n1 <;> omega
  unfold setSearch
  refine wpAny_bind (tp_search ho hd p hg hx hu n1 n2 n3 (fun hm => ?_) (fun hm => ?_) N 0 100000 none rfl (Nat.zero_le _) nN rfl fun _ _ _ h => absurd h (Nat.not_lt_zero _))
  · exact wpAny_pure (hQ false s.heap L (Heap.SameBut.refl a s.heap) ⟨o, es, ep, t, ho, hex, hd, p⟩ (fun _ => rfl) fun z => absurd hm z)
  · dsimp only
    refine wpAny_bind (wpAny_setState_of ho hd p.fits ?_)
    dsimp only
    obtain ⟨q1, q2, T1, q4, q5, _⟩ := p.tab.put n2 n3
    generalize t.put (way t.mask (tph P w k) N) = pt at q1 T1 q4 q5 ⊢
    obtain ⟨t1, i⟩ := pt
    dsimp only at q1 T1 q4 q5 ⊢
    rw [← q1] at T1 q2
    clear q1
    have any : ∀ {G : Bool → Sem Bool}, (∀ b, wpAny (model P w) A (G b) Q E s) → wpAny (model P w) A (if t1.plain = true then hashByValue 8 (.ref x) >>= G else pure true >>= G) Q E s := fun {G} hG => by
      split
      · exact wpAny_bind (tp_hby (p := (x, k)) hx hG)
      · exact wpAny_bind (wpAny_pure (hG true))
    refine any fun b => ?_
    have T2 : TabOk (if b = true then t1 else { t1 with plain := false }) ((L.take i ++ (x, k) :: L.drop i).map fun q => tph P w q.2) := by
      rw [List.map_append, List.map_cons, List.map_take, List.map_drop]
      cases b
      · exact ⟨T1.ris, T1.dm, T1.sz, T1.mok, T1.bd, T1.reach⟩
      · exact T1
    have m2 : (if b = true then t1 else { t1 with plain := false }).mask = t.mask := by cases b <;> exact q4
    have l2 : (if b = true then t1 else { t1 with plain := false }).led = t.led := by cases b <;> exact q5
    generalize (if b = true then t1 else { t1 with plain := false }) = t2 at T2 m2 l2 ⊢
    have rows : (SetTable.insertAt es i (tph P w k, Value.ref x)).toList = (L.take i ++ (x, k) :: L.drop i).map fun q => (tph P w q.2, Value.ref q.1) := by
      rw [SetTable.toList_insertAt, p.rows, List.map_append, List.map_cons, List.map_take, List.map_drop]
    have pm : (L.take i ++ (x, k) :: L.drop i).Perm ((x, k) :: L) := by
      have h : (L.take i ++ (x, k) :: L.drop i).Perm ((x, k) :: (L.take i ++ L.drop i)) := List.perm_middle
      rwa [List.take_append_drop] at h
    generalize L.take i ++ (x, k) :: L.drop i = L1 at T2 rows pm
    generalize SetTable.insertAt es i (tph P w k, Value.ref x) = es1 at rows ⊢
    have len : L1.length = L.length + 1 := pm.length_eq
    have nd : (L1.map (·.2)).Nodup := (pm.map (·.2)).nodup_iff.mpr (List.nodup_cons.mpr ⟨hm, p.nd⟩)
    have z1 : es1.size = L1.length := by simpa using congrArg List.length rows
    have ld : w.params.followText "set-order" = true ∨ t2.led = true := by rw [l2]; exact p.led
    refine wpAny_bind (wpAny_storeSet_of ho hd ?_ (by rw [z1, len, sizeLine_eq]; omega))
    have sb : Heap.SameBut a s.heap (s.heap.update a (Obj.putSet es1 t2)) := Heap.SameBut.update ..
    have ho1 := store_at (es' := es1) (t' := t2) ho hd
    generalize s.heap.update a (Obj.putSet es1 t2) = h1 at sb ho1 ⊢
    have fl : t2.fill = L.length + 1 := by
      unfold SetTable.fill
      rw [T2.dm, T2.sz, List.length_map, len]
      rfl
    by_cases tf : t2.tooFull = true
    · simp only [tf, Bool.not_false, Bool.and_self, if_true]
      have full : (L.length + 1) * 5 ≥ t.mask * 3 := by
        have h := tf
        unfold SetTable.tooFull at h
        rw [decide_eq_true_eq, fl, m2] at h
        exact h
      rw [sz]
      have two : (t.mask = 7 ∧ L.length = 4) ∨ (t.mask = 31 ∧ L.length = 18) := by
        rcases p.tab.mok with h | h | h
        · left; omega
        · right; omega
        · omega
      have go : ∀ M, SetTable.sizeAbove (SetTable.grown (L.length + 1)) = M + 1 → MaskOk M → M ≤ 127 → L1.length * 5 < M * 3 → wpAny (model P w) A (setRelay a (SetTable.grown (L.length + 1))) (fun _ z => wpAny (model P w) A (pure true) Q E z) E { s with heap := h1 } := fun M a1 a2 a3 a4 => by
        refine tp_relay (s := { s with heap := h1 }) ho1 ⟨hex.1, hex.2.1, hex.2.2⟩ rfl rows T2 nd ld (by rw [m2]; omega) (M := M) (by rw [a1]; rfl) a2 (by rw [a1]; omega) a4 fun h' L' sb' R' pm' => ?_
        exact wpAny_pure (hQ true h' L' (sb.trans sb') R' (fun z => absurd z hm) fun _ => pm'.trans pm)
      refine wpAny_bind ?_
      rcases two with ⟨_, h⟩ | ⟨_, h⟩
      · exact go 31 (by rw [h]; exact size_20) (.inr (.inl rfl)) (by decide) (by rw [len, h]; decide)
      · exact go 127 (by rw [h]; exact size_76) (.inr (.inr rfl)) (by decide) (by rw [len, h]; decide)
    · simp only [tf, Bool.not_false, Bool.and_false, Bool.false_eq_true, if_false]
      have h := tf
      unfold SetTable.tooFull at h
      rw [decide_eq_true_eq, fl, m2] at h
      exact wpAny_pure (hQ true h1 L1 sb ⟨_, es1, _, t2, ho1, ⟨hex.1, hex.2.1, hex.2.2⟩, rfl, rows, T2, nd, ld, by rw [len, m2]; omega⟩ (fun z => absurd z hm) fun _ => pm)
end
/-! ### set(..) -/
def Gt (ks L : List (Addr × List Str)) : Prop := (∀ q ∈ L, q ∈ ks) ∧ (∀ q ∈ ks, q.2 ∈ L.map (·.2)) ∧ L.length ≤ ks.length
theorem Gt.nil : Gt [] [] := ⟨fun _ h => h, fun _ h => (by cases h), Nat.le_refl _⟩
theorem Gt.step {ks L L' : List (Addr × List Str)} {y : Addr × List Str} (g : Gt ks L) (c1 : y.2 ∈ L.map (·.2) → L' = L) (c2 : y.2 ∉ L.map (·.2) → L'.Perm (y :: L)) : Gt (ks ++ [y]) L' := by
  obtain ⟨g1, g2, g3⟩ := g
  by_cases c : y.2 ∈ L.map (·.2)
  · rw [c1 c]
    refine ⟨fun q hq => List.mem_append_left _ (g1 q hq), fun q hq => ?_, by simp; omega⟩
    rcases List.mem_append.mp hq with h | h
    · exact g2 q h
    · rw [List.mem_singleton.mp h]; exact c
  · have pm := c2 c
    refine ⟨fun q hq => ?_, fun q hq => ?_, by rw [pm.length_eq]; simp; omega⟩
    · rcases List.mem_cons.mp (pm.mem_iff.mp hq) with rfl | h
      · simp
      · exact List.mem_append_left _ (g1 q h)
    · rw [(pm.map (·.2)).mem_iff, List.map_cons]
      rcases List.mem_append.mp hq with h | h
      · exact List.mem_cons_of_mem _ (g2 q h)
      · rw [List.mem_singleton.mp h]; exact List.mem_cons_self
section
variable {prog : Program} {w : World} {A : Around} {R : Result → Shared → Prop} {I : Addr} {fp wr : List Addr} {G : Array GenState → Array GenState → Prop} {n : Nat} {Pv : Nat → Value → Prop} {St : Nat → Shared → Prop}
theorem TpAt.keep {h h' : Heap} {q : Addr × List Str} (x : TpAt prog w h q) (k : ∀ b o, h.get? b = some o → h'.get? b = some o) : TpAt prog w h' q := by
  obtain ⟨o, its, n, ho, r⟩ := x
  exact ⟨o, its, n, k _ o ho, r⟩
theorem TpSet.at {h h' : Heap} {a : Addr} {L : List (Addr × List Str)} (R : TpSet prog w h a L) (k : ∀ o, h.get? a = some o → h'.get? a = some o) : TpSet prog w h' a L := by
  obtain ⟨o, es, ep, t, ho, r⟩ := R
  exact ⟨o, es, ep, t, k o ho, r⟩
theorem tp_loop (W : WalksS prog w A.in1 I fp wr G n Pv St) (S : Addr) (hSf : S ∉ fp) (ks : List (Addr × List Str)) (hsz : ks.length = n) (hn1 : n < 64)
    (hval : ∀ i v, Pv i v → ∃ q, ks[i]? = some q ∧ v = .ref q.1) {h0 : Heap} (hks : ∀ q ∈ ks, TpAt prog w h0 q) (hS0 : h0.get? S = none) (hw0 : ∀ b ∈ wr, h0.get? b = none) (hu : A.in1.units < cLine) :
    ∀ (k i : Nat) (s : Shared), n - i = k → i ≤ n → St i s → (∀ b o, h0.get? b = some o → s.heap.get? b = some o) → (∃ L, TpSet prog w s.heap S L ∧ Gt (ks.take i) L) →
      (∀ s' L, Moved (S :: wr) G s s' → TpSet prog w s'.heap S L → Gt ks L → R (.ok (.ret .none)) s') →
      codeAny (model prog w) A (.builtin "set.update.loop" ⟨[.ref S, .ref I], []⟩) R s := by
  have hSw : S ∉ wr := fun h => hSf (W.sub _ h)
  have hsub : ∀ b ∈ wr, b ∈ S :: wr := fun b hb => List.mem_cons_of_mem _ hb
  have kp : ∀ {s s' : Shared}, Moved wr G s s' → (∀ b o, h0.get? b = some o → s.heap.get? b = some o) → ∀ b o, h0.get? b = some o → s'.heap.get? b = some o := fun hm ol b o e =>
    hm.heap b o (fun hb => by rw [hw0 b hb] at e; cases e) (ol b o e)
  intro k
  induction k with
  | zero =>
    intro i s hk hi hst ol ⟨L, hS, g⟩ hR
    have hin : i = n := by omega
    subst hin
    refine codeAny_builtin PyProof.Rows.F.entry_set_update_loop ?_
    rw [Around.under_plainId PyProof.Rows.F.plain_set_update_loop _]
    show wpAny _ A.in1 (pyNext (.ref I) >>= _) _ _ s
    refine wpAny_bind (W.done s _ _ hst fun s' hm => ?_)
    show wpAny _ A.in1 (ret Value.none) _ _ s'
    rw [List.take_of_length_le (by omega)] at g
    exact wpAny_pure (hR s' L (hm.mono hsub) (hS.at fun o e => hm.heap S _ hSw e) g)
  | succ k ih =>
    intro i s hk hi hst ol ⟨L, hS, g⟩ hR
    have hlt : i < n := by omega
    refine codeAny_builtin PyProof.Rows.F.entry_set_update_loop ?_
    rw [Around.under_plainId PyProof.Rows.F.plain_set_update_loop _]
    show wpAny _ A.in1 (pyNext (.ref I) >>= _) _ _ s
    refine wpAny_bind (W.item i s _ _ hlt hst fun v s' hP hst' hm => ?_)
    obtain ⟨y, hy, rfl⟩ := hval i v hP
    have ol' := kp hm ol
    have hS' := hS.at (h' := s'.heap) fun o e => hm.heap S _ hSw e
    have hx : TpAt prog w s'.heap (y.1, y.2) := (hks y (List.mem_of_getElem? hy)).keep ol'
    have hg : ∀ q ∈ L, TpAt prog w s'.heap q := fun q hq => (hks q (List.mem_of_mem_take (g.1 q hq))).keep ol'
    have step : ks.take (i + 1) = ks.take i ++ [y] := by rw [List.take_succ, hy]; rfl
    have hlen : L.length + 1 < 64 := by
      have := g.2.2
      rw [List.length_take] at this
      omega
    show wpAny _ A.in1 (holding [Value.ref y.1] (setAdd S (.ref y.1)) >>= _) _ _ s'
    refine wpAny_bind (wpAny_holding ?_)
    unfold setAdd
    refine wpAny_holding ?_
    refine wpAny_bind (wpAny_pyHash_tuple hu hx ?_)
    refine tp_add (s := { s' with toks := s'.toks + (y.2.length + 1) }) hS' hg hx hu hlen fun bb h' L' hsb hS2 c1 c2 => ?_
    refine wpAny_pure ⟨plainId_quiet PyProof.Rows.F.plain_set_update_loop _, ih (i + 1) _ (by omega) hlt (W.frame _ s' _ _ hst' (Nat.le_add_right _ _) fun b hb o e => ?_) (fun b o e => ?_) ⟨L', hS2, step ▸ g.step c1 c2⟩ fun s'' L'' hm'' hS'' g'' => ?_⟩
    · rw [hsb.2 b (fun h : b = S => hSf (by rw [← h]; exact hb))]; exact e
    · rw [hsb.2 b (fun h : b = S => by rw [h, hS0] at e; cases e)]; exact ol' b o e
    · refine hR s'' L'' (Moved.trans W.gtrans ((hm.mono hsub).then_heap (Nat.le_add_right _ _) fun b o hb e => ?_) hm'') hS'' g''
      rw [hsb.2 b (fun h : b = S => hb (by rw [h]; exact List.mem_cons_self))]; exact e
end
section
variable {prog : Program} {w : World} {A : Around} {E : Value → Shared → Prop} {s : Shared}
theorem tp_fresh {h : Heap} (w : World) : TpSet prog w (h.push (newSetO w)) h.objs.size [] :=
  ⟨_, #[], 0, _, Heap.get?_push_size _ rfl, ⟨rfl, rfl, rfl⟩, rfl, rfl, ⟨.nil, rfl, rfl, .inl rfl, fun x hx => (by cases hx), fun i h j hi => (by simp at hi)⟩, .nil, by
    show _ ∨ (!w.params.followText "set-order") = true
    cases w.params.followText "set-order"
    · exact .inr rfl
    · exact .inl rfl, by show 0 * 5 < 7 * 3; decide⟩
/-- updateFrom, of a new set -/
theorem tpu_list {S : Addr} {l : Addr} {items : Array Value} {ks : List (Addr × List Str)} {h0 : Heap} {Q : Unit → Shared → Prop} (hh : A.handled = none) (hu : A.units + 2 < cLine) (hS : TpSet prog w s.heap S []) (hks : ∀ q ∈ ks, TpAt prog w h0 q) (hS0 : h0.get? S = none) (old : ∀ b o, h0.get? b = some o → s.heap.get? b = some o) (hl : s.heap.IsList l items) (hlen : ks.length = items.size) (hn : ks.length < 64) (hval : ∀ (i : Nat) (v : Value), items[i]? = some v → ∃ q, ks[i]? = some q ∧ v = .ref q.1)
    (h : ∀ (h' : Heap) (tk : Nat) (L : List (Addr × List Str)), TpSet prog w h' S L → Gt ks L → (∀ b o, b ≠ S → s.heap.get? b = some o → h'.get? b = some o) → Q () { s with heap := h', toks := tk }) :
    wpAny (model prog w) A (Builtin.Frozenset.updateFrom "set.__init__" S (.ref l)) Q E s := by
  have hT : s.TypeIs (.ref l) "list" := let ⟨o, e, c, _⟩ := hl; ⟨o, e, c⟩
  have any : ∀ {Q' : Bool → Shared → Prop}, Q' false s → wpAny (model prog w) A (Builtin.Frozenset.isAnySet (.ref l)) Q' E s := fun {Q'} hq => by
    unfold Builtin.Frozenset.isAnySet orM
    refine wpAny_bind (wpAny_isInstance hT PySem.F.sub_list_set ?_)
    show wpAny _ _ (isInstance (.ref l) (.type "frozenset")) _ _ s
    exact wpAny_isInstance hT PySem.F.sub_list_frozenset hq
  have hne : (Value.type "list" == Value.type "dict") = false := by decide
  unfold Builtin.Frozenset.updateFrom
  refine wpAny_bind (any ?_)
  simp only [Bool.false_eq_true, if_false]
  refine wpAny_bind (wpAny_typeOf hT ?_)
  simp only [hne, Bool.false_eq_true, if_false]
  have hSl : S < s.heap.objs.size := by
    obtain ⟨o, _, _, _, e, _⟩ := hS
    exact Heap.lt_size e
  have hlt : l < s.heap.objs.size := by obtain ⟨_, e, _⟩ := hl; exact Heap.lt_size e
  have hlS : l ≠ S := by
    obtain ⟨o, _, _, _, e, hx, hd, _⟩ := hS
    obtain ⟨o', e', hc, n, hd'⟩ := hl
    intro z
    subst z
    rw [e] at e'
    cases e'
    rw [hd] at hd'
    cases hd'
  refine wpAny_bind (wpAny_pyIter_list hl ?_)
  refine wpAny_bind (wpAny_runValue ?_)
  refine tp_loop ((Walks.list (A := A.in1) hh _ l (Nat.ne_of_lt hlt) items).toS) S ?_ ks (n := items.size) ?_ (by rw [← hlen]; exact hn) hval hks hS0 (fun b hb => ?_) (by exact (by omega : A.units + 1 < cLine)) (items.size - 0) 0 _ (by omega) (Nat.zero_le _) ⟨⟨_, Heap.get?_push_size _ rfl, rfl, rfl⟩, (hl.push _)⟩ (fun b o e => Heap.get?_push_of_some _ (old b o e)) ⟨[], ?_, Gt.nil⟩ ?_
  · simp only [List.mem_cons, List.not_mem_nil, or_false, not_or]
    exact ⟨Nat.ne_of_lt hSl, Ne.symm hlS⟩
  · exact hlen
  · rw [List.mem_singleton.mp hb]
    cases e : h0.get? s.heap.objs.size with
    | none => rfl
    | some o => exact absurd (Heap.lt_size (old _ _ e)) (Nat.lt_irrefl _)
  · exact hS.at fun o e => Heap.get?_push_of_some _ e
  · intro s' L hm hS' g9
    obtain ⟨h', g', d', tk', os'⟩ := s'
    have eg : g' = s.gens := hm.gens
    have ed : d' = s.drawn := hm.drawn
    have eo : os' = s.os := hm.os
    subst eg; subst ed; subst eo
    show wpAny _ _ _ _ _ _
    refine wpAny_pure ?_
    refine h h' tk' L hS' g9 fun b o hb e => ?_
    refine hm.heap b o ?_ (Heap.get?_push_of_some _ e)
    simp only [List.mem_cons, List.not_mem_nil, or_false, not_or]
    exact ⟨hb, Nat.ne_of_lt (Heap.lt_size e)⟩

/-- updateFrom, of a new set -/
theorem tpu_tuple {S : Addr} {l : Addr} {items : Array Value} {ks : List (Addr × List Str)} {h0 : Heap} {Q : Unit → Shared → Prop} (hh : A.handled = none) (hu : A.units + 2 < cLine) (hS : TpSet prog w s.heap S []) (hks : ∀ q ∈ ks, TpAt prog w h0 q) (hS0 : h0.get? S = none) (old : ∀ b o, h0.get? b = some o → s.heap.get? b = some o) (hl : s.heap.IsTuple l items) (hlen : ks.length = items.size) (hn : ks.length < 64) (hval : ∀ (i : Nat) (v : Value), items[i]? = some v → ∃ q, ks[i]? = some q ∧ v = .ref q.1)
    (h : ∀ (h' : Heap) (tk : Nat) (L : List (Addr × List Str)), TpSet prog w h' S L → Gt ks L → (∀ b o, b ≠ S → s.heap.get? b = some o → h'.get? b = some o) → Q () { s with heap := h', toks := tk }) :
    wpAny (model prog w) A (Builtin.Frozenset.updateFrom "set.__init__" S (.ref l)) Q E s := by
  have hT : s.TypeIs (.ref l) "tuple" := let ⟨o, e, c, _⟩ := hl; ⟨o, e, c⟩
  have any : ∀ {Q' : Bool → Shared → Prop}, Q' false s → wpAny (model prog w) A (Builtin.Frozenset.isAnySet (.ref l)) Q' E s := fun {Q'} hq => by
    unfold Builtin.Frozenset.isAnySet orM
    refine wpAny_bind (wpAny_isInstance hT PySem.F.sub_tuple_set ?_)
    show wpAny _ _ (isInstance (.ref l) (.type "frozenset")) _ _ s
    exact wpAny_isInstance hT PySem.F.sub_tuple_frozenset hq
  have hne : (Value.type "tuple" == Value.type "dict") = false := by decide
  unfold Builtin.Frozenset.updateFrom
  refine wpAny_bind (any ?_)
  simp only [Bool.false_eq_true, if_false]
  refine wpAny_bind (wpAny_typeOf hT ?_)
  simp only [hne, Bool.false_eq_true, if_false]
  have hSl : S < s.heap.objs.size := by
    obtain ⟨o, _, _, _, e, _⟩ := hS
    exact Heap.lt_size e
  have hlt : l < s.heap.objs.size := by obtain ⟨_, e, _⟩ := hl; exact Heap.lt_size e
  have hlS : l ≠ S := by
    obtain ⟨o, _, _, _, e, hx, hd, _⟩ := hS
    obtain ⟨o', e', hc, n, hd'⟩ := hl
    intro z
    subst z
    rw [e] at e'
    cases e'
    rw [hd] at hd'
    cases hd'
  refine wpAny_bind (wpAny_pyIter_tuple hl ?_)
  refine wpAny_bind (wpAny_runValue ?_)
  refine tp_loop ((Walks.tuple (A := A.in1) hh _ l (Nat.ne_of_lt hlt) items).toS) S ?_ ks (n := items.size) ?_ (by rw [← hlen]; exact hn) hval hks hS0 (fun b hb => ?_) (by exact (by omega : A.units + 1 < cLine)) (items.size - 0) 0 _ (by omega) (Nat.zero_le _) ⟨⟨_, Heap.get?_push_size _ rfl, rfl, rfl⟩, (hl.push _)⟩ (fun b o e => Heap.get?_push_of_some _ (old b o e)) ⟨[], ?_, Gt.nil⟩ ?_
  · simp only [List.mem_cons, List.not_mem_nil, or_false, not_or]
    exact ⟨Nat.ne_of_lt hSl, Ne.symm hlS⟩
  · exact hlen
  · rw [List.mem_singleton.mp hb]
    cases e : h0.get? s.heap.objs.size with
    | none => rfl
    | some o => exact absurd (Heap.lt_size (old _ _ e)) (Nat.lt_irrefl _)
  · exact hS.at fun o e => Heap.get?_push_of_some _ e
  · intro s' L hm hS' g9
    obtain ⟨h', g', d', tk', os'⟩ := s'
    have eg : g' = s.gens := hm.gens
    have ed : d' = s.drawn := hm.drawn
    have eo : os' = s.os := hm.os
    subst eg; subst ed; subst eo
    show wpAny _ _ _ _ _ _
    refine wpAny_pure ?_
    refine h h' tk' L hS' g9 fun b o hb e => ?_
    refine hm.heap b o ?_ (Heap.get?_push_of_some _ e)
    simp only [List.mem_cons, List.not_mem_nil, or_false, not_or]
    exact ⟨hb, Nat.ne_of_lt (Heap.lt_size e)⟩

end
end Kd

namespace Kd
open PySem PySem.Spec PyProof.Rows L2
def setStrs : D → Option (List Str)
  | .str x => some (x.cps.toList.map fun c => ⟨#[c]⟩)
  | .list ds => strsOf ds
  | .tuple ds => strsOf ds
  | _ => none
/-! ### pairs of texts -/
abbrev TxP := Str × Str
def pD (p : TxP) : D := .tuple [.str p.1, .str p.2]
def pk (p : TxP) : List Str := [p.1, p.2]
def psOf : List D → Option (List TxP)
  | [] => some []
  | .tuple [.str a, .str b] :: ds => (psOf ds).map ((a, b) :: ·)
  | _ => none
def setPairs : D → Option (List TxP)
  | .list ds => psOf ds
  | .tuple ds => psOf ds
  | _ => none
theorem ps_map (ps : List TxP) : psOf (ps.map pD) = some ps := by
  induction ps with
  | nil => rfl
  | cons p ps ih => simp only [List.map_cons, pD, psOf] at ih ⊢; rw [ih]; rfl
theorem ps_eq : ∀ {ds : List D} {ps : List TxP}, psOf ds = some ps → ds = ps.map pD
  | [], ps, e => by cases e; rfl
  | d :: ds, ps, e => by
    unfold psOf at e
    split at e
    · rename_i q; cases q
    · rename_i a b ds' q
      cases q
      obtain ⟨l, e1, rfl⟩ := Option.map_eq_some_iff.mp e
      rw [ps_eq e1]
      rfl
    · cases e
def addP (l : List TxP) (p : TxP) : List TxP := if p ∈ l then l else l ++ [p]
def dedP (ps : List TxP) : List TxP := ps.foldl addP []
theorem mem_addP {l : List TxP} {p x : TxP} : x ∈ addP l p ↔ x ∈ l ∨ x = p := by
  unfold addP
  split
  · rename_i h
    exact ⟨.inl, fun z => z.elim id fun e => e ▸ h⟩
  · simp
theorem addP_nd {l : List TxP} {p : TxP} (h : l.Nodup) : (addP l p).Nodup := by
  unfold addP
  split
  · exact h
  · rename_i n
    exact List.nodup_append.mpr ⟨h, by simp, fun a ha b hb => by simp at hb; subst hb; exact fun z => n (z ▸ ha)⟩
theorem foldP (ps : List TxP) : ∀ l : List TxP, (∀ x, x ∈ ps.foldl addP l ↔ x ∈ l ∨ x ∈ ps) ∧ (l.Nodup → (ps.foldl addP l).Nodup) := by
  induction ps with
  | nil => intro l; simp
  | cons p ps ih =>
    intro l
    refine ⟨fun x => ?_, fun h => (ih _).2 (addP_nd h)⟩
    rw [List.foldl_cons, (ih _).1, mem_addP, List.mem_cons, or_assoc]
theorem mem_dedP {ps : List TxP} {x : TxP} : x ∈ dedP ps ↔ x ∈ ps := by
  unfold dedP
  rw [(foldP ps []).1]
  simp
theorem dedP_nd (ps : List TxP) : (dedP ps).Nodup := (foldP ps []).2 .nil
def sortSD (d : D) : Option (List D) := match setStrs d with
  | some xs => if xs.length < 4000 then some (sortD ((dedS xs).map .str)) else none
  | none => match setPairs d with
    | some ps => if ps.length < 64 then some (sortD ((dedP ps).map pD)) else none
    | none => none
theorem canSort_strs (l : List Str) : canSort (l.map (.str : Str → D)) = true := by
  unfold canSort
  have h0 : flatDictAll (l.map (.str : Str → D)) = true := by
    induction l with
    | nil => rfl
    | cons p l ih => simp only [List.map_cons, flatDictAll, ih, Bool.and_true]; rfl
  have h1 : allAlike (l.map (.str : Str → D)) = true := by
    unfold allAlike
    rw [List.all_eq_true]
    intro a ha
    rw [List.all_eq_true]
    intro b hb
    obtain ⟨p, _, rfl⟩ := List.mem_map.mp ha
    obtain ⟨q, _, rfl⟩ := List.mem_map.mp hb
    simp [PySem.W.alike]
  have h2 : noTup (l.map (.str : Str → D)) = true := by
    clear h1 h0
    induction l with
    | nil => rfl
    | cons p l ih => simp only [List.map_cons, noTup]; exact ih
  have h3 : ((l.map (.str : Str → D)).all fun d => decide (d.depth ≤ 64)) = true := by
    rw [List.all_eq_true]
    intro a ha
    obtain ⟨p, _, rfl⟩ := List.mem_map.mp ha
    simp [PyData.depth]
  rw [h1, h2, h0, h3]
  simp
def leS (a b : Str) : Bool := !decide (b.cps.toList < a.cps.toList)
theorem dlt_str (a b : Str) : PySem.W.dataLt (.str a) (.str b) = decide (a.cps.toList < b.cps.toList) := by
  have h := congrFun (congrFun (PySem.W.dataLe_str (fun x : Str => x)) b) a
  rw [PySem.W.dataLe_eq] at h
  simp only [cond_false] at h
  have h2 : PySem.W.dataLt (.str a) (.str b) = !decide (b.cps.toList ≤ a.cps.toList) := by rw [← h, Bool.not_not]
  rw [h2, Bool.eq_iff_iff]
  simp
theorem sort_strs (l : List Str) : sortD (l.map (.str : Str → D)) = (l.mergeSort leS).map .str := by
  unfold sortD
  refine (List.map_mergeSort (f := (.str : Str → D)) (r := leS) (s := PySem.W.dataLe false id) (l := l) fun a _ b _ => ?_).symm
  show leS a b = !PySem.W.dataLt (.str b) (.str a)
  rw [dlt_str]
  rfl
theorem leS_anti {a b : Str} (h1 : leS a b = true) (h2 : leS b a = true) : a = b := by
  simp only [leS, Bool.not_eq_true', decide_eq_false_iff_not] at h1 h2
  have : a.cps.toList = b.cps.toList := List.le_antisymm (by simpa using h1) (by simpa using h2)
  cases a; cases b
  simp only [Str.mk.injEq]
  exact Array.toList_inj.mp this
theorem leS_trans (a b c : Str) (h1 : leS a b = true) (h2 : leS b c = true) : leS a c = true := by
  simp only [leS, Bool.not_eq_true', decide_eq_false_iff_not] at *
  exact List.le_trans h1 h2
theorem leS_total (a b : Str) : (leS a b || leS b a) = true := by
  simp only [leS, Bool.or_eq_true, Bool.not_eq_true', decide_eq_false_iff_not]
  exact List.le_total a.cps.toList b.cps.toList
theorem sort_perm {a b : List Str} (p : a.Perm b) : sortD (a.map (.str : Str → D)) = sortD (b.map .str) := by
  rw [sort_strs, sort_strs]
  congr 1
  refine List.Perm.eq_of_pairwise (le := fun x y => leS x y = true) (fun x y _ _ => leS_anti) (List.pairwise_mergeSort leS_trans leS_total a) (List.pairwise_mergeSort leS_trans leS_total b) ?_
  exact (List.mergeSort_perm a leS).trans (p.trans (List.mergeSort_perm b leS).symm)
theorem eqv_S (a b : Str) : PyData.eqv (.str a) (.str b) = decide (a = b) := by
  by_cases h : a = b
  · subst h; simp [PyData.eqv]
  · simp [PyData.eqv, h]
theorem lx_inj {a b : Str} (h : a.cps.toList = b.cps.toList) : a = b := by
  cases a; cases b
  simp only [Str.mk.injEq]
  exact Array.toList_inj.mp h
theorem dlt_pD (p q : TxP) : PySem.W.dataLt (pD p) (pD q) = true ↔ p.1.cps.toList < q.1.cps.toList ∨ (p.1 = q.1 ∧ p.2.cps.toList < q.2.cps.toList) := by
  unfold pD
  rw [PySem.W.dataLt_pair (by simp [PySem.W.alike]) (by simp [PySem.W.alike]), eqv_S, eqv_S, dlt_str, dlt_str]
  by_cases h1 : p.1 = q.1
  · by_cases h2 : p.2 = q.2
    · simp [h1, h2, List.lt_irrefl]
    · simp [h1, h2, List.lt_irrefl]
  · simp [h1]
def leQ (p q : TxP) : Bool := !PySem.W.dataLt (pD q) (pD p)
theorem leQ_iff (p q : TxP) : leQ p q = true ↔ p.1.cps.toList < q.1.cps.toList ∨ (p.1 = q.1 ∧ p.2.cps.toList ≤ q.2.cps.toList) := by
  unfold leQ
  rw [Bool.not_eq_true', ← Bool.not_eq_true, dlt_pD]
  constructor
  · intro h
    have h1 : ¬ q.1.cps.toList < p.1.cps.toList := fun z => h (.inl z)
    rcases List.le_iff_lt_or_eq.mp (List.not_lt.mp h1) with z | z
    · exact .inl z
    · exact .inr ⟨lx_inj z, List.not_lt.mp fun y => h (.inr ⟨(lx_inj z).symm, y⟩)⟩
  · rintro (h | ⟨h, h2⟩) (z | ⟨z, z2⟩)
    · exact List.lt_asymm h z
    · rw [z] at h; exact List.lt_irrefl _ h
    · rw [h] at z; exact List.lt_irrefl _ z
    · exact List.not_lt.mpr h2 z2
theorem leQ_trans (a b c : TxP) (h1 : leQ a b = true) (h2 : leQ b c = true) : leQ a c = true := by
  rw [leQ_iff] at *
  rcases h1 with h1 | ⟨h1, h1'⟩ <;> rcases h2 with h2 | ⟨h2, h2'⟩
  · exact .inl (List.lt_trans h1 h2)
  · exact .inl (h2 ▸ h1)
  · exact .inl (h1 ▸ h2)
  · exact .inr ⟨h1.trans h2, List.le_trans h1' h2'⟩
theorem leQ_total (a b : TxP) : (leQ a b || leQ b a) = true := by
  rw [Bool.or_eq_true, leQ_iff, leQ_iff]
  rcases List.le_total a.1.cps.toList b.1.cps.toList with h | h
  · rcases List.le_iff_lt_or_eq.mp h with z | z
    · exact .inl (.inl z)
    · rcases List.le_total a.2.cps.toList b.2.cps.toList with y | y
      · exact .inl (.inr ⟨lx_inj z, y⟩)
      · exact .inr (.inr ⟨(lx_inj z).symm, y⟩)
  · rcases List.le_iff_lt_or_eq.mp h with z | z
    · exact .inr (.inl z)
    · rcases List.le_total a.2.cps.toList b.2.cps.toList with y | y
      · exact .inl (.inr ⟨(lx_inj z).symm, y⟩)
      · exact .inr (.inr ⟨lx_inj z, y⟩)
theorem leQ_anti {a b : TxP} (h1 : leQ a b = true) (h2 : leQ b a = true) : a = b := by
  rw [leQ_iff] at *
  rcases h1 with h1 | ⟨h1, h1'⟩ <;> rcases h2 with h2 | ⟨h2, h2'⟩
  · exact absurd h2 (List.lt_asymm h1)
  · rw [h2] at h1; exact absurd h1 (List.lt_irrefl _)
  · rw [h1] at h2; exact absurd h2 (List.lt_irrefl _)
  · exact Prod.ext h1 (lx_inj (List.le_antisymm h1' h2'))
theorem sort_pairs (l : List TxP) : sortD (l.map pD) = (l.mergeSort leQ).map pD := by
  unfold sortD
  exact (List.map_mergeSort (f := pD) (r := leQ) (s := PySem.W.dataLe false id) (l := l) fun a _ b _ => rfl).symm
theorem sortP_perm {a b : List TxP} (p : a.Perm b) : sortD (a.map pD) = sortD (b.map pD) := by
  rw [sort_pairs, sort_pairs]
  congr 1
  refine List.Perm.eq_of_pairwise (le := fun x y => leQ x y = true) (fun x y _ _ => leQ_anti) (List.pairwise_mergeSort leQ_trans leQ_total a) (List.pairwise_mergeSort leQ_trans leQ_total b) ?_
  exact (List.mergeSort_perm a leQ).trans (p.trans (List.mergeSort_perm b leQ).symm)
theorem canSort_pairs (l : List TxP) : canSort (l.map pD) = true := by
  unfold canSort
  have h0 : flatDictAll (l.map pD) = true := by
    induction l with
    | nil => rfl
    | cons p l ih => simp only [List.map_cons, flatDictAll, ih, Bool.and_true]; rfl
  have h1 : allAlike (l.map pD) = true := by
    unfold allAlike
    rw [List.all_eq_true]
    intro a ha
    rw [List.all_eq_true]
    intro b hb
    obtain ⟨p, _, rfl⟩ := List.mem_map.mp ha
    obtain ⟨q, _, rfl⟩ := List.mem_map.mp hb
    simp [pD, PySem.W.alike, PySem.W.alikeAll]
  have h2 : allTup (l.map pD) = true := by
    clear h1 h0
    induction l with
    | nil => rfl
    | cons p l ih => simp only [List.map_cons, pD, allTup]; exact ih
  have h3 : ((l.map pD).all fun d => decide (d.depth ≤ 64)) = true := by
    rw [List.all_eq_true]
    intro a ha
    obtain ⟨p, _, rfl⟩ := List.mem_map.mp ha
    simp [pD, PyData.depth, PyData.depthAll]
  rw [h1, h2, h0, h3]
  rfl
theorem perm_from {α β : Type} {f : α → β} {us vs : List β} (p : us.Perm vs) : ∀ L : List α, vs = L.map f → ∃ L1 : List α, L1.Perm L ∧ us = L1.map f := by
  induction p with
  | nil => intro L e; exact ⟨L, .refl _, e⟩
  | cons x _ ih =>
    intro L e
    cases L with
    | nil => cases e
    | cons y L =>
      simp only [List.map_cons, List.cons.injEq] at e
      obtain ⟨L1, h1, h2⟩ := ih L e.2
      exact ⟨y :: L1, h1.cons y, by rw [List.map_cons, ← e.1, ← h2]⟩
  | swap x y l =>
    intro L e
    match L, e with
    | a :: b :: L, e =>
      simp only [List.map_cons, List.cons.injEq] at e
      exact ⟨b :: a :: L, .swap a b L, by rw [List.map_cons, List.map_cons, ← e.1, ← e.2.1, ← e.2.2]⟩
    | [_], e => simp at e
    | [], e => cases e
  | trans _ _ ih1 ih2 =>
    intro L e
    obtain ⟨L2, h1, h2⟩ := ih2 L e
    obtain ⟨L1, h3, h4⟩ := ih1 L2 h2
    exact ⟨L1, h3.trans h1, h4⟩
theorem txt_vals {P : Program} {w : World} : ∀ {ks : List Str} {us : List Value}, Vals (ks.map V.str) us → ItemsAre (PySem.strKind P w) ks us
  | [], _, .nil => .nil
  | k :: ks, _, .cons r t => by
    obtain ⟨tk, rfl⟩ := r
    exact .cons (strKind_is P w k tk) (txt_vals t)
theorem strs_vals : ∀ {xs : List Str} {us : List Value}, Vals (xs.map V.str) us → ∀ (i : Nat) (v : Value), us[i]? = some v → ∃ x t, xs[i]? = some x ∧ v = .str x t
  | [], _, .nil, i, v, h => by simp at h
  | x :: xs, _, .cons r t, 0, v, h => by
    obtain ⟨k, rfl⟩ := r
    simp at h
    exact ⟨x, k, rfl, h.symm⟩
  | x :: xs, _, .cons r t, i + 1, v, h => by
    simp only [List.getElem?_cons_succ] at h
    obtain ⟨y, k, e1, e2⟩ := strs_vals t i v h
    exact ⟨y, k, by simpa using e1, e2⟩
theorem rp_strs {K : PySem.W.Frag} {H : Hp} {Z : ZS} : ∀ {xs : List Str}, (∀ x ∈ xs, SOk x) → RpAll K H Z (xs.map V.str) (xs.map .str)
  | [], _ => .nil
  | x :: xs, h => .cons (.str x (h x (by simp))) (rp_strs fun y hy => h y (List.mem_cons_of_mem _ hy))
section
variable {X : Cx} {pins : List (Addr × Obj)} {σ : L2.St} {H : Hp} {s : Shared} {Z : ZS}
/-- set(x) -/
theorem set_new {E : Value → Shared → Prop} {x : V} {u : Value} {d : D} {xs : List Str} {Q : Value → Shared → Prop} (hc : X.calm = true) (I : Inv X pins σ H s) (rx : RelV x u) (hx : RpT X.K H Z x d) (hd : setStrs d = some xs) (hn : xs.length < 4000)
    (h : ∀ s', Inv X pins σ H s' → TxSet X.w s'.heap s.heap.objs.size (dedS xs) → (∀ y ∈ xs, SOk y) → Q (.ref s.heap.objs.size) s') :
    wpAny (model X.prog X.w) X.A (PySem.call (.type "set") [u]) Q E s := by
  have hh := I.ok.hd hc
  have fin : (∀ y ∈ xs, SOk y) → ∀ (h' : Heap) (tk : Nat), TxSet X.w h' s.heap.objs.size (dedS xs) → (∀ b o, b < s.heap.objs.size → s.heap.get? b = some o → h'.get? b = some o) → Q (.ref s.heap.objs.size) { s with heap := h', toks := tk } := fun ho h' tk hS hk =>
    h _ (I.kept (t' := tk) fun b o e => hk b o (Heap.lt_size e) e) hS ho
  have pre : TxSet X.w (s.heap.push (newSetO X.w)) s.heap.objs.size [] := tx_fresh X.w
  have old : ∀ {h' : Heap}, (∀ b o, b ≠ s.heap.objs.size → (s.heap.push (newSetO X.w)).get? b = some o → h'.get? b = some o) → ∀ b o, b < s.heap.objs.size → s.heap.get? b = some o → h'.get? b = some o := fun k b o hb e => k b o (Nat.ne_of_lt hb) (Heap.get?_push_of_some _ e)
  cases d with
  | str y =>
    simp only [setStrs, Option.some.injEq] at hd
    subst hd
    cases hx with
    | str _ o =>
      obtain ⟨t, rfl⟩ := rx
      have so : ∀ z ∈ y.cps.toList.map (fun c => (⟨#[c]⟩ : Str)), SOk z := fun z hz => by
        obtain ⟨c, hc', rfl⟩ := List.mem_map.mp hz
        exact strOk_sign o hc'
      refine call_set_by (fun A' E' Q' hA _ hQ => ?_) (fin so)
      refine upd_str (by rw [hA]; exact hh) pre (by simp) hn (fun i v hv => ?_) fun h' tk hS hk => hQ h' tk hS (old hk)
      obtain ⟨c, u, hcu, rfl⟩ := hv
      refine ⟨⟨#[c]⟩, u, ?_, rfl⟩
      rw [List.getElem?_map, Array.getElem?_toList, hcu]
      rfl
  | list ds =>
    cases hx with
    | lst a b c =>
      cases rx
      obtain ⟨rfl, so⟩ := strs_V c hd
      obtain ⟨z, its, n, r, hl, e⟩ := Inv.lstR I a
      refine call_set_by (fun A' E' Q' hA _ hQ => ?_) (fin so)
      refine upd_list (items := its.toArray) (by rw [hA]; exact hh) pre ⟨_, Heap.get?_push_of_some _ e, rfl, n, rfl⟩ (by have := r.length; simp at this ⊢; omega) hn (fun i v hv => strs_vals r i v (by simpa using hv)) fun h' tk hS hk => hQ h' tk hS (old hk)
  | tuple ds =>
    cases hx with
    | tup a b c =>
      cases rx
      obtain ⟨rfl, so⟩ := strs_V c hd
      obtain ⟨its, r, ⟨o, ho, hc', n, hdt⟩, z⟩ := I.tuple a.sq
      refine call_set_by (fun A' E' Q' hA _ hQ => ?_) (fin so)
      refine upd_tuple (items := its.toArray) (by rw [hA]; exact hh) pre ⟨o, Heap.get?_push_of_some _ ho, hc', n, hdt⟩ (by have := r.length; simp at this ⊢; omega) hn (fun i v hv => strs_vals r i v (by simpa using hv)) fun h' tk hS hk => hQ h' tk hS (old hk)
  | _ => cases hd
theorem tx_vals : ∀ {us : List Value} {ks : List Str}, us.map (fun v => txE (0, v)) = ks → (∀ v ∈ us, ∃ k t, v = Value.str k t) → Vals (ks.map V.str) us
  | [], ks, e, _ => by subst e; exact .nil
  | v :: us, ks, e, h => by
    subst e
    obtain ⟨k, t, rfl⟩ := h v (by simp)
    exact .cons ⟨t, rfl⟩ (tx_vals rfl fun u hu => h u (List.mem_cons_of_mem _ hu))
/-- sorted(a), a such a set -/
theorem set_sorted (hc : X.calm = true) (hu : X.A.units + 70 < cLine) {a : Addr} {l : List Str} {Q : VK} (I : Inv X pins σ H s) (R : TxSet X.w s.heap a l) (so : ∀ y ∈ l, SOk y) (hl4 : l.length < 4000)
    (q : RsQ X.K H Z (.fr (.lst (sortD (l.map .str)))) Q) : wpAny (model X.prog X.w) X.A (PySem.call (.builtin "sorted") [.ref a]) (EP X pins σ Q) X.xe s := by
  obtain ⟨o, es, ep, t, ho, hex, hd, pay⟩ := R
  refine Calls.call_function_entry kind_sorted plain_sorted entry_sorted (args_sorted1 _) ?_
  unfold Builtin.«sorted»
  refine wpAny_bind (m := checkCount "sorted" 1 1 _) (wpAny_pure ?_)
  refine wpAny_bind (collect_set (A := X.A.in1) (I.ok.hd hc) ⟨o, ho, hex.1, hd⟩ pay.fits (by rw [pay.size]; unfold scanBound; omega) pay.ris pay.led fun s' us k hz g1 o1 pm => ?_)
  have I' : Inv X pins σ H s' := I.call' (ch := []) o1 (Un.kept k) (HOk.kept I.hok k) (by rw [g1]; exact I.bare) (fun _ z => nomatch z)
  have good : ∀ v ∈ us, ∃ k t, v = Value.str k t := fun v hv => by
    obtain ⟨e, he, z⟩ := List.mem_map.mp (pm.mem_iff.mp hv)
    obtain ⟨k, t, h1, _⟩ := pay.good e he
    exact ⟨k, t, by rw [← z]; exact h1⟩
  have pk : (us.map fun v => txE (0, v)).Perm l := by
    have q := pm.map fun v => txE (0, v)
    rw [List.map_map] at q
    exact q.trans pay.perm
  have hv : Vals ((us.map fun v => txE (0, v)).map V.str) us := tx_vals rfl good
  generalize us.map (fun v => txE (0, v)) = ks at pk hv
  have hr : RpAll X.K H Z (ks.map V.str) (ks.map .str) := rp_strs fun y hy => so y (pk.mem_iff.mp hy)
  rw [← sort_perm pk] at q
  obtain ⟨hal, hsr, hfl, hdp⟩ := canSort_ok (canSort_strs ks)
  have lv := hv.length
  have lk := pk.length_eq
  have hl : us.length ≤ sizeLine := by
    rw [List.length_map] at lv
    rw [sizeLine_eq]
    omega
  refine wpAny_bind (wpAny_newList ?_ hl)
  have hp : H s'.heap.objs.size = none := I'.fresh
  have hat : (s'.heap.push { cls := .type "list", data := .seq us.toArray }).get? s'.heap.objs.size = some (seqObj "list" us.toArray 0) := Heap.get?_push_size _ rfl
  obtain ⟨e1, e2⟩ := each_of I' hr hv hfl
  generalize hvs : ks.map V.str = vs at *
  generalize hds : ks.map (.str : Str → D) = ds at *
  have ld := hr.length
  have em : (vs.zip ds).map (·.2) = ds := map_snd_zip (by omega)
  refine wpAny_bind (wpAny_holding (PySem.W.list_sort_data (s := { s' with heap := s'.heap.push { cls := .type "list", data := .seq us.toArray } }) (bs := vs.zip ds) (enc := (·.2)) hat e1 (e2.mono fun u b hh => ?_) ?_ ?_ ?_ ?_ fun out ho he => ?_))
  · obtain ⟨as, rd, lt⟩ := hh
    exact ⟨as, PyProof.Rows.Reads.keeps (fun _ _ e => Heap.get?_push_of_some _ e) rd, fun hm => absurd (lt _ hm) (Nat.lt_irrefl _)⟩
  · rw [em]; exact hal
  · rw [em]; exact hsr
  · rw [List.length_zip]; omega
  · intro b hb
    have : b.2 ∈ ds := by rw [← em]; exact List.mem_map_of_mem hb
    have := hdp _ this
    show X.A.units + 1 + 1 + b.2.depth < cLine
    omega
  · obtain ⟨b1, b2⟩ := each_back (X := X) he
    have es : ((vs.zip ds).mergeSort (PySem.W.dataLe false (·.2))).map (·.2) = sortD ds := by
      unfold sortD
      rw [PySem.W.sort_maps (r := PySem.W.dataLe false fun b : V × D => b.2) (s := PySem.W.dataLe false id) (fun b : V × D => b.2) (fun _ _ _ _ => rfl), em]
    rw [es] at b2
    obtain ⟨c, hc'⟩ := sortedHeap_at (out := out.toArray) hat
    have lo := b1.length
    have lz : (vs.zip ds).length = us.length := by rw [List.length_zip]; omega
    refine wpAny_pure ⟨_, rfl, ?_⟩
    refine ⟨.ref s'.heap.objs.size, upd H s'.heap.objs.size (.lst (((vs.zip ds).mergeSort (PySem.W.dataLe false (·.2))).map (·.1))), ?_, rfl, ?_⟩
    · refine I'.laid (t' := s'.toks) (fun b o e => ?_) (Nat.le_refl _) ⟨by rw [List.length_map, List.length_mergeSort]; omega, out, c, b1, hc'⟩
      have hlt := Heap.lt_size e
      rw [sortedHeap_old (Nat.ne_of_lt hlt) (by rw [size_push']; exact Nat.lt_succ_of_lt hlt)]
      exact Heap.get?_push_of_some _ e
    · exact q _ _ (Gr.upd hp) hp (newL hp (by rw [List.length_map, List.length_mergeSort]; omega) b2)
theorem tp_new {E : Value → Shared → Prop} {x : V} {u : Value} {d : D} {ps : List TxP} {Q : Value → Shared → Prop} (hc : X.calm = true) (hu : X.A.units + 70 < cLine) (I : Inv X pins σ H s) (rx : RelV x u) (hx : RpT X.K H Z x d) (hd : setPairs d = some ps) (hn : ps.length < 64)
    (h : ∀ s' (L : List (Addr × TxP)), Inv X pins σ H s' → TpSet X.prog X.w s'.heap s.heap.objs.size (L.map fun q => (q.1, pk q.2)) → (∀ q ∈ L, Rp X.K H Z (V.ref q.1) (pD q.2)) → (L.map (·.2)).Perm (dedP ps) → L.length < 64 → Q (.ref s.heap.objs.size) s') :
    wpAny (model X.prog X.w) X.A (PySem.call (.type "set") [u]) Q E s := by
  have hh := I.ok.hd hc
  have parts : ∀ {vs : List V}, RpAll X.K H Z vs (ps.map pD) → ∃ L0 : List (Addr × TxP), L0.map (·.2) = ps ∧ vs = (L0.map fun q => V.ref q.1) ∧ ∀ q ∈ L0, Rp X.K H Z (V.ref q.1) (pD q.2) ∧ TpAt X.prog X.w s.heap (q.1, pk q.2) := by
    clear hd h hn
    induction ps with
    | nil => intro vs r; cases r; exact ⟨[], rfl, rfl, fun _ z => nomatch z⟩
    | cons p ps ih =>
      intro vs r
      cases r with
      | cons r1 r2 =>
        obtain ⟨L0, e1, e2, e3⟩ := ih r2
        have r1' := r1
        unfold pD at r1'
        cases r1' with
        | @tup a xs ds a1 b1 c1 =>
          obtain ⟨rfl, _⟩ := strs_V (bs := pk p) c1 rfl
          obtain ⟨its, rv, ⟨o, ho, hcl, n, hdt⟩, _⟩ := I.tuple a1.sq
          refine ⟨(a, p) :: L0, by rw [List.map_cons, e1], by rw [List.map_cons, e2], fun q hq => ?_⟩
          rcases List.mem_cons.mp hq with rfl | hq
          · exact ⟨r1, o, its.toArray, n, ho, hcl, hdt, by simpa using txt_vals rv⟩
          · exact e3 q hq
  have pre : TpSet X.prog X.w (s.heap.push (newSetO X.w)) s.heap.objs.size [] := tp_fresh X.w
  have nS : s.heap.get? s.heap.objs.size = none := by
    cases e : s.heap.get? s.heap.objs.size with
    | none => rfl
    | some o => exact absurd (Heap.lt_size e) (Nat.lt_irrefl _)
  have od : ∀ {h' : Heap}, (∀ b o, b ≠ s.heap.objs.size → (s.heap.push (newSetO X.w)).get? b = some o → h'.get? b = some o) → ∀ b o, b < s.heap.objs.size → s.heap.get? b = some o → h'.get? b = some o := fun k b o hb e => k b o (Nat.ne_of_lt hb) (Heap.get?_push_of_some _ e)
  have fin : ∀ {L0 : List (Addr × TxP)}, L0.map (·.2) = ps → (∀ q ∈ L0, Rp X.K H Z (V.ref q.1) (pD q.2) ∧ TpAt X.prog X.w s.heap (q.1, pk q.2)) → ∀ (h' : Heap) (tk : Nat), (∃ L, TpSet X.prog X.w h' s.heap.objs.size L ∧ Gt (L0.map fun q => (q.1, pk q.2)) L) → (∀ b o, b < s.heap.objs.size → s.heap.get? b = some o → h'.get? b = some o) → Q (.ref s.heap.objs.size) { s with heap := h', toks := tk } := fun {L0} e0 hL h' tk ⟨L, hS, g1, g2, g3⟩ hk => by
    have inj : ∀ {p q : TxP}, pk p = pk q → p = q := fun {p q} e => by
      unfold pk at e
      simp only [List.cons.injEq, and_true] at e
      exact Prod.ext e.1 e.2
    have back : ∀ M : List (Addr × List Str), (∀ q ∈ M, q ∈ L0.map fun q => (q.1, pk q.2)) → ∃ N : List (Addr × TxP), M = (N.map fun q => (q.1, pk q.2)) ∧ ∀ q ∈ N, q ∈ L0 := by
      intro M
      induction M with
      | nil => intro _; exact ⟨[], rfl, fun _ z => nomatch z⟩
      | cons m M ih =>
        intro hM
        obtain ⟨N, e1, e2⟩ := ih fun q hq => hM q (List.mem_cons_of_mem _ hq)
        obtain ⟨y, hy, rfl⟩ := List.mem_map.mp (hM m (by simp))
        refine ⟨y :: N, by rw [List.map_cons, e1], fun q hq => ?_⟩
        rcases List.mem_cons.mp hq with rfl | hq
        · exact hy
        · exact e2 q hq
    obtain ⟨N, rfl, hN⟩ := back L g1
    have nd : (N.map (·.2)).Nodup := by
      obtain ⟨_, _, _, _, _, _, _, pay⟩ := hS
      have h1 := pay.nd
      rw [List.map_map] at h1
      exact nodup_of_map (f := pk) (by rw [List.map_map]; exact h1)
    have l0 : L0.length = ps.length := by rw [← e0, List.length_map]
    refine h _ N (I.kept (t' := tk) fun b o e => hk b o (Heap.lt_size e) e) hS (fun q hq => (hL q (hN q hq)).1) ((List.perm_ext_iff_of_nodup nd (dedP_nd ps)).mpr fun y => ?_) (by rw [List.length_map, List.length_map] at g3; omega)
    rw [mem_dedP, ← e0]
    constructor
    · intro hy
      obtain ⟨q, hq, rfl⟩ := List.mem_map.mp hy
      exact List.mem_map.mpr ⟨q, hN q hq, rfl⟩
    · intro hy
      obtain ⟨q, hq, rfl⟩ := List.mem_map.mp hy
      have h1 := g2 (q.1, pk q.2) (List.mem_map.mpr ⟨q, hq, rfl⟩)
      rw [List.map_map] at h1
      obtain ⟨z, hz, e⟩ := List.mem_map.mp h1
      exact List.mem_map.mpr ⟨z, hz, inj e⟩
  have atk : ∀ {L0 : List (Addr × TxP)}, (∀ q ∈ L0, Rp X.K H Z (V.ref q.1) (pD q.2) ∧ TpAt X.prog X.w s.heap (q.1, pk q.2)) → ∀ q ∈ (L0.map fun q => (q.1, pk q.2)), TpAt X.prog X.w s.heap q := fun hL q hq => by
    obtain ⟨y, hy, rfl⟩ := List.mem_map.mp hq
    exact (hL y hy).2
  have vl : ∀ {L0 : List (Addr × TxP)} {us : List Value}, Vals (L0.map fun q => V.ref q.1) us → ∀ (i : Nat) (v : Value), us[i]? = some v → ∃ q, (L0.map fun q => (q.1, pk q.2))[i]? = some q ∧ v = Value.ref q.1 := by
    intro L0
    induction L0 with
    | nil => intro us r i v hv; cases r; simp at hv
    | cons y L0 ih =>
      intro us r i v hv
      cases r with
      | cons r1 r2 =>
        cases r1
        cases i with
        | zero => simp at hv; exact ⟨_, rfl, hv.symm⟩
        | succ i => exact ih r2 i v (by simpa using hv)
  cases d with
  | list ds =>
    have ed := ps_eq (show psOf ds = some ps from hd)
    subst ed
    cases hx with
    | lst a b c =>
      cases rx
      obtain ⟨L0, e0, rfl, hL⟩ := parts c
      obtain ⟨z, its, n, r, hl, e⟩ := Inv.lstR I a
      have l0 : L0.length = ps.length := by rw [← e0, List.length_map]
      refine call_set_by (fun A' E' Q' hA hA2 hQ => ?_) (fin e0 hL)
      refine tpu_list (items := its.toArray) (h0 := s.heap) (by rw [hA]; exact hh) (by omega) pre (atk hL) nS (fun b o e => Heap.get?_push_of_some _ e) ⟨_, Heap.get?_push_of_some _ e, rfl, n, rfl⟩ (by have := r.length; simp at this ⊢; omega) (by rw [List.length_map]; omega) (fun i v hv => vl r i v (by simpa using hv)) fun h' tk L hS g hk => hQ h' tk ⟨L, hS, g⟩ (od hk)
  | tuple ds =>
    have ed := ps_eq (show psOf ds = some ps from hd)
    subst ed
    cases hx with
    | tup a b c =>
      cases rx
      obtain ⟨L0, e0, rfl, hL⟩ := parts c
      obtain ⟨its, r, ⟨o, ho, hc', n, hdt⟩, z⟩ := I.tuple a.sq
      have l0 : L0.length = ps.length := by rw [← e0, List.length_map]
      refine call_set_by (fun A' E' Q' hA hA2 hQ => ?_) (fin e0 hL)
      refine tpu_tuple (items := its.toArray) (h0 := s.heap) (by rw [hA]; exact hh) (by omega) pre (atk hL) nS (fun b o e => Heap.get?_push_of_some _ e) ⟨o, Heap.get?_push_of_some _ ho, hc', n, hdt⟩ (by have := r.length; simp at this ⊢; omega) (by rw [List.length_map]; omega) (fun i v hv => vl r i v (by simpa using hv)) fun h' tk L hS g hk => hQ h' tk ⟨L, hS, g⟩ (od hk)
  | _ => cases hd
theorem tp_sorted (hc : X.calm = true) (hu : X.A.units + 70 < cLine) {a : Addr} {L : List (Addr × TxP)} {Q : VK} (I : Inv X pins σ H s) (R : TpSet X.prog X.w s.heap a (L.map fun q => (q.1, pk q.2))) (so : ∀ q ∈ L, Rp X.K H Z (V.ref q.1) (pD q.2)) (hl4 : L.length < 64)
    (q : RsQ X.K H Z (.fr (.lst (sortD (L.map fun q => pD q.2)))) Q) : wpAny (model X.prog X.w) X.A (PySem.call (.builtin "sorted") [.ref a]) (EP X pins σ Q) X.xe s := by
  obtain ⟨o, es, ep, t, ho, hex, hd, pay⟩ := R
  refine Calls.call_function_entry kind_sorted plain_sorted entry_sorted (args_sorted1 _) ?_
  unfold Builtin.«sorted»
  refine wpAny_bind (m := checkCount "sorted" 1 1 _) (wpAny_pure ?_)
  refine wpAny_bind (collect_set (A := X.A.in1) (I.ok.hd hc) ⟨o, ho, hex.1, hd⟩ pay.fits (by rw [pay.size, List.length_map]; unfold scanBound; omega) pay.tab.ris pay.led fun s' us k hz g1 o1 pm => ?_)
  have I' : Inv X pins σ H s' := I.call' (ch := []) o1 (Un.kept k) (HOk.kept I.hok k) (by rw [g1]; exact I.bare) (fun _ z => nomatch z)
  have pm2 : us.Perm (L.map fun q => Value.ref q.1) := by
    have e : es.toList.map (·.2) = L.map fun q => Value.ref q.1 := by rw [pay.rows, List.map_map, List.map_map]; rfl
    rw [e] at pm
    exact pm
  obtain ⟨ks, pk1, rfl⟩ := perm_from pm2 L rfl
  have hv : Vals (ks.map fun q => V.ref q.1) (ks.map fun q => Value.ref q.1) := by
    clear pm pm2 pk1
    induction ks with
    | nil => exact .nil
    | cons q ks ih => exact .cons rfl ih
  have hr : RpAll X.K H Z (ks.map fun q => V.ref q.1) (ks.map fun q => pD q.2) := by
    have so' : ∀ q ∈ ks, Rp X.K H Z (V.ref q.1) (pD q.2) := fun q hq => so q (pk1.mem_iff.mp hq)
    clear pm pm2 pk1 hv
    induction ks with
    | nil => exact .nil
    | cons q ks ih => exact .cons (so' q (by simp)) (ih fun y hy => so' y (List.mem_cons_of_mem _ hy))
  have se : sortD (L.map fun q => pD q.2) = sortD (ks.map fun q => pD q.2) := by
    have h := sortP_perm (pk1.map (·.2))
    rw [List.map_map, List.map_map] at h
    exact h.symm
  rw [se] at q
  have cs : canSort (ks.map fun q => pD q.2) = true := by
    have h := canSort_pairs (ks.map (·.2))
    rw [List.map_map] at h
    exact h
  obtain ⟨hal, hsr, hfl, hdp⟩ := canSort_ok cs
  have lv := hv.length
  have lk := pk1.length_eq
  generalize hus : (ks.map fun q => Value.ref q.1) = us at *
  have lus : us.length = ks.length := by rw [← hus, List.length_map]
  have hl : us.length ≤ sizeLine := by
    rw [List.length_map] at lv
    rw [sizeLine_eq]
    omega
  refine wpAny_bind (wpAny_newList ?_ hl)
  have hp : H s'.heap.objs.size = none := I'.fresh
  have hat : (s'.heap.push { cls := .type "list", data := .seq us.toArray }).get? s'.heap.objs.size = some (seqObj "list" us.toArray 0) := Heap.get?_push_size _ rfl
  obtain ⟨e1, e2⟩ := each_of I' hr hv hfl
  generalize hvs : (ks.map fun q => V.ref q.1) = vs at *
  generalize hds : (ks.map fun q => pD q.2) = ds at *
  have ld := hr.length
  have em : (vs.zip ds).map (·.2) = ds := map_snd_zip (by omega)
  refine wpAny_bind (wpAny_holding (PySem.W.list_sort_data (s := { s' with heap := s'.heap.push { cls := .type "list", data := .seq us.toArray } }) (bs := vs.zip ds) (enc := (·.2)) hat e1 (e2.mono fun u b hh => ?_) ?_ ?_ ?_ ?_ fun out ho he => ?_))
  · obtain ⟨as, rd, lt⟩ := hh
    exact ⟨as, PyProof.Rows.Reads.keeps (fun _ _ e => Heap.get?_push_of_some _ e) rd, fun hm => absurd (lt _ hm) (Nat.lt_irrefl _)⟩
  · rw [em]; exact hal
  · rw [em]; exact hsr
  · rw [List.length_zip]; omega
  · intro b hb
    have : b.2 ∈ ds := by rw [← em]; exact List.mem_map_of_mem hb
    have := hdp _ this
    show X.A.units + 1 + 1 + b.2.depth < cLine
    omega
  · obtain ⟨b1, b2⟩ := each_back (X := X) he
    have es : ((vs.zip ds).mergeSort (PySem.W.dataLe false (·.2))).map (·.2) = sortD ds := by
      unfold sortD
      rw [PySem.W.sort_maps (r := PySem.W.dataLe false fun b : V × D => b.2) (s := PySem.W.dataLe false id) (fun b : V × D => b.2) (fun _ _ _ _ => rfl), em]
    rw [es] at b2
    obtain ⟨c, hc'⟩ := sortedHeap_at (out := out.toArray) hat
    have lo := b1.length
    have lz : (vs.zip ds).length = us.length := by rw [List.length_zip]; omega
    refine wpAny_pure ⟨_, rfl, ?_⟩
    refine ⟨.ref s'.heap.objs.size, upd H s'.heap.objs.size (.lst (((vs.zip ds).mergeSort (PySem.W.dataLe false (·.2))).map (·.1))), ?_, rfl, ?_⟩
    · refine I'.laid (t' := s'.toks) (fun b o e => ?_) (Nat.le_refl _) ⟨by rw [List.length_map, List.length_mergeSort]; omega, out, c, b1, hc'⟩
      have hlt := Heap.lt_size e
      rw [sortedHeap_old (Nat.ne_of_lt hlt) (by rw [size_push']; exact Nat.lt_succ_of_lt hlt)]
      exact Heap.get?_push_of_some _ e
    · exact q _ _ (Gr.upd hp) hp (newL hp (by rw [List.length_map, List.length_mergeSort]; omega) b2)
end
def tSrtS (K : PySem.W.Frag) (te : TE) : TE := fun σ H Q => te σ H fun x H1 => ∃ Z d ds, RpT K H1 Z x d ∧ Dom H1 Z ∧ sortSD d = some ds ∧ RsQ K H1 Z (.fr (.lst ds)) Q
theorem pe_srtS {X : Cx} {a : Expr} {ta : TE} {p p2 q pos : Pos} (hc : X.calm = true) (hu : X.A.units + 70 < cLine) (hg : Gl X "sorted") (hm : X.mg "sorted" = none) (hg2 : Gl X "set") (hm2 : X.mg "set" = none) (ha : PE X a ta)
    (na : starEach [a] X.env = (false, eval a X.env) :: starEach [] X.env) : PE X (.Call (.Name "sorted" p) [.Call (.Name "set" p2) [a] [] q] [] pos) (tSrtS X.K ta) := by
  refine ⟨fun pins s σ H Q I h => ?_⟩
  refine Call_ (ld_blt I hg hm (u := .builtin "sorted") (by kernel_rfl) ?_ (by decide) (by decide))
  refine PyProof.Rows.callWith_builtin1 (PyProof.Rows.args_cons ?_ rfl) rfl rfl
  refine Call_ (ld_blt I hg2 hm2 boot_set ?_ (by decide) (by decide))
  refine PyProof.Rows.callWith_type1 (PyProof.Rows.args_cons (thn (ha.run pins s σ H _ I h) fun v s1 ⟨x, H1, I1, r1, q1⟩ => PyProof.Rows.args_nil ?_) na) na rfl
  obtain ⟨Z, d, ds, hx, dz, hf, q⟩ := q1
  unfold sortSD at hf
  cases hs : setStrs d with
  | none =>
    rw [hs] at hf
    simp only at hf
    cases hs2 : setPairs d with
    | none => rw [hs2] at hf; cases hf
    | some ps =>
      rw [hs2] at hf
      simp only at hf
      split at hf
      · rename_i hn
        cases hf
        refine tp_new hc hu I1 r1 hx hs2 hn fun s2 L I2 hS so pm hl => ?_
        refine PyProof.Rows.args_nil ?_
        have e := sortP_perm pm
        rw [List.map_map] at e
        rw [← e] at q
        exact tp_sorted hc hu I2 hS so hl q
      · cases hf
  | some xs =>
    rw [hs] at hf
    simp only at hf
    split at hf
    · rename_i hn
      cases hf
      refine set_new hc I1 r1 hx hs hn fun s2 I2 hS so => ?_
      refine PyProof.Rows.args_nil ?_
      have hln : (dedS xs).length < 4000 := by
        have := foldS_len xs []
        simp only [List.length_nil] at this
        unfold dedS
        omega
      exact set_sorted hc hu I2 hS (fun y hy => so y (mem_dedS.mp hy)) hln q
    · cases hf
/-! ### tuple(a text) -/
def biTup : D → Option Rs
  | .str x => some (.sh (.tuple (x.cps.toList.map fun c => .str ⟨#[c]⟩)))
  | d => biTuple d
theorem bi_tup {X : Cx} (hc : X.calm = true) : CallR X (.type "tuple") (rBi X.K (one biTup)) := by
  intro pins s σ H xs us Q I r h
  obtain ⟨x, Z, d, rr, rfl, hx, dz, hf, q⟩ := rBi_one h
  unfold biTup at hf
  split at hf
  · cases hf
    cases hx with
    | str y o =>
      obtain ⟨u, rfl, rx⟩ := vals1 r
      obtain ⟨t, rfl⟩ := rx
      refine call_tuple_str (I.ok.hd hc) _ t (fun h' tk acc k it => ?_) o.2
      have I1 : Inv X pins σ H { s with heap := h', toks := tk } := I.kept (t' := tk) k
      rename_i y0
      have hv : Vals (y0.cps.toList.map fun c => V.str ⟨#[c]⟩) acc.toList := vals_at (by simp [it.1]) fun j u hj => by
        obtain ⟨c, w, e1, rfl⟩ := it.2 j u (by rw [← Array.getElem?_toList]; exact hj)
        refine ⟨.str ⟨#[c]⟩, ?_, ⟨w, rfl⟩⟩
        rw [List.getElem?_map, Array.getElem?_toList, e1]
        rfl
      have hl : (y0.cps.toList.map fun c => V.str ⟨#[c]⟩).length ≤ sizeLine := by
        rw [List.length_map, Array.length_toList]
        exact o.2
      have hp : H h'.objs.size = none := I1.hok.fresh (Nat.le_refl _)
      have I2 : Inv X pins σ (upd H h'.objs.size (.tup (y0.cps.toList.map fun c => V.str ⟨#[c]⟩))) { s with heap := h'.push { cls := .type "tuple", data := .seq acc }, toks := tk } :=
        I1.laid (t' := tk) (fun b o e => Heap.get?_push_of_some _ e) (Nat.le_refl _) (show ObjOk X.prog X.w _ _ _ (.tup _) from ⟨hl, acc.toList, hv, IsTup.new _ _⟩)
      exact ⟨.ref h'.objs.size, _, I2, rfl, q _ _ (Gr.upd hp) (newT dz hp hl (rp_signs o _ fun _ z => z))⟩
  · exact bi_tuple pins s σ H _ us Q I r ⟨Z, [d], rr, .cons hx .nil, dz, hf, q⟩
end Kd

namespace Kd
open PySem PySem.Spec PyProof.Rows L2 RZ
/-- J walks the data ds while G stands -/
structure WD (K : PySem.W.Frag) (J : It) (ds : List D) (G : Hp → ZS → Prop) : Prop where
  go : ∀ i H Z, i < ds.length → G H Z → J.go i H
  stop : ∀ H Z, G H Z → J.stop ds.length H
  yld : ∀ i H Z x H', i < ds.length → G H Z → Dom H Z → J.yld i H x H' → Gr H H' ∧ ∃ d, ds[i]? = some d ∧ Rp K H' Z x d
def seqD : D → Option (List D)
  | .list ds => some ds
  | .tuple ds => some ds
  | .str x => some (signs x)
  | _ => none
section
variable {K : PySem.W.Frag}
theorem wd_list {a : Addr} {ds : List D} : WD K (Itl K a) ds (fun H Z => RpT K H Z (.ref a) (.list ds)) where
  go := fun i H Z hi g => by
    cases g with
    | lst h1 h2 h3 =>
      obtain ⟨v, e, _⟩ := h3.get (List.getElem?_eq_getElem hi)
      exact ⟨_, v, .inl h1, e⟩
  stop := fun H Z g => by
    cases g with
    | lst h1 h2 h3 => exact ⟨_, .inl h1, Nat.le_of_eq h3.length⟩
  yld := fun i H Z x H' hi g dz y => by
    cases g with
    | lst h1 h2 h3 =>
      obtain ⟨rfl, y2⟩ := y
      obtain ⟨d, e, r⟩ := h3.get' (y2 _ (.inl h1))
      exact ⟨Gr.refl _, d, e, r⟩
theorem wd_tup {a : Addr} {ds : List D} : WD K (Itt K a) ds (fun H Z => RpT K H Z (.ref a) (.tuple ds)) where
  go := fun i H Z hi g => by
    cases g with
    | tup h1 h2 h3 =>
      obtain ⟨v, e, _⟩ := h3.get (List.getElem?_eq_getElem hi)
      exact ⟨_, v, h1.sq, e⟩
  stop := fun H Z g => by
    cases g with
    | tup h1 h2 h3 => exact ⟨_, h1.sq, Nat.le_of_eq h3.length⟩
  yld := fun i H Z x H' hi g dz y => by
    cases g with
    | tup h1 h2 h3 =>
      obtain ⟨rfl, y2⟩ := y
      obtain ⟨d, e, r⟩ := h3.get' (y2 _ h1.sq)
      exact ⟨Gr.refl _, d, e, r⟩
theorem signs_len (x : Str) : (signs x).length = x.cps.size := by simp [signs]
theorem wd_str {z : Str} : WD K (Its z) (signs z) (fun H Z => RpT K H Z (.str z) (.str z)) where
  go := fun i H Z hi g => by rw [signs_len] at hi; exact hi
  stop := fun H Z g => by rw [signs_len]; exact Nat.le_refl _
  yld := fun i H Z x H' hi g dz y => by
    obtain ⟨rfl, c, e, rfl⟩ := y
    cases g with
    | str _ o =>
      refine ⟨Gr.refl _, .str ⟨#[c]⟩, ?_, .str _ (strOk_sign o ?_)⟩
      · simp [signs, e]
      · exact List.mem_of_getElem? (by rw [Array.getElem?_toList]; exact e)
def rangeL (lo : Int) (n : Nat) : List D := (List.range n).map fun i => .int (lo + (i : Nat))
theorem wd_range {lo : Int} {n : Nat} : WD K (Itr lo n) (rangeL lo n) (fun _ _ => True) where
  go := fun i H Z hi g => by
    have h : i < n := by simpa [rangeL] using hi
    exact h
  stop := fun H Z g => by simp [rangeL, Itr]
  yld := fun i H Z x H' hi g dz y => by
    obtain ⟨rfl, rfl⟩ := y
    have h : i < n := by simpa [rangeL] using hi
    exact ⟨Gr.refl _, .int (lo + (i : Nat)), by simp [rangeL, List.getElem?_map, List.getElem?_range h], .int _⟩
/-! dicts: a locked dict's keys -/
theorem wd_keysK {d : Addr} {o : Obj} {kvs : List (Key × V)} (hk : ∀ p ∈ kvs, KOk p.1) : WD K (Itk d o kvs) (kvs.map fun p => kD p.1) (fun H _ => H d = some (.frz o (.dK kvs))) where
  go := fun i H Z hi g => ⟨g, by simpa using hi⟩
  stop := fun H Z g => ⟨g, by simp⟩
  yld := fun i H Z x H' hi g dz y => by
    obtain ⟨rfl, k, v, e, rfl⟩ := y
    refine ⟨Gr.refl _, kD k, by simp [List.getElem?_map, e], rp_key k ?_⟩
    exact hk _ (List.mem_of_getElem? e)
theorem wd_keysT {d : Addr} {o : Obj} {kvs : List (List Key × V)} (hl : ∀ p ∈ kvs, p.1.length ≤ sizeLine) (hk : ∀ p ∈ kvs, ∀ k ∈ p.1, KOk k) : WD K (Itkt d o kvs) (kvs.map fun p => kT p.1) (fun H _ => H d = some (.frz o (.dT kvs))) where
  go := fun i H Z hi g => ⟨g, by simpa using hi⟩
  stop := fun H Z g => ⟨g, by simp⟩
  yld := fun i H Z x H' hi g dz y => by
    obtain ⟨rfl, k, v, q, e, rfl, hq⟩ := y
    have m := List.mem_of_getElem? e
    refine ⟨Gr.refl _, kT k, by simp [List.getElem?_map, e], .tup ⟨fun z => ?_, hq⟩ (by rw [List.length_map]; exact hl _ m) (rp_keys k (hk _ m))⟩
    obtain ⟨u, e1, nt⟩ := dz q z
    rw [hq] at e1
    cases e1
    cases nt
/-! reversed -/
theorem wd_revL {a : Addr} {ds : List D} : WD K (Itv K a ds.length) ds.reverse (fun H Z => RpT K H Z (.ref a) (.list ds)) where
  go := fun i H Z hi g => by
    rw [List.length_reverse] at hi
    cases g with
    | lst h1 h2 h3 =>
      obtain ⟨v, e, _⟩ := h3.get (List.getElem?_eq_getElem (show ds.length - 1 - i < ds.length by omega))
      exact ⟨hi, _, v, .inl h1, e⟩
  stop := fun H Z g => by
    show ds.length ≤ ds.reverse.length
    simp
  yld := fun i H Z x H' hi g dz y => by
    rw [List.length_reverse] at hi
    cases g with
    | lst h1 h2 h3 =>
      obtain ⟨rfl, y2⟩ := y
      obtain ⟨d, e, r⟩ := h3.get' (y2 _ (.inl h1))
      exact ⟨Gr.refl _, d, by rw [List.getElem?_reverse hi]; exact e, r⟩
theorem wd_revT {a : Addr} {ds : List D} : WD K (RT.ItvT K a ds.length) ds.reverse (fun H Z => RpT K H Z (.ref a) (.tuple ds)) where
  go := fun i H Z hi g => by
    rw [List.length_reverse] at hi
    cases g with
    | tup h1 h2 h3 =>
      obtain ⟨v, e, _⟩ := h3.get (List.getElem?_eq_getElem (show ds.length - 1 - i < ds.length by omega))
      exact ⟨hi, _, v, h1.sq, e⟩
  stop := fun H Z g => by
    show ds.length ≤ ds.reverse.length
    simp
  yld := fun i H Z x H' hi g dz y => by
    rw [List.length_reverse] at hi
    cases g with
    | tup h1 h2 h3 =>
      obtain ⟨rfl, y2⟩ := y
      obtain ⟨d, e, r⟩ := h3.get' (y2 _ h1.sq)
      exact ⟨Gr.refl _, d, by rw [List.getElem?_reverse hi]; exact e, r⟩
/-! zip, enumerate: items put together -/
def zip2 : List D → List D → List D
  | a :: as, b :: bs => .tuple [a, b] :: zip2 as bs
  | _, _ => []
theorem zip2_len : ∀ as bs : List D, (zip2 as bs).length = min as.length bs.length
  | [], _ => by simp [zip2]
  | _ :: _, [] => by simp [zip2]
  | a :: as, b :: bs => by simp only [zip2, List.length_cons, zip2_len as bs]; omega
theorem zip2_get : ∀ {as bs : List D} {i : Nat} {a b : D}, as[i]? = some a → bs[i]? = some b → (zip2 as bs)[i]? = some (.tuple [a, b])
  | [], _, _, _, _, h, _ => by simp at h
  | _ :: _, [], _, _, _, _, h => by simp at h
  | _ :: _, _ :: _, 0, _, _, h1, h2 => by simp at h1 h2; simp [zip2, h1, h2]
  | _ :: as, _ :: bs, i + 1, a, b, h1, h2 => by
    have := zip2_get (as := as) (bs := bs) (i := i) (a := a) (b := b) (by simpa using h1) (by simpa using h2)
    simpa [zip2] using this
def zip3 : List D → List D → List D → List D
  | a :: as, b :: bs, c :: cs => .tuple [a, b, c] :: zip3 as bs cs
  | _, _, _ => []
theorem zip3_len : ∀ as bs cs : List D, (zip3 as bs cs).length = min (min as.length bs.length) cs.length
  | [], _, _ => by simp [zip3]
  | _ :: _, [], _ => by simp [zip3]
  | _ :: _, _ :: _, [] => by simp [zip3]
  | a :: as, b :: bs, c :: cs => by simp only [zip3, List.length_cons, zip3_len as bs cs]; omega
theorem zip3_get : ∀ {as bs cs : List D} {i : Nat} {a b c : D}, as[i]? = some a → bs[i]? = some b → cs[i]? = some c → (zip3 as bs cs)[i]? = some (.tuple [a, b, c])
  | [], _, _, _, _, _, _, h, _, _ => by simp at h
  | _ :: _, [], _, _, _, _, _, _, h, _ => by simp at h
  | _ :: _, _ :: _, [], _, _, _, _, _, _, h => by simp at h
  | _ :: _, _ :: _, _ :: _, 0, _, _, _, h1, h2, h3 => by simp at h1 h2 h3; simp [zip3, h1, h2, h3]
  | _ :: as, _ :: bs, _ :: cs, i + 1, a, b, c, h1, h2, h3 => by
    have := zip3_get (as := as) (bs := bs) (cs := cs) (i := i) (a := a) (b := b) (c := c) (by simpa using h1) (by simpa using h2) (by simpa using h3)
    simpa [zip3] using this
def enumL (k : Int) : List D → List D
  | [] => []
  | d :: ds => .tuple [.int k, d] :: enumL (k + 1) ds
theorem enumL_len : ∀ (k : Int) (ds : List D), (enumL k ds).length = ds.length
  | _, [] => rfl
  | k, d :: ds => by simp [enumL, enumL_len (k + 1) ds]
theorem enumL_get : ∀ {k : Int} {ds : List D} {i : Nat} {d : D}, ds[i]? = some d → (enumL k ds)[i]? = some (.tuple [.int (k + (i : Nat)), d])
  | _, [], _, _, h => by simp at h
  | k, _ :: _, 0, _, h => by simp at h; simp [enumL, h]
  | k, _ :: ds, i + 1, d, h => by
    have := enumL_get (k := k + 1) (ds := ds) (i := i) (d := d) (by simpa using h)
    simp only [enumL, List.getElem?_cons_succ, this]
    have e : k + 1 + (i : Int) = k + ((i + 1 : Nat) : Int) := by omega
    rw [e]
theorem pair_new {H : Hp} {Z : ZS} {T : Addr} {x y : V} {a b : D} (dz : Dom H Z) (hT : H T = none) (hx : Rp K H Z x a) (hy : Rp K H Z y b) : Rp K (upd H T (.tup [x, y])) Z (.ref T) (.tuple [a, b]) :=
  newT dz hT (by show 2 ≤ sizeLine; decide) (.cons hx (.cons hy .nil))
end
end Kd

namespace Kd
open PySem PySem.Spec PyProof.Rows L2 RZ
/-- a list, a tuple or a text as an iterator walks it -/
inductive Sr where
  | l (a : Addr)
  | t (a : Addr)
  | s (x : Str) (k : Tok)
def Sr.val : Sr → Value
  | .l a => .ref a
  | .t a => .ref a
  | .s x k => .str x k
def Sr.obj : Sr → Obj
  | .l a => { cls := .type "list_iterator", data := .fields #[.ref a, .int 0 0] }
  | .t a => { cls := .type "tuple_iterator", data := .fields #[.ref a, .int 0 0] }
  | .s x k => { cls := .type (strIterType x), data := .fields #[.str x k, .int 0 0] }
def Sr.fp (it : Addr) : Sr → List Addr
  | .l a => [it, a]
  | .t a => [it, a]
  | .s _ _ => [it]
def Sr.pl (it : Addr) (i : Nat) (h : Heap) : Sr → Prop
  | .l a => h.IsListIter it a i
  | .t a => h.IsTupleIter it a i
  | .s x k => h.IsStrIter it (strIterType x) x k i
def Sr.has (its : Array Value) (h : Heap) : Sr → Prop
  | .l a => h.IsList a its
  | .t a => h.IsTuple a its
  | .s _ _ => True
def Sr.n (its : Array Value) : Sr → Nat
  | .l _ => its.size
  | .t _ => its.size
  | .s x _ => x.cps.size
def Sr.gives (its : Array Value) (i : Nat) (v : Value) : Sr → Prop
  | .l _ => its[i]? = some v
  | .t _ => its[i]? = some v
  | .s x _ => ∃ c u, x.cps[i]? = some c ∧ v = .str ⟨#[c]⟩ u
def Sr.off (b : Addr) : Sr → Prop
  | .l a => a ≠ b
  | .t a => a ≠ b
  | .s _ _ => True
/-- the abstract side -/
def Sr.len (H : Hp) (n : Nat) : Sr → Prop
  | .l a => ∃ xs, Rd H a (.lst xs) ∧ xs.length = n
  | .t a => ∃ xs, H a = some (.tup xs) ∧ xs.length = n
  | .s x _ => x.cps.size = n
def Sr.at_ (H : Hp) (i : Nat) (y : V) : Sr → Prop
  | .l a => ∀ xs, Rd H a (.lst xs) → xs[i]? = some y
  | .t a => ∀ xs, H a = some (.tup xs) → xs[i]? = some y
  | .s x _ => ∃ c, x.cps[i]? = some c ∧ y = .str ⟨#[c]⟩
theorem Sr.begins (sr : Sr) (its : Array Value) : Begins sr.val sr.obj (fun h => sr.has its h) := by
  cases sr with
  | l a => exact begins_list a its
  | t a => exact begins_tuple a its
  | s x k => exact begins_text x k
theorem Sr.draws {prog : Program} {w : World} {A : Around} (hh : A.handled = none) (sr : Sr) (it : Addr) (hne : sr.off it) (its : Array Value) :
    Draws prog w A it (sr.fp it) (sr.n its) (fun i v => sr.gives its i v) (fun i h => sr.pl it i h ∧ sr.has its h) := by
  cases sr with
  | l a => exact Draws.list hh it a hne its
  | t a => exact Draws.tuple hh it a hne its
  | s x k =>
    have q := Draws.text (prog := prog) (w := w) hh it x k
    exact ⟨fun i h st => q.live i h st.1, fun i h h' st kk => ⟨q.frame i h h' st.1 kk, trivial⟩, fun i s Q E hi st hQ => q.item i s Q E hi st.1 fun x h' tk a b c => hQ x h' tk a ⟨b, trivial⟩ c, fun s Q E st hE => q.done s Q E st.1 hE⟩
theorem Sr.start (sr : Sr) {h : Heap} {it : Addr} (e : h.get? it = some sr.obj) : sr.pl it 0 h := by
  cases sr with
  | l a => exact ⟨_, e, rfl, rfl⟩
  | t a => exact ⟨_, e, rfl, rfl⟩
  | s x k => exact ⟨_, e, rfl, rfl⟩
theorem Sr.keep (sr : Sr) {h h' : Heap} {it : Addr} {i : Nat} (k : ∀ o, h.get? it = some o → h'.get? it = some o) (x : sr.pl it i h) : sr.pl it i h' := by
  cases sr with
  | l a => obtain ⟨o, e, r⟩ := x; exact ⟨o, k o e, r⟩
  | t a => obtain ⟨o, e, r⟩ := x; exact ⟨o, k o e, r⟩
  | s y t => obtain ⟨o, e, r⟩ := x; exact ⟨o, k o e, r⟩
theorem Sr.cell (sr : Sr) {h : Heap} {it : Addr} {i : Nat} (x : sr.pl it i h) : ∃ o, h.get? it = some o ∧ ∀ v, o.data ≠ .cell v := by
  cases sr with
  | l a => obtain ⟨o, e, _, d⟩ := x; exact ⟨o, e, fun v z => by rw [d] at z; cases z⟩
  | t a => obtain ⟨o, e, _, d⟩ := x; exact ⟨o, e, fun v z => by rw [d] at z; cases z⟩
  | s y t => obtain ⟨o, e, _, d⟩ := x; exact ⟨o, e, fun v z => by rw [d] at z; cases z⟩
theorem Sr.offOf (sr : Sr) {H : Hp} {n : Nat} {b : Addr} (hl : sr.len H n) (hb : H b = none) : sr.off b := by
  cases sr with
  | l a =>
    obtain ⟨xs, r, _⟩ := hl
    intro e
    subst e
    obtain ⟨o, e⟩ := rd_some r
    rw [hb] at e; cases e
  | t a =>
    obtain ⟨xs, r, _⟩ := hl
    intro e
    subst e
    rw [hb] at r; cases r
  | s x k => trivial
theorem rd_fun {H : Hp} {a : Addr} {xs ys : List V} (h : Rd H a (.lst xs)) (h' : Rd H a (.lst ys)) : xs = ys := by
  rcases h with h | ⟨o, h⟩ <;> rcases h' with h' | ⟨o', h'⟩ <;> rw [h] at h' <;> cases h' <;> rfl
/-- what stands in memory for a source -/
theorem Sr.real {X : Cx} {pins : List (Addr × Obj)} {σ : L2.St} {H : Hp} {s : Shared} (I : Inv X pins σ H s) (sr : Sr) {n : Nat} (hl : sr.len H n) :
    ∃ its, sr.has its s.heap ∧ sr.n its = n ∧ ∀ i v, sr.gives its i v → ∃ y, sr.at_ H i y ∧ RelV y v := by
  cases sr with
  | l a =>
    obtain ⟨xs, r, e⟩ := hl
    obtain ⟨its, rv, p, hz⟩ := I.list (.inl r)
    refine ⟨its.toArray, p.isList, by rw [← e, rv.length]; simp [Sr.n], fun i v g => ?_⟩
    have g' : its[i]? = some v := by simpa [Sr.gives] using g
    obtain ⟨y, ey, ry⟩ : ∃ y, xs[i]? = some y ∧ RelV y v := by
      have := rv.length
      have hi := lt_get g'
      obtain ⟨y, ey⟩ : ∃ y, xs[i]? = some y := ⟨xs[i]'(by omega), List.getElem?_eq_getElem (by omega)⟩
      obtain ⟨u, eu, ru⟩ := rv.get ey
      rw [g'] at eu
      cases eu
      exact ⟨y, ey, ru⟩
    exact ⟨y, fun zs hz => by rw [rd_fun hz r]; exact ey, ry⟩
  | t a =>
    obtain ⟨xs, r, e⟩ := hl
    obtain ⟨its, rv, p, hz⟩ := I.tuple (.inl (.inl r))
    refine ⟨its.toArray, p, by rw [← e, rv.length]; simp [Sr.n], fun i v g => ?_⟩
    have g' : its[i]? = some v := by simpa [Sr.gives] using g
    obtain ⟨y, ey, ry⟩ : ∃ y, xs[i]? = some y ∧ RelV y v := by
      have := rv.length
      have hi := lt_get g'
      obtain ⟨y, ey⟩ : ∃ y, xs[i]? = some y := ⟨xs[i]'(by omega), List.getElem?_eq_getElem (by omega)⟩
      obtain ⟨u, eu, ru⟩ := rv.get ey
      rw [g'] at eu
      cases eu
      exact ⟨y, ey, ru⟩
    exact ⟨y, fun zs hz => by rw [r] at hz; cases hz; exact ey, ry⟩
  | s x k =>
    refine ⟨#[], trivial, hl, fun i v g => ?_⟩
    obtain ⟨c, u, e, rfl⟩ := g
    exact ⟨.str ⟨#[c]⟩, ⟨c, e, rfl⟩, ⟨u, rfl⟩⟩
/-- the source of a value -/
def SrOf (x : V) (v : Value) (d : D) (sr : Sr) : Prop := sr.val = v ∧ match d, sr with
  | .list _, .l a => x = .ref a
  | .tuple _, .t a => x = .ref a
  | .str y, .s z _ => x = .str y ∧ z = y
  | _, _ => False
theorem srOf_ex {K : PySem.W.Frag} {H : Hp} {Z : ZS} {x : V} {v : Value} {d : D} {ds : List D} (h : RpT K H Z x d) (e : seqD d = some ds) (r : RelV x v) : ∃ sr, SrOf x v d sr := by
  unfold seqD at e
  split at e
  · cases h with
    | lst a b c => cases r; exact ⟨.l _, rfl, rfl⟩
  · cases h with
    | tup a b c => cases r; exact ⟨.t _, rfl, rfl⟩
  · cases h with
    | str y o => obtain ⟨t, rfl⟩ := r; exact ⟨.s _ t, rfl, rfl, rfl⟩
  · cases e
theorem SrOf.len {K : PySem.W.Frag} {H : Hp} {Z : ZS} {x : V} {v : Value} {d : D} {ds : List D} {sr : Sr} (s : SrOf x v d sr) (h : RpT K H Z x d) (e : seqD d = some ds) : sr.len H ds.length := by
  unfold seqD at e
  split at e
  · cases e
    cases sr with
    | l a =>
      obtain ⟨_, rfl⟩ := s
      cases h with
      | lst a b c => exact ⟨_, a, c.length⟩
    | t a => exact s.2.elim
    | s y k => exact s.2.elim
  · cases e
    cases sr with
    | t a =>
      obtain ⟨_, rfl⟩ := s
      cases h with
      | tup a b c => exact ⟨_, a.2, c.length⟩
    | l a => exact s.2.elim
    | s y k => exact s.2.elim
  · cases e
    cases sr with
    | s y k =>
      obtain ⟨_, _, rfl⟩ := s
      simp [Sr.len, signs]
    | t a => exact s.2.elim
    | l a => exact s.2.elim
  · cases e
theorem SrOf.item {K : PySem.W.Frag} {H : Hp} {Z : ZS} {x : V} {v : Value} {d : D} {ds : List D} {sr : Sr} {i : Nat} {y : V} (s : SrOf x v d sr) (h : RpT K H Z x d) (e : seqD d = some ds) (a : sr.at_ H i y) : ∃ d', ds[i]? = some d' ∧ Rp K H Z y d' := by
  unfold seqD at e
  split at e
  · cases e
    cases sr with
    | l b =>
      obtain ⟨_, rfl⟩ := s
      cases h with
      | lst h1 h2 h3 => exact h3.get' (a _ h1)
    | t a => exact s.2.elim
    | s y k => exact s.2.elim
  · cases e
    cases sr with
    | t b =>
      obtain ⟨_, rfl⟩ := s
      cases h with
      | tup h1 h2 h3 => exact h3.get' (a _ h1.2)
    | l a => exact s.2.elim
    | s y k => exact s.2.elim
  · cases e
    cases sr with
    | s z k =>
      obtain ⟨_, rfl, rfl⟩ := s
      obtain ⟨c, ec, rfl⟩ := a
      cases h with
      | str _ o =>
        refine ⟨.str ⟨#[c]⟩, by simp [signs, ec], .str _ (strOk_sign o ?_)⟩
        exact List.mem_of_getElem? (by rw [Array.getElem?_toList]; exact ec)
    | t a => exact s.2.elim
    | l a => exact s.2.elim
  · cases e
/-! ### an iterator that hands out new tuples -/
theorem turn_gen {P : Program} {w : World} {K : PySem.W.Frag} {elts : List Expr} {kk : Nat} {tpos : Pos} {ι : Type} {J : It} {fp wr : List Addr} {z : Addr} {C : Nat → Heap → Prop} {Has : ι → Heap → Prop} {Ap : ι → Prop} {fpS : ι → List Addr} {n : ι → Nat} {Pt : ι → Nat → Array Value → Prop} {Mid : ι → Nat → Addr → Heap → Prop}
    (hmem : z ∈ fp) (hobj : ∀ i h, C i h → ∀ b ∈ fp, ∃ o, h.get? b = some o ∧ ∀ v, o.data ≠ .cell v) (hkeep : ∀ i h h', C i h → (∀ b ∈ fp, ∀ o, h.get? b = some o → h'.get? b = some o) → C i h') (hwr : ∀ b ∈ wr, b ∈ fp)
    (W : ∀ A : Around, A.handled = none → ∀ x : ι, Ap x → WalksT P w A z (fpS x) wr (n x) (Pt x) (fun i h => C i h ∧ Has x h) (Mid x))
    (hgo : ∀ (X : Cx) (pins : List (Addr × Obj)) (s : Shared) (σ : L2.St) (H : Hp) (i : Nat), X.prog = P → X.w = w → X.K = K → Inv X pins σ H s → (∀ b ∈ fp, H b = none) → J.go i H → ∃ x, Ap x ∧ Has x s.heap ∧ i < n x ∧
      ∀ vals, Pt x i vals → ∃ ys, Vals ys vals.toList ∧ ys.length ≤ sizeLine ∧ ∀ T, H T = none → J.yld i H (.ref T) (upd H T (.tup ys)))
    (hstop : ∀ (X : Cx) (pins : List (Addr × Obj)) (s : Shared) (σ : L2.St) (H : Hp) (i : Nat), X.prog = P → X.w = w → X.K = K → Inv X pins σ H s → (∀ b ∈ fp, H b = none) → J.stop i H → ∃ x, Ap x ∧ Has x s.heap ∧ i = n x)
    (hself : ∀ (A : Around) (i : Nat) (s : Shared) (Q : Value → Shared → Prop) (E : Value → Shared → Prop), C i s.heap → Q (.ref z) s → wpAny (model P w) A (pyIter (.ref z)) Q E s) : Turn P w K (.Tuple elts kk tpos) J fp z C where
  mem := hmem
  obj := hobj
  keep := hkeep
  item := by
    intro X hP hw hK hc i pins s σ H E I hf st hg
    subst hP hw hK
    obtain ⟨x, ap, hx, hi, hy⟩ := hgo X pins s σ H i rfl rfl rfl I (fun b hb => (hf b hb).1) hg
    have Wx := W X.A (I.ok.hd hc) x ap
    refine Wx.item i s _ _ hi ⟨st, hx⟩ fun T vals h' tk hp hT htu mid kp => ?_
    refine ⟨_, rfl, Wx.go elts kk tpos i T { s with heap := h', toks := tk } _ _ mid fun h'' st' kp' => ?_⟩
    obtain ⟨ys, hv, hl, yld⟩ := hy vals hp
    have hn : H T = none := I.hok.fresh hT
    obtain ⟨o, eo, co, nn, dd⟩ := htu
    have eo' : h''.get? T = some o := kp' T o (Wx.apart _ _ _ mid) eo
    have new : ObjOk X.prog X.w (upd H T (.tup ys)) h'' T (.tup ys) := ⟨hl, vals.toList, hv, ⟨o, eo', co, nn, by simpa using dd⟩⟩
    have I1 : Inv X pins σ (upd H T (.tup ys)) { s with heap := h'', toks := tk } :=
      I.turnedNew (ch := wr) (fun b ob hb e => kp' b ob hb (kp b ob hb e)) (fun b hb => hf b (hwr b hb)) hT new
    refine ⟨.ref T, _, I1, rfl, yld T hn, st'.1, fun b hb => ?_⟩
    have hb' : b ≠ T := fun q => by
      obtain ⟨ob, e, _⟩ := hobj _ _ st b hb
      have := Heap.lt_size e
      rw [q] at this
      exact absurd hT (Nat.not_le_of_lt this)
    rw [upd_ne hb']
    exact (hf b hb).1
  done := by
    intro X hP hw hK hc i pins s σ H E I hf st hg
    subst hP hw hK
    obtain ⟨x, ap, hx, rfl⟩ := hstop X pins s σ H i rfl rfl rfl I (fun b hb => (hf b hb).1) hg
    exact (W X.A (I.ok.hd hc) x ap).done s _ _ ⟨st, hx⟩ fun h' tk kp => ⟨rfl, I.turnedL (ch := wr) kp fun b hb => hf b (hwr b hb)⟩
  self := hself
end Kd

namespace Kd
open PySem PySem.Spec PyProof.Rows L2 RZ
def isDicD : D → Bool
  | .dict _ => true
  | _ => false
section
variable {X : Cx} {tg : Expr}
/-- for .. in e: a list, a tuple, a text; a dict that is read alone (it is locked from then on) -/
def iSeq (K : PySem.W.Frag) (tl : TE) : TI := fun σ H R => tl σ H fun x H1 => ∃ Z d ds, RpT K H1 Z x d ∧ itemsD d = some ds ∧
  ((isDicD d = false ∧ ∀ J, WD K J ds (fun H Z => RpT K H Z x d) → R J H1) ∨
   (isDicD d = true ∧ Rp K H1 Z x d ∧ ∀ J H2 a o u, WD K J ds (fun H _ => H a = some (.frz o u)) → H2 a = some (.frz o u) → ds.length ≤ sizeLine → (H2 = H1 ∨ (isDct u = true ∧ ¬ Z a ∧ H1 a = some u ∧ H2 = upd H1 a (.frz o u))) → R J H2))
theorem pi_seq {l : Expr} {tl : TE} (hl : PE X l tl) : PI X tg l (iSeq X.K tl) := by
  refine ⟨fun pins s σ H R I h => ?_⟩
  refine thn (hl.run pins s σ H _ I h) fun v s1 hh => ?_
  obtain ⟨x, H1, I1, r1, Z, d, ds, hx, hd, q⟩ := hh
  rcases q with ⟨nd, q⟩ | ⟨yd, hr, q⟩
  · unfold itemsD at hd
    split at hd
    · cases hd
      cases hx with
      | lst a b c =>
        cases r1
        obtain ⟨its, rv, p, hz⟩ := I1.list (.inl a)
        exact wpAny_pyIter_list p.isList (pi_one (tk := s1.toks) I1 _ (turn_list _ _) ⟨_, Heap.get?_push_size _ rfl, rfl, rfl⟩ (q _ wd_list))
    · cases hd
      cases hx with
      | tup a b c =>
        cases r1
        obtain ⟨its, rv, p, hz⟩ := I1.tuple a.sq
        exact wpAny_pyIter_tuple (show s1.heap.IsTuple _ its.toArray from p) (pi_one (tk := s1.toks) I1 _ (turn_tuple _ _) ⟨_, Heap.get?_push_size _ rfl, rfl, rfl⟩ (q _ wd_tup))
    · cases hd
      cases hx with
      | str xx o =>
        rename_i y
        obtain ⟨t, rfl⟩ := r1
        cases ha : y.cps.all (· < 128)
        · exact wpAny_pyIter_wide ha (pi_one (tk := s1.toks) I1 _ (turn_str _ y t "str_iterator" (.inr rfl)) ⟨_, Heap.get?_push_size _ rfl, rfl, rfl⟩ (q _ wd_str))
        · exact wpAny_pyIter_ascii ha (pi_one (tk := s1.toks) I1 _ (turn_str _ y t "str_ascii_iterator" (.inl rfl)) ⟨_, Heap.get?_push_size _ rfl, rfl, rfl⟩ (q _ wd_str))
    · cases nd
    · cases hd
  · cases d with
    | dict kvs =>
      simp only [itemsD] at hd
      split at hd
      · rename_i hn
        cases hd
        generalize ed : PyData.dict kvs = dd at hr
        cases hr with
        | @dic a kvs' ds h0 h1 h2 h3 =>
          injection ed with ed
          have hlen := h3.length
          rw [List.length_map] at hlen
          have ek : kvs.map (·.1) = kvs'.map fun p => kD p.1 := by rw [ed, zip_fst (by rw [List.length_map, hlen])]
          rw [ek] at q
          cases r1
          have fin : ∀ (H2 : Hp) (o : Obj), Inv X pins σ H2 s1 → H2 a = some (.frz o (.dK kvs')) → (H2 = H1 ∨ (isDct (.dK kvs') = true ∧ ¬ Z a ∧ H1 a = some (.dK kvs') ∧ H2 = upd H1 a (.frz o (.dK kvs')))) → wpAny (model X.prog X.w) X.A (pyIter (.ref a)) (PIE X pins σ tg R) X.xe s1 := by
            intro H2 o I2 hd2 hh2
            obtain ⟨hs, hgd, hx, es, ep, vs, hdt, hsz, kv, hm⟩ := I2.frzK hd2
            refine iter_keys hs hgd hx hdt (pi_one (tk := s1.toks) I2 _ (turn_keys _ hdt) ⟨_, Heap.get?_push_size _ rfl, rfl, ?_⟩ (q _ H2 a o _ (wd_keysK h2.2) hd2 (by rw [List.length_map]; exact h2.1) hh2))
            rw [hsz] <;> rfl
          rcases h1 with h1 | ⟨o, h1⟩
          · obtain ⟨od, I2⟩ := I1.lock h1 trivial
            exact fin _ od I2 upd_same (.inr ⟨rfl, h0, h1, rfl⟩)
          · exact fin _ o I1 h1 (.inl rfl)
        | @dit a kvs' ds h0 h1 h2 h3 =>
          injection ed with ed
          have hlen := h3.length
          rw [List.length_map] at hlen
          have ek : kvs.map (·.1) = kvs'.map fun p => kT p.1 := by rw [ed, zip_fst (by rw [List.length_map, hlen])]
          rw [ek] at q
          cases r1
          have fin : ∀ (H2 : Hp) (o : Obj), Inv X pins σ H2 s1 → H2 a = some (.frz o (.dT kvs')) → (H2 = H1 ∨ (isDct (.dT kvs') = true ∧ ¬ Z a ∧ H1 a = some (.dT kvs') ∧ H2 = upd H1 a (.frz o (.dT kvs')))) → wpAny (model X.prog X.w) X.A (pyIter (.ref a)) (PIE X pins σ tg R) X.xe s1 := by
            intro H2 o I2 hd2 hh2
            obtain ⟨hs, hgd, hx, es, ep, hdt, hsz, ent⟩ := I2.frzT hd2
            have hkl : ∀ p ∈ kvs', p.1.length ≤ sizeLine := fun p hp => by
              obtain ⟨i, hi⟩ := List.getElem?_of_mem hp
              obtain ⟨en, qq, _, _, hq⟩ := ent i p.1 p.2 hi
              have := (I2.hok qq _ hq).1
              rw [List.length_map] at this
              exact this
            refine iter_keys hs hgd hx hdt (pi_one (tk := s1.toks) I2 _ (turn_keysT _ hdt) ⟨_, Heap.get?_push_size _ rfl, rfl, ?_⟩ (q _ H2 a o _ (wd_keysT hkl h2.2) hd2 (by rw [List.length_map]; exact h2.1) hh2))
            rw [hsz] <;> rfl
          rcases h1 with h1 | ⟨o, h1⟩
          · obtain ⟨od, I2⟩ := I1.lock h1 trivial
            exact fin _ od I2 upd_same (.inr ⟨rfl, h0, h1, rfl⟩)
          · exact fin _ o I1 h1 (.inl rfl)
        | scr a b c =>
          injection ed with ed
          subst ed
          simp [notNone] at hn
        | _ => cases ed
      · cases hd
    | _ => cases yd
/-! reversed(e) -/
def revD : D → Option (List D)
  | .list ds => some ds.reverse
  | .tuple ds => some ds.reverse
  | _ => none
/-- what reversed(x) hands on -/
theorem rev_read {K : PySem.W.Frag} {H1 : Hp} {R : It → Hp → Prop} {Z : ZS} {x : V} {d : D} {ds : List D} (hx : RpT K H1 Z x d) (e : revD d = some ds) (q : ∀ J, WD K J ds (fun H Z => RpT K H Z x d) → R J H1) :
    ∃ (a : Addr) (xs : List V), x = .ref a ∧ ((SqL K H1 a xs ∧ R (Itv K a xs.length) H1) ∨ (SqT K H1 a xs ∧ R (RT.ItvT K a xs.length) H1)) := by
  unfold revD at e
  split at e
  · cases e
    cases hx with
    | lst h1 h2 h3 => exact ⟨_, _, rfl, .inl ⟨.inl h1, by rw [h3.length]; exact q _ wd_revL⟩⟩
  · cases e
    cases hx with
    | tup h1 h2 h3 => exact ⟨_, _, rfl, .inr ⟨h1.sq, by rw [h3.length]; exact q _ wd_revT⟩⟩
  · cases e
end
/-! ### zip of two and of three -/
def It2 (s1 s2 : Sr) : It :=
  ⟨fun i H => ∃ n1 n2, s1.len H n1 ∧ s2.len H n2 ∧ i < min n1 n2, fun i H v H' => ∃ T y1 y2, v = .ref T ∧ H T = none ∧ H' = upd H T (.tup [y1, y2]) ∧ s1.at_ H i y1 ∧ s2.at_ H i y2, fun i H => ∃ n1 n2, s1.len H n1 ∧ s2.len H n2 ∧ i = min n1 n2⟩
def It3 (s1 s2 s3 : Sr) : It :=
  ⟨fun i H => ∃ n1 n2 n3, s1.len H n1 ∧ s2.len H n2 ∧ s3.len H n3 ∧ i < min (min n1 n2) n3, fun i H v H' => ∃ T y1 y2 y3, v = .ref T ∧ H T = none ∧ H' = upd H T (.tup [y1, y2, y3]) ∧ s1.at_ H i y1 ∧ s2.at_ H i y2 ∧ s3.at_ H i y3,
    fun i H => ∃ n1 n2 n3, s1.len H n1 ∧ s2.len H n2 ∧ s3.len H n3 ∧ i = min (min n1 n2) n3⟩
def ItE (k : Int) (s1 : Sr) : It :=
  ⟨fun i H => ∃ n1, s1.len H n1 ∧ i < n1, fun i H v H' => ∃ T y1, v = .ref T ∧ H T = none ∧ H' = upd H T (.tup [.int (k + (i : Nat)), y1]) ∧ s1.at_ H i y1, fun i H => ∃ n1, s1.len H n1 ∧ i = n1⟩
section
variable {P : Program} {w : World} {K : PySem.W.Frag} {elts : List Expr} {kk : Nat} {tpos : Pos}
def C2 (s1 s2 : Sr) (z TI TO i1 i2 : Addr) (i : Nat) (h : Heap) : Prop := IsZip h z TI TO .none ∧ IsTupOf2 h TI (.ref i1) (.ref i2) ∧ (∃ a1 a2, IsTupOf2 h TO a1 a2) ∧ s1.pl i1 i h ∧ s2.pl i2 i h
def C3 (s1 s2 s3 : Sr) (z TI TO i1 i2 i3 : Addr) (i : Nat) (h : Heap) : Prop := IsZip h z TI TO .none ∧ IsTupOf3 h TI (.ref i1) (.ref i2) (.ref i3) ∧ (∃ a1 a2 a3, IsTupOf3 h TO a1 a2 a3) ∧ s1.pl i1 i h ∧ s2.pl i2 i h ∧ s3.pl i3 i h
def CE1 (k : Int) (s1 : Sr) (z i1 : Addr) (i : Nat) (h : Heap) : Prop := (∃ old, IsEnum h z i1 (k + (i : Int)) old) ∧ s1.pl i1 i h
def Apt (sr : Sr) (l : List Addr) : Prop := ∀ b ∈ l, sr.off b
theorem Apt.fp {sr : Sr} {l : List Addr} {b it : Addr} (h : Apt sr l) (hb : b ∈ l) (ne : b ≠ it) : b ∉ sr.fp it := by
  have o := h b hb
  cases sr with
  | l a => simp only [Sr.fp, List.mem_cons, List.not_mem_nil, or_false, not_or]; exact ⟨ne, fun e => o e.symm⟩
  | t a => simp only [Sr.fp, List.mem_cons, List.not_mem_nil, or_false, not_or]; exact ⟨ne, fun e => o e.symm⟩
  | s x k => simp only [Sr.fp, List.mem_cons, List.not_mem_nil, or_false]; exact ne
theorem Sr.memfp (sr : Sr) (it : Addr) : it ∈ sr.fp it := by cases sr <;> simp [Sr.fp]
theorem turn_z2 (s1 s2 : Sr) {z TI TO i1 i2 : Addr} (nd : [z, TI, TO, i1, i2].Nodup) : Turn P w K (.Tuple elts kk tpos) (It2 s1 s2) [z, TI, TO, i1, i2] z (C2 s1 s2 z TI TO i1 i2) := by
  simp only [List.nodup_cons, List.mem_cons, List.not_mem_nil, or_false, not_or, List.nodup_nil, and_true, not_false_eq_true] at nd
  obtain ⟨⟨a1, a2, a3, a4⟩, ⟨b1, b2, b3⟩, ⟨c1, c2⟩, d1⟩ := nd
  refine turn_gen (ι := Array Value × Array Value) (wr := [z, TO, i1, i2]) (Has := fun x h => s1.has x.1 h ∧ s2.has x.2 h) (Ap := fun _ => Apt s1 [z, TI, TO, i1, i2] ∧ Apt s2 [z, TI, TO, i1, i2])
    (n := fun x => min (s1.n x.1) (s2.n x.2)) (Pt := fun x i vals => ∃ x1 x2, s1.gives x.1 i x1 ∧ s2.gives x.2 i x2 ∧ vals = #[x1, x2])
    (fpS := fun x => z :: TI :: TO :: (s1.fp i1 ++ s2.fp i2)) (Mid := fun x i T h => IsZip h z TI TO (rawInt T) ∧ IsTupOf2 h TI (.ref i1) (.ref i2) ∧ (∃ a1 a2, IsTupOf2 h TO a1 a2) ∧ (s1.pl i1 (i + 1) h ∧ s1.has x.1 h) ∧ (s2.pl i2 (i + 1) h ∧ s2.has x.2 h) ∧ T ≠ z ∧ T ≠ TO ∧ T ≠ i1 ∧ T ≠ i2)
    (by simp) ?_ ?_ (by simp) ?_ ?_ ?_ ?_
  · rintro i h ⟨hz, hT, ⟨x, y, hO⟩, p1, p2⟩ b hb
    simp only [List.mem_cons, List.not_mem_nil, or_false] at hb
    rcases hb with e | e | e | e | e <;> subst e
    · exact ⟨_, hz, fun v q => nomatch q⟩
    · exact ⟨_, hT, fun v q => nomatch q⟩
    · exact ⟨_, hO, fun v q => nomatch q⟩
    · exact s1.cell p1
    · exact s2.cell p2
  · rintro i h h' ⟨hz, hT, ⟨x, y, hO⟩, p1, p2⟩ k
    exact ⟨k z (by simp) _ hz, k TI (by simp) _ hT, ⟨x, y, k TO (by simp) _ hO⟩, s1.keep (k i1 (by simp)) p1, s2.keep (k i2 (by simp)) p2⟩
  · rintro A hA ⟨x1, x2⟩ ⟨ap1, ap2⟩
    have W := WalksT.zipD2 (prog := P) (w := w) (A := A) (z := z) (TI := TI) (TO := TO) (i1 := i1) (i2 := i2) (fp1 := s1.fp i1) (fp2 := s2.fp i2)
      ⟨Ne.symm a1, Ne.symm a2, b1, b2, s1.memfp i1, ap1.fp (by simp) a3, ap1.fp (by simp) c1, b3, s2.memfp i2, ap2.fp (by simp) a4, ap2.fp (by simp) c2, ap2.fp (by simp) d1, ap1.fp (by simp) (Ne.symm d1)⟩
      (s1.draws (A := A.in1) hA i1 (ap1 i1 (by simp)) x1) (s2.draws (A := A.in1) hA i2 (ap2 i2 (by simp)) x2)
    exact ⟨W.sub, fun i h h' st k => by
        obtain ⟨⟨q1, q2, q3, q4, q5⟩, q6, q7⟩ := st
        obtain ⟨r1, r2, r3, r4, r5⟩ := W.frame i h h' ⟨q1, q2, q3, ⟨q4, q6⟩, ⟨q5, q7⟩⟩ k
        exact ⟨⟨r1, r2, r3, r4.1, r5.1⟩, r4.2, r5.2⟩,
      fun i s Q E hi st hQ => by
        obtain ⟨⟨q1, q2, q3, q4, q5⟩, q6, q7⟩ := st
        exact W.item i s Q E hi ⟨q1, q2, q3, ⟨q4, q6⟩, ⟨q5, q7⟩⟩ hQ,
      fun elts k pos i T s Q E hm hQ => W.go elts k pos i T s Q E hm fun h' st kp => by
        obtain ⟨r1, r2, r3, r4, r5⟩ := st
        exact hQ h' ⟨⟨r1, r2, r3, r4.1, r5.1⟩, r4.2, r5.2⟩ kp,
      W.apart, fun s Q E st hQ => by
        obtain ⟨⟨q1, q2, q3, q4, q5⟩, q6, q7⟩ := st
        exact W.done s Q E ⟨q1, q2, q3, ⟨q4, q6⟩, ⟨q5, q7⟩⟩ hQ,
      fun i s Q E st hQ => wpAny_pyIter_zip st.1.1 hQ⟩
  · rintro X pins s σ H i rfl rfl rfl I hf ⟨n1, n2, l1, l2, hi⟩
    obtain ⟨x1, h1, e1, g1⟩ := s1.real I l1
    obtain ⟨x2, h2, e2, g2⟩ := s2.real I l2
    refine ⟨(x1, x2), ⟨fun b hb => s1.offOf l1 (hf b hb), fun b hb => s2.offOf l2 (hf b hb)⟩, ⟨h1, h2⟩, by simp only [e1, e2]; exact hi, ?_⟩
    rintro vals ⟨v1, v2, p1, p2, rfl⟩
    obtain ⟨y1, t1, r1⟩ := g1 i v1 p1
    obtain ⟨y2, t2, r2⟩ := g2 i v2 p2
    exact ⟨[y1, y2], .cons r1 (.cons r2 .nil), by show 2 ≤ sizeLine; decide, fun T hT => ⟨T, y1, y2, rfl, hT, rfl, t1, t2⟩⟩
  · rintro X pins s σ H i rfl rfl rfl I hf ⟨n1, n2, l1, l2, hi⟩
    obtain ⟨x1, h1, e1, g1⟩ := s1.real I l1
    obtain ⟨x2, h2, e2, g2⟩ := s2.real I l2
    exact ⟨(x1, x2), ⟨fun b hb => s1.offOf l1 (hf b hb), fun b hb => s2.offOf l2 (hf b hb)⟩, ⟨h1, h2⟩, by simp only [e1, e2]; exact hi⟩
  · intro A i s Q E st hQ
    exact wpAny_pyIter_zip st.1 hQ
theorem turn_z3 (s1 s2 s3 : Sr) {z TI TO i1 i2 i3 : Addr} (nd : [z, TI, TO, i1, i2, i3].Nodup) : Turn P w K (.Tuple elts kk tpos) (It3 s1 s2 s3) [z, TI, TO, i1, i2, i3] z (C3 s1 s2 s3 z TI TO i1 i2 i3) := by
  simp only [List.nodup_cons, List.mem_cons, List.not_mem_nil, or_false, not_or, List.nodup_nil, and_true, not_false_eq_true] at nd
  obtain ⟨⟨a1, a2, a3, a4, a5⟩, ⟨b1, b2, b3, b4⟩, ⟨c1, c2, c3⟩, ⟨d1, d2⟩, f1⟩ := nd
  refine turn_gen (ι := Array Value × Array Value × Array Value) (wr := [z, TO, i1, i2, i3]) (Has := fun x h => s1.has x.1 h ∧ s2.has x.2.1 h ∧ s3.has x.2.2 h) (Ap := fun _ => Apt s1 [z, TI, TO, i1, i2, i3] ∧ Apt s2 [z, TI, TO, i1, i2, i3] ∧ Apt s3 [z, TI, TO, i1, i2, i3])
    (n := fun x => min (min (s1.n x.1) (s2.n x.2.1)) (s3.n x.2.2)) (Pt := fun x i vals => ∃ x1 x2 x3, s1.gives x.1 i x1 ∧ s2.gives x.2.1 i x2 ∧ s3.gives x.2.2 i x3 ∧ vals = #[x1, x2, x3])
    (fpS := fun x => z :: TI :: TO :: (s1.fp i1 ++ s2.fp i2 ++ s3.fp i3)) (Mid := fun x i T h => IsZip h z TI TO (rawInt T) ∧ IsTupOf3 h TI (.ref i1) (.ref i2) (.ref i3) ∧ (∃ a1 a2 a3, IsTupOf3 h TO a1 a2 a3) ∧ (s1.pl i1 (i + 1) h ∧ s1.has x.1 h) ∧ (s2.pl i2 (i + 1) h ∧ s2.has x.2.1 h) ∧ (s3.pl i3 (i + 1) h ∧ s3.has x.2.2 h) ∧ T ≠ z ∧ T ≠ TO ∧ T ≠ i1 ∧ T ≠ i2 ∧ T ≠ i3)
    (by simp) ?_ ?_ (by simp) ?_ ?_ ?_ ?_
  · rintro i h ⟨hz, hT, ⟨x, y, v, hO⟩, p1, p2, p3⟩ b hb
    simp only [List.mem_cons, List.not_mem_nil, or_false] at hb
    rcases hb with e | e | e | e | e | e <;> subst e
    · exact ⟨_, hz, fun v q => nomatch q⟩
    · exact ⟨_, hT, fun v q => nomatch q⟩
    · exact ⟨_, hO, fun v q => nomatch q⟩
    · exact s1.cell p1
    · exact s2.cell p2
    · exact s3.cell p3
  · rintro i h h' ⟨hz, hT, ⟨x, y, v, hO⟩, p1, p2, p3⟩ k
    exact ⟨k z (by simp) _ hz, k TI (by simp) _ hT, ⟨x, y, v, k TO (by simp) _ hO⟩, s1.keep (k i1 (by simp)) p1, s2.keep (k i2 (by simp)) p2, s3.keep (k i3 (by simp)) p3⟩
  · rintro A hA ⟨x1, x2, x3⟩ ⟨ap1, ap2, ap3⟩
    have S : ZipSep3 z TI TO i1 i2 i3 (s1.fp i1) (s2.fp i2) (s3.fp i3) :=
      { TIz := Ne.symm a1, TOz := Ne.symm a2, TITO := b1, TIi1 := b2, TIi2 := b3, TIi3 := b4, mem1 := s1.memfp i1, mem2 := s2.memfp i2, mem3 := s3.memfp i3, zf1 := ap1.fp (by simp) a3, zf2 := ap2.fp (by simp) a4, zf3 := ap3.fp (by simp) a5,
        Tf1 := ap1.fp (by simp) c1, Tf2 := ap2.fp (by simp) c2, Tf3 := ap3.fp (by simp) c3, sep1_2 := ap2.fp (by simp) d1, sep1_3 := ap3.fp (by simp) d2, sep2_1 := ap1.fp (by simp) (Ne.symm d1), sep2_3 := ap3.fp (by simp) f1, sep3_1 := ap1.fp (by simp) (Ne.symm d2), sep3_2 := ap2.fp (by simp) (Ne.symm f1) }
    have W := WalksT.zipD3 (prog := P) (w := w) (A := A) S
      (s1.draws (A := A.in1) hA i1 (ap1 i1 (by simp)) x1) (s2.draws (A := A.in1) hA i2 (ap2 i2 (by simp)) x2) (s3.draws (A := A.in1) hA i3 (ap3 i3 (by simp)) x3)
    exact ⟨W.sub, fun i h h' st k => by
        obtain ⟨⟨q1, q2, q3, q4, q5, q6⟩, q7, q8, q9⟩ := st
        obtain ⟨r1, r2, r3, r4, r5, r6⟩ := W.frame i h h' ⟨q1, q2, q3, ⟨q4, q7⟩, ⟨q5, q8⟩, ⟨q6, q9⟩⟩ k
        exact ⟨⟨r1, r2, r3, r4.1, r5.1, r6.1⟩, r4.2, r5.2, r6.2⟩,
      fun i s Q E hi st hQ => by
        obtain ⟨⟨q1, q2, q3, q4, q5, q6⟩, q7, q8, q9⟩ := st
        exact W.item i s Q E hi ⟨q1, q2, q3, ⟨q4, q7⟩, ⟨q5, q8⟩, ⟨q6, q9⟩⟩ hQ,
      fun elts k pos i T s Q E hm hQ => W.go elts k pos i T s Q E hm fun h' st kp => by
        obtain ⟨r1, r2, r3, r4, r5, r6⟩ := st
        exact hQ h' ⟨⟨r1, r2, r3, r4.1, r5.1, r6.1⟩, r4.2, r5.2, r6.2⟩ kp,
      W.apart, fun s Q E st hQ => by
        obtain ⟨⟨q1, q2, q3, q4, q5, q6⟩, q7, q8, q9⟩ := st
        exact W.done s Q E ⟨q1, q2, q3, ⟨q4, q7⟩, ⟨q5, q8⟩, ⟨q6, q9⟩⟩ hQ,
      fun i s Q E st hQ => wpAny_pyIter_zip st.1.1 hQ⟩
  · rintro X pins s σ H i rfl rfl rfl I hf ⟨n1, n2, n3, l1, l2, l3, hi⟩
    obtain ⟨x1, h1, e1, g1⟩ := s1.real I l1
    obtain ⟨x2, h2, e2, g2⟩ := s2.real I l2
    obtain ⟨x3, h3, e3, g3⟩ := s3.real I l3
    refine ⟨(x1, x2, x3), ⟨fun b hb => s1.offOf l1 (hf b hb), fun b hb => s2.offOf l2 (hf b hb), fun b hb => s3.offOf l3 (hf b hb)⟩, ⟨h1, h2, h3⟩, by simp only [e1, e2, e3]; exact hi, ?_⟩
    rintro vals ⟨v1, v2, v3, p1, p2, p3, rfl⟩
    obtain ⟨y1, t1, r1⟩ := g1 i v1 p1
    obtain ⟨y2, t2, r2⟩ := g2 i v2 p2
    obtain ⟨y3, t3, r3⟩ := g3 i v3 p3
    exact ⟨[y1, y2, y3], .cons r1 (.cons r2 (.cons r3 .nil)), by show 3 ≤ sizeLine; decide, fun T hT => ⟨T, y1, y2, y3, rfl, hT, rfl, t1, t2, t3⟩⟩
  · rintro X pins s σ H i rfl rfl rfl I hf ⟨n1, n2, n3, l1, l2, l3, hi⟩
    obtain ⟨x1, h1, e1, g1⟩ := s1.real I l1
    obtain ⟨x2, h2, e2, g2⟩ := s2.real I l2
    obtain ⟨x3, h3, e3, g3⟩ := s3.real I l3
    exact ⟨(x1, x2, x3), ⟨fun b hb => s1.offOf l1 (hf b hb), fun b hb => s2.offOf l2 (hf b hb), fun b hb => s3.offOf l3 (hf b hb)⟩, ⟨h1, h2, h3⟩, by simp only [e1, e2, e3]; exact hi⟩
  · intro A i s Q E st hQ
    exact wpAny_pyIter_zip st.1 hQ
theorem turn_en (k : Int) (s1 : Sr) {z i1 : Addr} (ne : z ≠ i1) : Turn P w K (.Tuple elts kk tpos) (ItE k s1) [z, i1] z (CE1 k s1 z i1) := by
  refine turn_gen (ι := Array Value) (wr := [z, i1]) (Has := fun x h => s1.has x h) (Ap := fun _ => Apt s1 [z, i1]) (n := fun x => s1.n x) (Pt := fun x i vals => ∃ t v, s1.gives x i v ∧ vals = #[.int (k + (i : Int)) t, v])
    (fpS := fun x => z :: s1.fp i1) (Mid := fun x i T h => (∃ v, IsEnumOut h z i1 (k + (i : Int) + 1) v T) ∧ (s1.pl i1 (i + 1) h ∧ s1.has x h) ∧ T ≠ z ∧ T ≠ i1) (by simp) ?_ ?_ (by simp) ?_ ?_ ?_ ?_
  · rintro i h ⟨⟨old, he⟩, p1⟩ b hb
    simp only [List.mem_cons, List.not_mem_nil, or_false] at hb
    rcases hb with e | e <;> subst e
    · exact ⟨_, he, fun v q => nomatch q⟩
    · exact s1.cell p1
  · rintro i h h' ⟨⟨old, he⟩, p1⟩ kp
    exact ⟨⟨old, kp z (by simp) _ he⟩, s1.keep (kp i1 (by simp)) p1⟩
  · rintro A hA x ap
    have W := WalksT.enumFrom (prog := P) (w := w) (A := A) k (s1.draws (A := A.in1) hA i1 (ap i1 (by simp)) x) z ne (ap.fp (by simp) ne) (s1.memfp i1)
    exact ⟨W.sub, fun i h h' st kp => by
        obtain ⟨⟨q1, q2⟩, q3⟩ := st
        obtain ⟨r1, r2⟩ := W.frame i h h' ⟨q1, q2, q3⟩ kp
        exact ⟨⟨r1, r2.1⟩, r2.2⟩,
      fun i s Q E hi st hQ => W.item i s Q E hi ⟨st.1.1, st.1.2, st.2⟩ hQ,
      fun elts kk pos i T s Q E hm hQ => W.go elts kk pos i T s Q E hm fun h' st kp => hQ h' ⟨⟨st.1, st.2.1⟩, st.2.2⟩ kp,
      W.apart, fun s Q E st hQ => W.done s Q E ⟨st.1.1, st.1.2, st.2⟩ hQ, fun i s Q E st hQ => let ⟨⟨_, he⟩, _⟩ := st.1; wpAny_pyIter_enum he hQ⟩
  · rintro X pins s σ H i rfl rfl rfl I hf ⟨n1, l1, hi⟩
    obtain ⟨x1, h1, e1, g1⟩ := s1.real I l1
    refine ⟨x1, fun b hb => s1.offOf l1 (hf b hb), h1, by rw [e1]; exact hi, ?_⟩
    rintro vals ⟨t, v1, p1, rfl⟩
    obtain ⟨y1, t1, r1⟩ := g1 i v1 p1
    exact ⟨[.int (k + (i : Nat)), y1], .cons ⟨t, rfl⟩ (.cons r1 .nil), by show 2 ≤ sizeLine; decide, fun T hT => ⟨T, y1, rfl, hT, rfl, t1⟩⟩
  · rintro X pins s σ H i rfl rfl rfl I hf ⟨n1, l1, hi⟩
    obtain ⟨x1, h1, e1, g1⟩ := s1.real I l1
    exact ⟨x1, fun b hb => s1.offOf l1 (hf b hb), h1, by rw [e1]; exact hi⟩
  · intro A i s Q E st hQ
    obtain ⟨⟨_, he⟩, _⟩ := st
    exact wpAny_pyIter_enum he hQ
end
/-! ### their walks over data -/
section
variable {K : PySem.W.Frag}
theorem wd_z2 {x1 x2 : V} {v1 v2 : Value} {d1 d2 : D} {as bs : List D} {s1 s2 : Sr} (o1 : SrOf x1 v1 d1 s1) (o2 : SrOf x2 v2 d2 s2) (e1 : seqD d1 = some as) (e2 : seqD d2 = some bs) :
    WD K (It2 s1 s2) (zip2 as bs) (fun H Z => RpT K H Z x1 d1 ∧ RpT K H Z x2 d2) where
  go := fun i H Z hi g => ⟨_, _, o1.len g.1 e1, o2.len g.2 e2, by rw [← zip2_len]; exact hi⟩
  stop := fun H Z g => ⟨_, _, o1.len g.1 e1, o2.len g.2 e2, by rw [← zip2_len]⟩
  yld := fun i H Z x H' hi g dz y => by
    obtain ⟨T, y1, y2, rfl, hT, rfl, t1, t2⟩ := y
    obtain ⟨a, ea, ra⟩ := o1.item g.1 e1 t1
    obtain ⟨b, eb, rb⟩ := o2.item g.2 e2 t2
    exact ⟨Gr.upd hT, _, zip2_get ea eb, pair_new dz hT ra rb⟩
theorem wd_z3 {x1 x2 x3 : V} {v1 v2 v3 : Value} {d1 d2 d3 : D} {as bs cs : List D} {s1 s2 s3 : Sr} (o1 : SrOf x1 v1 d1 s1) (o2 : SrOf x2 v2 d2 s2) (o3 : SrOf x3 v3 d3 s3) (e1 : seqD d1 = some as) (e2 : seqD d2 = some bs) (e3 : seqD d3 = some cs) :
    WD K (It3 s1 s2 s3) (zip3 as bs cs) (fun H Z => RpT K H Z x1 d1 ∧ RpT K H Z x2 d2 ∧ RpT K H Z x3 d3) where
  go := fun i H Z hi g => ⟨_, _, _, o1.len g.1 e1, o2.len g.2.1 e2, o3.len g.2.2 e3, by rw [← zip3_len]; exact hi⟩
  stop := fun H Z g => ⟨_, _, _, o1.len g.1 e1, o2.len g.2.1 e2, o3.len g.2.2 e3, by rw [← zip3_len]⟩
  yld := fun i H Z x H' hi g dz y => by
    obtain ⟨T, y1, y2, y3, rfl, hT, rfl, t1, t2, t3⟩ := y
    obtain ⟨a, ea, ra⟩ := o1.item g.1 e1 t1
    obtain ⟨b, eb, rb⟩ := o2.item g.2.1 e2 t2
    obtain ⟨c, ec, rc⟩ := o3.item g.2.2 e3 t3
    exact ⟨Gr.upd hT, _, zip3_get ea eb ec, newT dz hT (by show 3 ≤ sizeLine; decide) (.cons ra (.cons rb (.cons rc .nil)))⟩
theorem wd_en {x1 : V} {v1 : Value} {d1 : D} {as : List D} {s1 : Sr} (k : Int) (o1 : SrOf x1 v1 d1 s1) (e1 : seqD d1 = some as) : WD K (ItE k s1) (enumL k as) (fun H Z => RpT K H Z x1 d1) where
  go := fun i H Z hi g => ⟨_, o1.len g e1, by rw [enumL_len] at hi; exact hi⟩
  stop := fun H Z g => ⟨_, o1.len g e1, by rw [enumL_len]⟩
  yld := fun i H Z x H' hi g dz y => by
    obtain ⟨T, y1, rfl, hT, rfl, t1⟩ := y
    obtain ⟨a, ea, ra⟩ := o1.item g e1 t1
    exact ⟨Gr.upd hT, _, enumL_get ea, pair_new dz hT (.int _) ra⟩
end
end Kd

namespace Kd
open PySem PySem.Spec PyProof.Rows L2 RZ
def seqAll : List D → Option (List (List D))
  | [] => some []
  | d :: ds => match seqD d, seqAll ds with
    | some l, some ls => some (l :: ls)
    | _, _ => none
def zipN : List (List D) → Option (List D)
  | [a, b] => some (zip2 a b)
  | [a, b, c] => some (zip3 a b c)
  | _ => none
def iZip (K : PySem.W.Frag) (ta : TA) : TI := fun σ H R => ta σ H fun vs H1 => ∃ Z ds ls items, RpTs K H1 Z vs ds ∧ seqAll ds = some ls ∧ zipN ls = some items ∧ ∀ J, WD K J items (fun H Z => RpTs K H Z vs ds) → R J H1
theorem WD.imp {K : PySem.W.Frag} {J : It} {ds : List D} {G G' : Hp → ZS → Prop} (w : WD K J ds G) (h : ∀ H Z, G' H Z → G H Z) : WD K J ds G' :=
  ⟨fun i H Z a b => w.go i H Z a (h H Z b), fun H Z b => w.stop H Z (h H Z b), fun i H Z x H' a b c d => w.yld i H Z x H' a (h H Z b) c d⟩
theorem seqAll_cons {d : D} {ds : List D} {ls : List (List D)} (h : seqAll (d :: ds) = some ls) : ∃ l r, ls = l :: r ∧ seqD d = some l ∧ seqAll ds = some r := by
  unfold seqAll at h
  split at h
  · rename_i a b
    cases h
    exact ⟨_, _, rfl, a, b⟩
  · cases h
theorem seqAll_nil {ls : List (List D)} (h : seqAll [] = some ls) : ls = [] := by cases h; rfl
section
variable {X : Cx} {elts : List Expr} {kk : Nat} {tpos p pos : Pos} {e : Expr} {es : List Expr}
theorem pi_zipN {ta : TA} (hg : Gl X "zip") (hm : X.mg "zip" = none) (ha : PA X (e :: es) ta) (hs : starEach (e :: es) X.env = (false, eval e X.env) :: starEach es X.env) (hpl : (backTo pos (starEach es X.env)).any (·.1) = false) :
    PI X (.Tuple elts kk tpos) (.Call (.Name "zip" p) (e :: es) [] pos) (iZip X.K ta) := by
  refine ⟨fun pins s σ H R I h => ?_⟩
  refine Call_ (ld_blt I hg hm PyProof.Rows.boot_zip (PyProof.Rows.callWith_type1 (thn (ha.run pos pins s σ H _ I h) fun us s1 hh => ?_) hs hpl))
  obtain ⟨vs, H1, I1, r1, Z, ds, ls, items, hr, hls, hz, q⟩ := hh
  have fresh : ∀ (n : Nat) (l : List Nat), (∀ c ∈ l, c < n) → ∀ c, c ∈ l.map (s1.heap.objs.size + ·) → FpOk X pins H1 c := fun n l _ c hc => by
    obtain ⟨j, _, rfl⟩ := List.mem_map.mp hc
    have hle : s1.heap.objs.size ≤ s1.heap.objs.size + j := Nat.le_add_right _ _
    exact I1.fpOk hle (I1.hok.fresh hle)
  unfold zipN at hz
  split at hz
  · cases hz
    cases hr with
    | nil => cases hls
    | cons hx hr =>
      obtain ⟨l1, ls, e1, s1e, hls⟩ := seqAll_cons hls
      cases e1
      cases hr with
      | nil => cases hls
      | cons hy hr =>
        obtain ⟨l2, ls, e1, s2e, hls⟩ := seqAll_cons hls
        cases e1
        cases hr with
        | cons _ _ => obtain ⟨_, _, e1, _⟩ := seqAll_cons hls; cases e1
        | nil =>
          cases r1 with
          | cons ra rr =>
            cases rr with
            | cons rb rr =>
              cases rr
              obtain ⟨sa, oa⟩ := srOf_ex hx s1e ra
              obtain ⟨sb, ob⟩ := srOf_ex hy s2e rb
              obtain ⟨ia, ha, _⟩ := sa.real I1 (oa.len hx s1e)
              obtain ⟨ib, hb, _⟩ := sb.real I1 (ob.len hy s2e)
              have ea : sa.val = _ := oa.1
              have eb : sb.val = _ := ob.1
              rw [← ea, ← eb]
              refine zip_begins2 (sa.begins ia) (sb.begins ib) ha hb fun h' hz hTI hTO h1 h2 hsz hk => wpAny_pyIter_zip hz ?_
              have I2 : Inv X pins σ H1 { s1 with heap := h' } := I1.kept (t' := s1.toks) hk
              refine ⟨_, [s1.heap.objs.size + 4, s1.heap.objs.size + 2, s1.heap.objs.size + 3, s1.heap.objs.size, s1.heap.objs.size + 1], _, _, H1, rfl, I2, turn_z2 sa sb (by simp), ⟨hz, hTI, ⟨_, _, hTO⟩, sa.start h1, sb.start h2⟩, fun c hc => fresh 5 [4, 2, 3, 0, 1] (by simp) c (by simpa using hc), q _ ((wd_z2 oa ob s1e s2e).imp fun H Z g => ?_)⟩
              cases g with
              | cons g1 g2 =>
                cases g2 with
                | cons g2 _ => exact ⟨g1, g2⟩
  · cases hz
    cases hr with
    | nil => cases hls
    | cons hx hr =>
      obtain ⟨l1, ls, e1, s1e, hls⟩ := seqAll_cons hls
      cases e1
      cases hr with
      | nil => cases hls
      | cons hy hr =>
        obtain ⟨l2, ls, e1, s2e, hls⟩ := seqAll_cons hls
        cases e1
        cases hr with
        | nil => cases hls
        | cons hw hr =>
          obtain ⟨l3, ls, e1, s3e, hls⟩ := seqAll_cons hls
          cases e1
          cases hr with
          | cons _ _ => obtain ⟨_, _, e1, _⟩ := seqAll_cons hls; cases e1
          | nil =>
            cases r1 with
            | cons ra rr =>
              cases rr with
              | cons rb rr =>
                cases rr with
                | cons rc rr =>
                  cases rr
                  obtain ⟨sa, oa⟩ := srOf_ex hx s1e ra
                  obtain ⟨sb, ob⟩ := srOf_ex hy s2e rb
                  obtain ⟨sc, oc⟩ := srOf_ex hw s3e rc
                  obtain ⟨ia, ha, _⟩ := sa.real I1 (oa.len hx s1e)
                  obtain ⟨ib, hb, _⟩ := sb.real I1 (ob.len hy s2e)
                  obtain ⟨ic, hc, _⟩ := sc.real I1 (oc.len hw s3e)
                  have ea : sa.val = _ := oa.1
                  have eb : sb.val = _ := ob.1
                  have ec : sc.val = _ := oc.1
                  rw [← ea, ← eb, ← ec]
                  refine zip_begins3 (sa.begins ia) (sb.begins ib) (sc.begins ic) ha hb hc fun h' hz hTI hTO h1 h2 h3 hsz hk => wpAny_pyIter_zip hz ?_
                  have I2 : Inv X pins σ H1 { s1 with heap := h' } := I1.kept (t' := s1.toks) hk
                  refine ⟨_, [s1.heap.objs.size + 5, s1.heap.objs.size + 3, s1.heap.objs.size + 4, s1.heap.objs.size, s1.heap.objs.size + 1, s1.heap.objs.size + 2], _, _, H1, rfl, I2, turn_z3 sa sb sc (by simp), ⟨hz, hTI, ⟨_, _, _, hTO⟩, sa.start h1, sb.start h2, sc.start h3⟩, fun c hc => fresh 6 [5, 3, 4, 0, 1, 2] (by simp) c (by simpa using hc), q _ ((wd_z3 oa ob oc s1e s2e s3e).imp fun H Z g => ?_)⟩
                  cases g with
                  | cons g1 g2 =>
                    cases g2 with
                    | cons g2 g3 =>
                      cases g3 with
                      | cons g3 _ => exact ⟨g1, g2, g3⟩
  · cases hz
end
/-! ### enumerate -/
set_option maxHeartbeats 8000000 in
theorem meets_en1 {v : Value} {o : Obj} {H : Heap → Prop} (B : Begins v o H) :
    Meets (Builtin.«enumerate.__new__» ⟨[.type "enumerate", v], []⟩) (fun _ R s => H s.heap ∧ R (.ok (.ret (.ref (s.heap.push o).objs.size))) { s with heap := (s.heap.push o).push { cls := .type "enumerate", data := .fields #[.none, .bool false, .ref s.heap.objs.size, rawInt 0, .none, .none] } }) :=
  .of_wp fun prog w A R s h => by
    obtain ⟨hp, g, d, tk, os⟩ := s; obtain ⟨h1, h⟩ := h
    have hsub := sub_enumerate
    have q1 : ∀ {A' : Around} {E : Value → Shared → Prop} {Q : Value → Shared → Prop}, Q (.ref hp.objs.size) ⟨hp.push o, g, d, tk, os⟩ → wpAny (model prog w) A' (pyIter v) Q E ⟨hp, g, d, tk, os⟩ := fun q => B.iter prog w _ _ ⟨hp, g, d, tk, os⟩ _ h1 q
    wp_walk using q1
    refine wpAny_stack_any fun st => wpAny_pure ?_
    split
    · rename_i c _ _ _ _ _
      cases (c == Value.type "enumerate")
      · wp_walk using q1
        exact ⟨_, rfl, h⟩
      · wp_walk using q1
        exact ⟨_, rfl, h⟩
    · wp_walk using q1
      exact ⟨_, rfl, h⟩
theorem en_begins {prog : Program} {w : World} {A : Around} {E : Value → Shared → Prop} {s : Shared} {v : Value} {o : Obj} {H : Heap → Prop} {Q : Value → Shared → Prop} (B : Begins v o H) (h1 : H s.heap)
    (h : ∀ h', IsEnum h' (s.heap.objs.size + 1) s.heap.objs.size 0 .none → h'.get? s.heap.objs.size = some o → (∀ b o, s.heap.get? b = some o → h'.get? b = some o) → Q (.ref (s.heap.objs.size + 1)) { s with heap := h' }) :
    wpAny (model prog w) A (call (.type "enumerate") [v]) Q E s := by
  refine callType_new F.called_enumerate (by decide) (F.typeCall_enumerate_1 _) (F.newCall_enumerate_1 _) (fun obj => F.args_object_init_2 obj _) F.entry_enumerate_new (meets_en1 B) ⟨h1, ?_⟩
  have hz : (s.heap.push o).objs.size = s.heap.objs.size + 1 := Heap.size_push ..
  show _ ∧ _
  rw [hz]
  have he := Heap.get?_push_size (s.heap.push o) (o := { cls := .type "enumerate", data := .fields #[.none, .bool false, .ref s.heap.objs.size, rawInt 0, .none, .none] }) rfl
  rw [hz] at he
  exact ⟨⟨_, he, rfl⟩, h _ he (Heap.get?_push_of_some _ (Heap.get?_push_size _ B.free)) fun b o x => Heap.get?_push_of_some _ (Heap.get?_push_of_some _ x)⟩
def iEn (K : PySem.W.Frag) (k : Int) (te : TE) : TI := fun σ H R => te σ H fun x H1 => ∃ Z d l, RpT K H1 Z x d ∧ seqD d = some l ∧ ∀ J, WD K J (enumL k l) (fun H Z => RpT K H Z x d) → R J H1
section
variable {X : Cx} {elts : List Expr} {kk : Nat} {tpos p pos : Pos} {e : Expr}
theorem en_fin {pins : List (Addr × Obj)} {s1 : Shared} {σ : L2.St} {H1 : Hp} {R : It → Hp → Prop} {Z : ZS} {x : V} {u : Value} {d : D} {l : List D} (k : Int) (I1 : Inv X pins σ H1 s1) (r1 : RelV x u) (hx : RpT X.K H1 Z x d) (hl : seqD d = some l) (q : ∀ J, WD X.K J (enumL k l) (fun H Z => RpT X.K H Z x d) → R J H1)
    (mk : ∀ (sr : Sr) (its : Array Value), sr.val = u → sr.has its s1.heap → ∀ Q : Value → Shared → Prop, (∀ h', IsEnum h' (s1.heap.objs.size + 1) s1.heap.objs.size k .none → h'.get? s1.heap.objs.size = some sr.obj → (∀ b o, s1.heap.get? b = some o → h'.get? b = some o) → Q (.ref (s1.heap.objs.size + 1)) { s1 with heap := h' }) → ∃ t : Sem Value, True) :
    ∃ (sr : Sr) (its : Array Value), sr.val = u ∧ sr.has its s1.heap ∧ ∀ h', IsEnum h' (s1.heap.objs.size + 1) s1.heap.objs.size k .none → h'.get? s1.heap.objs.size = some sr.obj → (∀ b o, s1.heap.get? b = some o → h'.get? b = some o) →
      wpAny (model X.prog X.w) X.A (pyIter (.ref (s1.heap.objs.size + 1))) (PIE X pins σ (.Tuple elts kk tpos) R) X.xe { s1 with heap := h' } := by
  obtain ⟨sa, oa⟩ := srOf_ex hx hl r1
  obtain ⟨ia, ha, _⟩ := sa.real I1 (oa.len hx hl)
  refine ⟨sa, ia, oa.1, ha, fun h' he h1 hk => wpAny_pyIter_enum he ?_⟩
  have I2 : Inv X pins σ H1 { s1 with heap := h' } := I1.kept (t' := s1.toks) hk
  refine ⟨_, [s1.heap.objs.size + 1, s1.heap.objs.size], _, _, H1, rfl, I2, turn_en k sa (Nat.succ_ne_self _), ⟨⟨.none, by simpa using he⟩, sa.start h1⟩, fun c hc => ?_, q _ (wd_en k oa hl)⟩
  have hle : s1.heap.objs.size ≤ c := by
    simp only [List.mem_cons, List.not_mem_nil, or_false] at hc
    rcases hc with z | z
    · rw [z]; exact Nat.le_add_right _ _
    · rw [z]; exact Nat.le_refl _
  exact I1.fpOk hle (I1.hok.fresh hle)
theorem pi_en {te : TE} (hg : Gl X "enumerate") (hm : X.mg "enumerate" = none) (he : PE X e te) (hs : starEach [e] X.env = (false, eval e X.env) :: starEach [] X.env) :
    PI X (.Tuple elts kk tpos) (.Call (.Name "enumerate" p) [e] [] pos) (iEn X.K 0 te) := by
  refine ⟨fun pins s σ H R I h => ?_⟩
  refine Call_ (ld_blt I hg hm boot_enumerate (PyProof.Rows.callWith_type1 (args_cons (thn (he.run pins s σ H _ I h) fun u s1 hh => args_nil ?_) hs) hs rfl))
  obtain ⟨x, H1, I1, r1, Z, d, l, hx, hl, q⟩ := hh
  obtain ⟨sr, its, ev, hh, fin⟩ := en_fin (elts := elts) (kk := kk) (tpos := tpos) 0 I1 r1 hx hl q fun _ _ _ _ _ _ => ⟨pure .none, trivial⟩
  rw [← ev]
  exact en_begins (sr.begins its) hh fun h' a b c => fin h' a b c
end
end Kd

namespace Kd
open PySem PySem.Spec PyProof.Rows L2
inductive Bi where
  | len | all | any | max | min | abs | sum | int | tuple | sorted | repr | list | dict
  deriving DecidableEq
def Bi.nm : Bi → Str
  | .len => "len" | .all => "all" | .any => "any" | .max => "max" | .min => "min" | .abs => "abs" | .sum => "sum" | .int => "int" | .tuple => "tuple" | .sorted => "sorted" | .repr => "repr" | .list => "list" | .dict => "dict"
def biD : Bi → List D → Option Rs
  | .len => one biLen
  | .all => one biAll
  | .any => one biAny
  | .max => biMax
  | .min => biMin
  | .abs => one biAbs
  | .sum => one biSum
  | .int => one biInt
  | .tuple => one biTup
  | .sorted => one biSorted
  | .repr => one biRepr
  | .list => one biList
  | .dict => one biDict
section
variable {X : Cx} {e : Expr} {es : List Expr} {p pos : Pos} {t : TA}
theorem pe_bi (f : Bi) (hc : X.calm = true) (hg : X.A.guards = some []) (hu : X.A.units + 70 < cLine) (hgl : Gl X f.nm) (hm : X.mg f.nm = none) (ha : PA X (e :: es) t)
    (he : starEach (e :: es) X.env = (false, eval e X.env) :: starEach es X.env) (hpl : (backTo pos (starEach es X.env)).any (·.1) = false) :
    PE X (.Call (.Name f.nm p) (e :: es) [] pos) (tCB (rBi X.K (biD f)) t) := by
  cases f with
  | len => exact pe_callB bi_len hgl hm (by kernel_rfl) ha (by decide) (by decide) he hpl
  | all => exact pe_callB (bi_all hc) hgl hm (by kernel_rfl) ha (by decide) (by decide) he hpl
  | any => exact pe_callB (bi_any hc) hgl hm (by kernel_rfl) ha (by decide) (by decide) he hpl
  | max => exact pe_callB (bi_max hc) hgl hm (by kernel_rfl) ha (by decide) (by decide) he hpl
  | min => exact pe_callB (bi_min hc) hgl hm (by kernel_rfl) ha (by decide) (by decide) he hpl
  | abs => exact pe_callB bi_abs hgl hm (by kernel_rfl) ha (by decide) (by decide) he hpl
  | sum => exact pe_callB (bi_sum hc) hgl hm (by kernel_rfl) ha (by decide) (by decide) he hpl
  | int => exact pe_callTy bi_int hgl hm (by kernel_rfl) ha (by decide) (by decide) he hpl
  | tuple => exact pe_callTy (bi_tup hc) hgl hm (by kernel_rfl) ha (by decide) (by decide) he hpl
  | sorted => exact pe_callB (bi_sorted hc hu) hgl hm (by kernel_rfl) ha (by decide) (by decide) he hpl
  | repr => exact pe_callB (bi_repr hg hu) hgl hm (by kernel_rfl) ha (by decide) (by decide) he hpl
  | list => exact pe_callTy (bi_list hc) hgl hm (by kernel_rfl) ha (by decide) (by decide) he hpl
  | dict => exact pe_callTy (bi_dict hc) hgl hm (by kernel_rfl) ha (by decide) (by decide) he hpl
/-- isinstance(e, T) -/
theorem pe_isi (ty : Ty) (hgl : Gl X "isinstance") (hm : X.mg "isinstance" = none) (hgt : Gl X (Str.ofString ty.id)) (hmt : X.mg (Str.ofString ty.id) = none) {te : TE} (ha : PE X e te) {q : Pos}
    (he : starEach [e, .Name (Str.ofString ty.id) q] X.env = (false, eval e X.env) :: starEach [.Name (Str.ofString ty.id) q] X.env) :
    PE X (.Call (.Name "isinstance" p) [e, .Name (Str.ofString ty.id) q] [] pos) (tCB (fun xs H Q => ∃ x Z d, xs = [x, .ty ty.id] ∧ RpT X.K H Z x d ∧ flatDict d = true ∧ Q (.bl (isiD ty d)) H) (tCons te (tCons (tC (.ty ty.id)) tNil))) := by
  have hn : PE X (.Name (Str.ofString ty.id) q) (tC (.ty ty.id)) := by
    cases ty with
    | str => exact pe_bltn hgt hmt (u := .type "str") (by kernel_rfl) rfl (by decide) (by decide)
    | int => exact pe_bltn hgt hmt (u := .type "int") (by kernel_rfl) rfl (by decide) (by decide)
    | bool => exact pe_bltn hgt hmt (u := .type "bool") (by kernel_rfl) rfl (by decide) (by decide)
    | tuple => exact pe_bltn hgt hmt (u := .type "tuple") (by kernel_rfl) rfl (by decide) (by decide)
    | list => exact pe_bltn hgt hmt (u := .type "list") (by kernel_rfl) rfl (by decide) (by decide)
    | dict => exact pe_bltn hgt hmt (u := .type "dict") (by kernel_rfl) rfl (by decide) (by decide)
  exact pe_callB (bi_isi ty) hgl hm (by kernel_rfl) (pa_cons ha (pa_cons hn pa_nil rfl) he) (by decide) (by decide) he rfl
end
end Kd

namespace Kd
open PySem PySem.Spec PyProof.Rows L2

inductive Tg where
  | nm (i : Nat)
  | nil
  | cons (t : Tg) (ts : Tg)
mutual
inductive CE where
  | var (i : Nat)
  | cst (d : D)
  | glo (x : Str)
  | bin (op : Operator) (a b : CE)
  | neg (a : CE)
  | cmp (op : CmpOp) (a b : CE)
  | chn (o p : CmpOp) (a b c : CE)
  | and (a b : CE)
  | or (a b : CE)
  | not (a : CE)
  | ite (c : CT) (a b : CE)
  | tup (as : CA)
  | lst (as : CA)
  | dnK
  | dnT
  | call (f : Str) (as : CA)
  | bi (f : Bi) (as : CA)
  | isi (a : CE) (t : Ty)
  | me (m : Me) (o : CE) (as : CA)
  | mu (m : Mu) (o : CE) (as : CA)
  | idx (o i : CE)
  | sli (o : CE) (lo hi : CO)
  | lc (own : List (Str × Nat)) (t : Tg) (it : CI) (cond : CT) (elt : CE)
  | frz (c : CE)
  | srtK (rv : Bool) (c : CE)
  | srtS (c : CE)
  | lcO (own : List (Str × Nat)) (t : Tg) (it : CI) (elt : CE)
  | lcR (own : List (Str × Nat)) (i : Nat) (c : CE) (elt : CE)
  | idxO (o i : CE)
  | revL (c : CE)
  | lenO (c : CE)
  | cmpL (op : CmpOp) (a b : CE)
inductive CO where
  | non
  | som (c : CE)
inductive CA where
  | nil
  | cons (a : CE) (as : CA)
  | own (a : CE) (as : CA)
inductive CT where
  | yes
  | val (c : CE)
  | and (a b : CT)
  | or (a b : CT)
  | not (a : CT)
inductive CI where
  | of (c : CE)
  | rng (as : CA)
  | zip (as : CA)
  | enm (c : CE)
  | rev (c : CE)
end
mutual
inductive CS where
  | asg (own : Bool) (i : Nat) (c : CE)
  | unp (t : Tg) (c : CE)
  | par (is : List Nat) (as : CA)
  | parc (is : List Nat) (as : CA)
  | sset (o i e : CE)
  | sps (o i : CE) (j : Nat) (as : CA)
  | exp (c : CE)
  | ret (c : CE)
  | retN
  | ife (c : CT) (a b : CB)
  | whl (c : CT) (b : CB)
  | for_ (t : Tg) (it : CI) (b : CB)
  | forO (i : Nat) (c : CE) (b : CB)
  | pas
  | brk
  | cnt
  | nev
inductive CB where
  | nil
  | cons (s : CS) (b : CB)
end

/-! ### tables -/
abbrev Exn := Str
abbrev QV := Vl → OH → Prop
abbrev QX := Exn → OH → Prop
abbrev FSpec := List Vl → OH → QV → QX → Prop
structure DS where
  sl : Sl
  oh : OH
structure DE where
  nx : DS → Prop
  rt : QV
  bk : DS → Prop
  ct : DS → Prop
/-- what is known from outside: the module's constants, the defs' promises -/
structure Gv where
  glo : Str → Option D
  fn : Str → Option FSpec

/-- a fresh value is given up as a datum; an old one stays -/
def norm (base : Nat) (r : Vl) (oh : OH) (Q : QV) : Prop := match r with
  | .d d => Q (.d d) oh
  | .o n => if n < base then Q (.o n) oh else ∃ ob, oh[n]? = some ob ∧ oh.length = n + 1 ∧ Q (.d ob.dat) (oh.take n)
  | .l ns => Q (.l ns) oh
/-- what the objects of a list stand for -/
def seeL (oh : OH) : List Nat → Option (List D)
  | [] => some []
  | n :: ns => match oh[n]?, seeL oh ns with
    | some ob, some ds => some (ob.dat :: ds)
    | _, _ => none
/-- the objects of a list, frozen -/
def frzAll (oh : OH) : List Nat → OH
  | [] => oh
  | n :: ns => match oh[n]? with
    | some ob => (frzAll oh ns).set n (.frz ob.dat)
    | none => frzAll oh ns
/-- a value that is to stand in a datum -/
def store (base : Nat) (r : Vl) (oh : OH) (Q : D → OH → Prop) : Prop := match r with
  | .d d => Q d oh
  | .o n => ∃ ob, oh[n]? = some ob ∧ if n < base then Q ob.dat (oh.set n (.frz ob.dat)) else oh.length = n + 1 ∧ Q ob.dat (oh.take n)
  | .l ns => ∃ ds, seeL oh ns = some ds ∧ Q (.list ds) (frzAll oh ns)
def seeAll (oh : OH) : List Vl → Option (List D)
  | [] => some []
  | r :: rs => match vdat oh r, seeAll oh rs with
    | some d, some ds => some (d :: ds)
    | _, _ => none

/-- the receiver's kind -/
def meT : Me → D → Bool
  | .join, .str _ => true
  | .index, .str _ => true
  | _, _ => false
mutual
/-- a target takes a datum -/
def bindT : Tg → D → Sl → Option Sl
  | .nm i, d, sl => some (sl.set i (some (.d d)))
  | .nil, .tuple [], sl => some sl
  | .cons t ts, .tuple (d :: ds), sl => match bindT t d sl with
    | some sl' => bindTs ts ds sl'
    | none => none
  | .cons t ts, .list (d :: ds), sl => match bindT t d sl with
    | some sl' => bindTs ts ds sl'
    | none => none
  | _, _, _ => none
def bindTs : Tg → List D → Sl → Option Sl
  | .nil, [], sl => some sl
  | .cons t ts, d :: ds, sl => match bindT t d sl with
    | some sl' => bindTs ts ds sl'
    | none => none
  | _, _, _ => none
end

def rangeD : List D → Option (List D)
  | [.int j] => if -(2 ^ 62) ≤ j ∧ j < 2 ^ 62 ∧ j.toNat ≤ sizeLine then some (rangeL 0 j.toNat) else none
  | [.int i, .int j] => if -(2 ^ 62) ≤ i ∧ i < 2 ^ 62 ∧ -(2 ^ 62) ≤ j ∧ j < 2 ^ 62 ∧ (j - i).toNat ≤ sizeLine then some (rangeL i (j - i).toNat) else none
  | _ => none
def wipeS (sl : Sl) : List Nat → Sl
  | [] => sl
  | v :: vs => (wipeS sl vs).set v none
/-- the turns of a comprehension -/
def lcGo (step : D → OH → (Option D → OH → Prop) → Prop) (still : OH → Prop) : List D → List D → OH → (List D → OH → Prop) → Prop
  | [], acc, oh, Q => still oh ∧ Q acc oh
  | d :: ds, acc, oh, Q => still oh ∧ step d oh fun o oh' => lcGo step still ds (match o with
    | some y => acc ++ [y]
    | none => acc) oh' Q
/-- the turns of a comprehension that makes owned objects -/
def lcGoO (step : D → OH → (Nat → OH → Prop) → Prop) (still : OH → Prop) : List D → List Nat → OH → (List Nat → OH → Prop) → Prop
  | [], acc, oh, Q => still oh ∧ Q acc oh
  | d :: ds, acc, oh, Q => still oh ∧ step d oh fun n oh' => lcGoO step still ds (acc ++ [n]) oh' Q
/-- the turns of a comprehension over owned objects -/
def lcGoR (step : Nat → OH → (D → OH → Prop) → Prop) : List Nat → List D → OH → (List D → OH → Prop) → Prop
  | [], acc, oh, Q => Q acc oh
  | n :: ns, acc, oh, Q => step n oh fun y oh' => lcGoR step ns (acc ++ [y]) oh' Q
def fresh (oh : OH) (ob : OO) (Q : QV) : Prop := Q (.o oh.length) (oh ++ [ob])
/-- what a walk is handed: its items, what must stand still -/
abbrev QI := List D → (OH → Prop) → OH → Prop
def walkOf (r : Vl) (oh : OH) (Q : QI) : Prop := match r with
  | .d d => ∃ items, itemsD d = some items ∧ Q items (fun _ => True) oh
  | .o n => ∃ ob items, oh[n]? = some ob ∧ seqD ob.dat = some items ∧ Q items (fun oh' => oh'[n]? = some ob) oh
  | .l _ => False
/-- what must stand still is a value's datum -/
def stillV (r : Vl) (oh oh' : OH) : Prop := match r with
  | .d _ => True
  | .o n => oh'[n]? = oh[n]?
  | .l _ => False
def stillAll : List Vl → OH → OH → Prop
  | [], _, _ => True
  | r :: rs, oh, oh' => stillV r oh oh' ∧ stillAll rs oh oh'

mutual
def wE (Γ : Gv) : CE → Sl → OH → QV → QX → Prop
  | .var i, sl, oh, Q, _ => ∃ r, sl[i]? = some (some r) ∧ Q r oh
  | .cst d, _, oh, Q, _ => Q (.d d) oh
  | .glo x, _, oh, Q, _ => ∃ d, Γ.glo x = some d ∧ Q (.d d) oh
  | .bin op a b, sl, oh, Q, E => wE Γ a sl oh (fun r oh1 => norm oh.length r oh1 fun ra oh1 => wE Γ b sl oh1 (fun r oh2 => norm oh1.length r oh2 fun rb oh2 =>
      ∃ da db r, vdat oh2 ra = some da ∧ vdat oh2 rb = some db ∧ binD op da db = some r ∧ fin r oh2 Q) E) E
  | .neg a, sl, oh, Q, E => wE Γ a sl oh (fun r oh1 => ∃ i, r = .d (.int i) ∧ Q (.d (.int (-i))) oh1) E
  | .cmp op a b, sl, oh, Q, E => wE Γ a sl oh (fun r oh1 => norm oh.length r oh1 fun ra oh1 => wE Γ b sl oh1 (fun r oh2 => norm oh1.length r oh2 fun rb oh2 =>
      ∃ da db c, vdat oh2 ra = some da ∧ vdat oh2 rb = some db ∧ cmpD op da db = some c ∧ Q (.d (.bool c)) oh2) E) E
  | .chn o p a b c, sl, oh, Q, E => wE Γ a sl oh (fun r oh1 => norm oh.length r oh1 fun ra oh1 => wE Γ b sl oh1 (fun r oh2 => norm oh1.length r oh2 fun rb oh2 =>
      ∃ da db k, vdat oh2 ra = some da ∧ vdat oh2 rb = some db ∧ cmpD o da db = some k ∧ if k = true then
        wE Γ c sl oh2 (fun r oh3 => norm oh2.length r oh3 fun rc oh3 => ∃ db dc k, vdat oh3 rb = some db ∧ vdat oh3 rc = some dc ∧ cmpD p db dc = some k ∧ Q (.d (.bool k)) oh3) E
        else Q (.d (.bool false)) oh2) E) E
  | .and a b, sl, oh, Q, E => wE Γ a sl oh (fun r oh1 => ∃ c, r = .d (.bool c) ∧ if c = true then wE Γ b sl oh1 Q E else Q (.d (.bool false)) oh1) E
  | .or a b, sl, oh, Q, E => wE Γ a sl oh (fun r oh1 => ∃ c, r = .d (.bool c) ∧ if c = true then Q (.d (.bool true)) oh1 else wE Γ b sl oh1 Q E) E
  | .not a, sl, oh, Q, E => wE Γ a sl oh (fun r oh1 => ∃ c, r = .d (.bool c) ∧ Q (.d (.bool (!c))) oh1) E
  | .ite c a b, sl, oh, Q, E => wT Γ c sl oh (fun k oh1 => if k = true then wE Γ a sl oh1 Q E else wE Γ b sl oh1 Q E) E
  | .tup as, sl, oh, Q, E => wAs Γ as sl oh (fun ds oh1 => Q (.d (.tuple ds)) oh1) E
  | .lst as, sl, oh, Q, E => wAs Γ as sl oh (fun ds oh1 => fresh oh1 (.lst ds) Q) E
  | .dnK, _, oh, Q, _ => fresh oh (.dK []) Q
  | .dnT, _, oh, Q, _ => fresh oh (.dT []) Q
  | .call f as, sl, oh, Q, E => wNs Γ as sl oh (fun rs oh1 => ∃ S, Γ.fn f = some S ∧ S rs oh1 Q E) E
  | .bi f as, sl, oh, Q, E => wNs Γ as sl oh (fun rs oh1 => ∃ ds r, seeAll oh1 rs = some ds ∧ biD f ds = some r ∧ fin r oh1 Q) E
  | .isi a t, sl, oh, Q, E => wE Γ a sl oh (fun r oh1 => norm oh.length r oh1 fun r oh1 => ∃ d, vdat oh1 r = some d ∧ flatDict d = true ∧ Q (.d (.bool (isiD t d))) oh1) E
  | .me m o as, sl, oh, Q, E => wE Γ o sl oh (fun r oh1 => norm oh.length r oh1 fun ro oh1 => (∃ d, vdat oh1 ro = some d ∧ meT m d = true) ∧
      wNs Γ as sl oh1 (fun rs oh2 => ∃ d ds r, vdat oh2 ro = some d ∧ seeAll oh2 rs = some ds ∧ meD m d ds = some r ∧ fin r oh2 Q) E) E
  | .mu m o as, sl, oh, Q, E => wE Γ o sl oh (fun r oh1 => ∃ n, r = .o n ∧ (∃ ds, oh1[n]? = some (.lst ds)) ∧
      wAs Γ as sl oh1 (fun ds oh2 => ∃ ob ob' d, oh2[n]? = some ob ∧ ob.live = true ∧ muD m ob ds = some (ob', d) ∧ ob'.live = true ∧ Q (.d d) (oh2.set n ob')) E) E
  | .idx o i, sl, oh, Q, E => wE Γ o sl oh (fun r oh1 => norm oh.length r oh1 fun ro oh1 => wE Γ i sl oh1 (fun r oh2 => norm oh1.length r oh2 fun ri oh2 =>
      ∃ d di r, vdat oh2 ro = some d ∧ vdat oh2 ri = some di ∧ ixD d di = some r ∧ Q (.d r) oh2) E) E
  | .sli o lo hi, sl, oh, Q, E => wE Γ o sl oh (fun r oh1 => norm oh.length r oh1 fun ro oh1 => wP Γ lo sl oh1 (fun l oh2 => wP Γ hi sl oh2 (fun h oh3 =>
      ∃ d r, vdat oh3 ro = some d ∧ slD d l h = some r ∧ fin r oh3 Q) E) E) E
  | .frz c, sl, oh, Q, E => wE Γ c sl oh (fun r oh1 => store oh.length r oh1 fun d oh2 => Q (.d d) oh2) E
  | .srtK rv c, sl, oh, Q, E => wE Γ c sl oh (fun r oh1 => norm oh.length r oh1 fun ra oh1 => ∃ d ds, vdat oh1 ra = some d ∧ sortKD rv d = some ds ∧ fresh oh1 (.lst ds) Q) E
  | .srtS c, sl, oh, Q, E => wE Γ c sl oh (fun r oh1 => norm oh.length r oh1 fun ra oh1 => ∃ d ds, vdat oh1 ra = some d ∧ sortSD d = some ds ∧ fresh oh1 (.lst ds) Q) E
  | .lc own t it cond elt, sl, oh, Q, E => wI Γ it sl oh (fun items still oh1 => lcGo (fun d oh2 k => ∃ sl', bindT t d (wipeS sl (own.map (·.2))) = some sl' ∧
      wT Γ cond sl' oh2 (fun b oh3 => if b = true then wE Γ elt sl' oh3 (fun r oh4 => store oh3.length r oh4 fun y oh5 => k (some y) oh5) (fun _ _ => False) else k none oh3) (fun _ _ => False)) still items [] oh1
      fun acc oh2 => fresh oh2 (.lst acc) Q) E
  | .lcO own t it elt, sl, oh, Q, E => wI Γ it sl oh (fun items still oh1 => lcGoO (fun d oh2 k => ∃ sl', bindT t d (wipeS sl (own.map (·.2))) = some sl' ∧
      wE Γ elt sl' oh2 (fun r oh3 => ∃ n, r = .o n ∧ k n oh3) (fun _ _ => False)) still items [] oh1 fun acc oh2 => Q (.l acc) oh2) E
  | .lcR own i c elt, sl, oh, Q, E => wE Γ c sl oh (fun r oh1 => ∃ ns, r = .l ns ∧ lcGoR (fun n oh2 k => wE Γ elt ((wipeS sl (own.map (·.2))).set i (some (.o n))) oh2
      (fun r oh4 => store oh2.length r oh4 fun y oh5 => k y oh5) (fun _ _ => False)) ns [] oh1 fun acc oh2 => fresh oh2 (.lst acc) Q) E
  | .idxO o i, sl, oh, Q, E => wE Γ o sl oh (fun r oh1 => ∃ ns, r = .l ns ∧ wE Γ i sl oh1 (fun r oh2 => ∃ k n, r = .d (.int k) ∧ atI ns k = some n ∧ Q (.o n) oh2) E) E
  | .revL c, sl, oh, Q, E => wE Γ c sl oh (fun r oh1 => norm oh.length r oh1 fun ra oh1 => ∃ ds, vdat oh1 ra = some (.list ds) ∧ fresh oh1 (.lst ds.reverse) Q) E
  | .lenO c, sl, oh, Q, E => wE Γ c sl oh (fun r oh1 => ∃ ns, r = .l ns ∧ Q (.d (.int (ns.length : Nat))) oh1) E
  | .cmpL op a b, sl, oh, Q, E => wE Γ a sl oh (fun r oh1 => norm oh.length r oh1 fun ra oh1 => wE Γ b sl oh1 (fun r oh2 => ∃ ns, r = .l ns ∧
      ∃ da ds c, vdat oh2 ra = some da ∧ seeL oh2 ns = some ds ∧ cmpD op da (.list ds) = some c ∧ Q (.d (.bool c)) oh2) E) E
def wP (Γ : Gv) : CO → Sl → OH → (Option Int → OH → Prop) → QX → Prop
  | .non, _, oh, Q, _ => Q none oh
  | .som c, sl, oh, Q, E => wE Γ c sl oh (fun r oh1 => ∃ i, r = .d (.int i) ∧ Q (some i) oh1) E
def wT (Γ : Gv) : CT → Sl → OH → (Bool → OH → Prop) → QX → Prop
  | .yes, _, oh, Q, _ => Q true oh
  | .val c, sl, oh, Q, E => wE Γ c sl oh (fun r oh1 => norm oh.length r oh1 fun r oh1 => ∃ d b, vdat oh1 r = some d ∧ truD d = some b ∧ Q b oh1) E
  | .and a b, sl, oh, Q, E => wT Γ a sl oh (fun c oh1 => if c = true then wT Γ b sl oh1 Q E else Q false oh1) E
  | .or a b, sl, oh, Q, E => wT Γ a sl oh (fun c oh1 => if c = true then Q true oh1 else wT Γ b sl oh1 Q E) E
  | .not a, sl, oh, Q, E => wT Γ a sl oh (fun c oh1 => Q (!c) oh1) E
def wNs (Γ : Gv) : CA → Sl → OH → (List Vl → OH → Prop) → QX → Prop
  | .nil, _, oh, Q, _ => Q [] oh
  | .cons a as, sl, oh, Q, E => wE Γ a sl oh (fun r oh1 => norm oh.length r oh1 fun r oh1 => wNs Γ as sl oh1 (fun rs oh2 => Q (r :: rs) oh2) E) E
  | .own a as, sl, oh, Q, E => wE Γ a sl oh (fun r oh1 => wNs Γ as sl oh1 (fun rs oh2 => Q (r :: rs) oh2) E) E
def wAs (Γ : Gv) : CA → Sl → OH → (List D → OH → Prop) → QX → Prop
  | .nil, _, oh, Q, _ => Q [] oh
  | .cons a as, sl, oh, Q, E => wE Γ a sl oh (fun r oh1 => store oh.length r oh1 fun d oh1 => wAs Γ as sl oh1 (fun ds oh2 => Q (d :: ds) oh2) E) E
  | .own _ _, _, _, _, _ => False
def wI (Γ : Gv) : CI → Sl → OH → QI → QX → Prop
  | .of c, sl, oh, Q, E => wE Γ c sl oh (fun r oh1 => norm oh.length r oh1 fun r oh1 => walkOf r oh1 Q) E
  | .rng as, sl, oh, Q, E => wNs Γ as sl oh (fun rs oh1 => ∃ ds items, seeAll oh1 rs = some ds ∧ rangeD ds = some items ∧ Q items (fun _ => True) oh1) E
  | .zip as, sl, oh, Q, E => wNs Γ as sl oh (fun rs oh1 => ∃ ds ls items, seeAll oh1 rs = some ds ∧ seqAll ds = some ls ∧ zipN ls = some items ∧ Q items (fun oh' => stillAll rs oh1 oh') oh1) E
  | .enm c, sl, oh, Q, E => wE Γ c sl oh (fun r oh1 => norm oh.length r oh1 fun r oh1 => ∃ d l, vdat oh1 r = some d ∧ seqD d = some l ∧ Q (enumL 0 l) (fun oh' => stillV r oh1 oh') oh1) E
  | .rev c, sl, oh, Q, E => wE Γ c sl oh (fun r oh1 => norm oh.length r oh1 fun r oh1 => ∃ d l, vdat oh1 r = some d ∧ revD d = some l ∧ Q l (fun oh' => stillV r oh1 oh') oh1) E
end

/-- slots set, from the left -/
def setAll : List Nat → List Vl → Sl → Option Sl
  | [], [], sl => some sl
  | i :: is, r :: rs, sl => setAll is rs (sl.set i (some r))
  | _, _, _ => none
/-- what is known may be forgotten -/
def Wk (base : Nat) (st st2 : DS) : Prop := st2.sl.length = st.sl.length ∧ ∃ b, base ≤ b ∧ st2.oh = st.oh.take b ∧ ∀ (i : Nat) (r : Vl), st2.sl[i]? = some (some r) → st.sl[i]? = some (some r) ∧ (∀ n, r = .o n → n < b) ∧ ∀ ns, r = .l ns → ∀ n ∈ ns, n < b
mutual
def wS (Γ : Gv) : CS → DS → DE → QX → Prop
  | .asg own i c, st, D, E => wE Γ c st.sl st.oh (fun r oh1 => if own = true then D.nx ⟨st.sl.set i (some r), oh1⟩ else norm st.oh.length r oh1 fun r oh1 => D.nx ⟨st.sl.set i (some r), oh1⟩) E
  | .unp t c, st, D, E => wE Γ c st.sl st.oh (fun r oh1 => norm st.oh.length r oh1 fun r oh1 => ∃ d sl', r = .d d ∧ bindT t d st.sl = some sl' ∧ D.nx ⟨sl', oh1⟩) E
  | .par is as, st, D, E => wNs Γ as st.sl st.oh (fun rs oh1 => ∃ sl', setAll is rs st.sl = some sl' ∧ D.nx ⟨sl', oh1⟩) E
  | .parc is as, st, D, E => wNs Γ as st.sl st.oh (fun rs oh1 => ∃ sl', setAll is rs st.sl = some sl' ∧ D.nx ⟨sl', oh1⟩) E
  | .sset o i e, st, D, E => wE Γ e st.sl st.oh (fun r oh1 => store st.oh.length r oh1 fun d oh1 => wE Γ o st.sl oh1 (fun r oh2 => ∃ n, r = .o n ∧ wE Γ i st.sl oh2 (fun r oh3 => norm oh2.length r oh3 fun ri oh3 =>
      ∃ ob ob' di, oh3[n]? = some ob ∧ ob.live = true ∧ ri = .d di ∧ setD ob di d = some ob' ∧ ob'.live = true ∧ D.nx ⟨st.sl, oh3.set n ob'⟩) E) E) E
  | .sps o i j as, st, D, E => wAs Γ as st.sl st.oh (fun ds oh1 => ∃ d e, ds = [d, e] ∧ wE Γ o st.sl oh1 (fun r oh2 => ∃ n, r = .o n ∧ wE Γ i st.sl oh2 (fun r oh3 => norm oh2.length r oh3 fun ri oh3 =>
      ∃ ob ob' di, oh3[n]? = some ob ∧ ob.live = true ∧ ri = .d di ∧ setD ob di d = some ob' ∧ ob'.live = true ∧ D.nx ⟨st.sl.set j (some (.d e)), oh3.set n ob'⟩) E) E) E
  | .exp c, st, D, E => wE Γ c st.sl st.oh (fun r oh1 => norm st.oh.length r oh1 fun _ oh1 => D.nx ⟨st.sl, oh1⟩) E
  | .ret c, st, D, E => wE Γ c st.sl st.oh D.rt E
  | .retN, st, D, _ => D.rt (.d .none) st.oh
  | .ife c a b, st, D, E => wT Γ c st.sl st.oh (fun k oh1 => if k = true then wB Γ a ⟨st.sl, oh1⟩ D E else wB Γ b ⟨st.sl, oh1⟩ D E) E
  | .whl c b, st0, D, E => ∃ W : Nat → DS → Prop, (∃ m, W m st0) ∧ ∀ m st, W m st → wT Γ c st.sl st.oh (fun k oh1 => if k = true then
      wB Γ b ⟨st.sl, oh1⟩ { D with nx := fun st' => ∃ m' st2, m' < m ∧ Wk st0.oh.length st' st2 ∧ W m' st2, ct := fun st' => ∃ m' st2, m' < m ∧ Wk st0.oh.length st' st2 ∧ W m' st2, bk := D.nx } E else D.nx ⟨st.sl, oh1⟩) E
  | .for_ t it b, st, D, E => wI Γ it st.sl st.oh (fun items still oh1 => ∃ Pv : Nat → DS → Prop, Pv 0 ⟨st.sl, oh1⟩ ∧ (∀ i st, i ≤ items.length → Pv i st → still st.oh) ∧
      (∀ (i : Nat) d st, items[i]? = some d → Pv i st → ∃ sl', bindT t d st.sl = some sl' ∧
        wB Γ b ⟨sl', st.oh⟩ { D with nx := fun st' => ∃ st2, Wk oh1.length st' st2 ∧ Pv (i + 1) st2, ct := fun st' => ∃ st2, Wk oh1.length st' st2 ∧ Pv (i + 1) st2, bk := D.nx } E) ∧
      ∀ st, Pv items.length st → D.nx st) E
  | .forO i c b, st, D, E => wE Γ c st.sl st.oh (fun r oh1 => ∃ ns, r = .l ns ∧ ∃ Pv : Nat → DS → Prop, Pv 0 ⟨st.sl, oh1⟩ ∧
      (∀ (j n : Nat) st, ns[j]? = some n → Pv j st → wB Γ b ⟨st.sl.set i (some (.o n)), st.oh⟩ { D with nx := fun st' => ∃ st2, Wk oh1.length st' st2 ∧ Pv (j + 1) st2, ct := fun st' => ∃ st2, Wk oh1.length st' st2 ∧ Pv (j + 1) st2, bk := D.nx } E) ∧
      ∀ st, Pv ns.length st → D.nx st) E
  | .pas, st, D, _ => D.nx st
  | .brk, st, D, _ => D.bk st
  | .cnt, st, D, _ => D.ct st
  | .nev, _, _, _ => False
def wB (Γ : Gv) : CB → DS → DE → QX → Prop
  | .nil, st, D, _ => D.nx st
  | .cons s b, st, D, E => wS Γ s st { D with nx := fun st' => wB Γ b st' D E } E
end

def retv (base : Nat) (r : Vl) (oh : OH) (Q : QV) : Prop := match r with
  | .d d => Q (.d d) (oh.take base)
  | .o n => if n < base then Q (.o n) (oh.take base) else ∃ ob, oh[n]? = some ob ∧ if ob.live = true then Q (.o base) (oh.take base ++ [ob]) else Q (.d ob.dat) (oh.take base)
  | .l ns => Q (.l ns) oh
/-- a def by its body: N slots -/
def fnW (Γ : Gv) (N : Nat) (body : CB) : FSpec := fun rs oh Q E =>
  wB Γ body ⟨rs.map some ++ List.replicate (N - rs.length) none, oh⟩ { nx := fun st => Q (.d .none) (st.oh.take oh.length), rt := fun r oh' => retv oh.length r oh' Q, bk := fun _ => False, ct := fun _ => False }
    fun x oh' => E x (oh'.take oh.length)
end Kd

namespace Kd
open PySem PySem.Spec PyProof.Rows L2

structure FnG (P : Program) (w : World) (K : PySem.W.Frag) (mg : Str → Option Value) (base : Heap) (k : Nat) (f : Addr) (fd : FuncData) (ps : List Str) (sp : Sp) : Prop where
  len : ∀ vs H Q E, sp vs H Q E → vs.length = ps.length
  run : ∀ (A : Around) (outer : List Env) (s : Shared) (H : Hp) (args : Args) (us : List Value) (vs : List V) (Q : VK) (E : XK), Room k A → A.guards = some [] → Env0 P w K mg base A outer s H →
    BindsTo s fd args (ps.zip us) → Vals vs us → sp vs H Q E → codeAny (model P w) A (.call (.ref f) args) (CR (L2.CX P w) outer P w H s Q E) s
section
variable {P : Program} {w : World} {K : PySem.W.Frag} {mg : Str → Option Value} {base : Heap}
theorem FnG.mono {j k : Nat} {f : Addr} {fd : FuncData} {ps : List Str} {sp : Sp} (F : FnG P w K mg base j f fd ps sp) (h : j ≤ k) : FnG P w K mg base k f fd ps sp :=
  ⟨F.len, fun A outer s H args us vs Q E hr => F.run A outer s H args us vs Q E (hr.mono h)⟩
theorem FnG.imp {k : Nat} {f : Addr} {fd : FuncData} {ps : List Str} {sp sp' : Sp} (F : FnG P w K mg base k f fd ps sp) (h : ∀ vs H Q E, sp' vs H Q E → sp vs H Q E) : FnG P w K mg base k f fd ps sp' :=
  ⟨fun vs H Q E q => F.len vs H Q E (h _ _ _ _ q), fun A outer s H args us vs Q E hr hg he hb hv hs => F.run A outer s H args us vs Q E hr hg he hb hv (h _ _ _ _ hs)⟩
/-- a def by its body -/
theorem FnG.of {k : Nat} {f : Addr} {name qual : Str} {params : Arguments} {body : List Stmt} {scope : Scope} {fd : FuncData} {N ps : List Str} {sp : Sp}
    (F : FunD K name qual params body scope [] [] f fd) (S : FnScope N ps scope) (len : ∀ vs H Q E, sp vs H Q E → vs.length = ps.length)
    (hbody : ∀ (cdv : Value) (A : Around) (outer : List Env) (s : Shared) (H : Hp) (vs : List V) (Q : VK) (E : XK), Room k (A.deeper (envOfC qual scope s.heap.objs.size f cdv)) → A.guards = some [] → sp vs H Q E →
      ∃ t, PSs (cxOf (L2.CX P w) P w K mg base N qual scope f cdv A outer s H E) body t ∧ t { nx := fun _ H' => Q .non H', rt := Q } (start N vs) H) :
    FnG P w K mg base (k + 1) f fd ps sp := by
  obtain ⟨oc, od, dV, kV, doc, pm, an, cdv, ct, osl, rfl, lk, hcd, _, _⟩ := F.ex
  refine ⟨len, fun A outer s H args us vs Q E hr hg e0 hb rv hsp => ?_⟩
  have hl := len _ _ _ _ hsp
  have old : ∀ b o, base.get? b = some o → s.heap.get? b = some o := fun b o e => (e0.bs b o e).1
  have KX : K.In s.heap := e0.mod.kin.keeps old
  have lim : s.heap.NoLimit := e0.mod.nolimit.keeps old
  have kinds : ∀ y ∈ ps.zip us, scope.names.lookup y.1 = some .local ∨ (scope.names.lookup y.1 = some .cell ∧ ((cellsFrom (s.heap.objs.size + 1) scope.names []).lookup y.1).isSome = true) := by
    rintro ⟨n, v⟩ hy
    rcases S.par n (List.of_mem_zip hy).1 with q | q
    · exact .inl q
    · exact .inr ⟨q, PySem.W.cellsFrom_some _ _ _ (.inl q)⟩
  refine codeAny_call_function hr.depth (KX _ _ lk) rfl S.co S.gen rfl (PySem.W.codeRec_of KX hcd) (hb _ _ _ _ ?_)
  refine wpAny_newFunctionEnv_cells S.kind kinds fun env he s1 x => ?_
  subst he
  refine ⟨lim.keeps x.toInCall.keep, codeAny_func ?_⟩
  obtain ⟨t, ht, hq⟩ := hbody cdv A outer s H vs Q E (hr.deeper _) hg hsp
  have I := inv_start (CX := L2.CX P w) (E := E) S hr.hd e0 hl rv x
  refine wpAny_mono (ht.run [] s1 (start N vs) H _ I hq) (fun fl s' hs => ?_) fun e s' hs => hs
  cases fl with
  | ret u =>
    obtain ⟨v, σ', H', J, r, q⟩ := hs
    exact ⟨v, H', J.os, J.bare, J.base, J.hok, r, q⟩
  | next =>
    obtain ⟨σ', H', J, q⟩ := hs
    exact ⟨.non, H', J.os, J.bare, J.base, J.hok, rfl, q⟩
  | brk => exact hs.elim fun _ h => h.elim fun _ h => h.2.elim
  | cont => exact hs.elim fun _ h => h.elim fun _ h => h.2.elim
end
section
variable {X : Cx} {k : Nat} {f : Addr} {fd : FuncData} {ps : List Str} {sp : Sp} {E : XK} {x : Str} {p pos : Pos} {e : Expr} {es : List Expr} {t : TA} {W : WX}
theorem run_fnG {pins : List (Addr × Obj)} {σ : L2.St} {H : Hp} {s : Shared} {Q : VK} {us : List Value} {vs : List V} (F : FnG X.prog X.w X.K X.mg X.base k f fd ps sp) (hr : Room k X.A) (hg : X.A.guards = some []) (hb : Binds X.K fd ps [])
    (tk : Takes X W) (hE : ∀ cls d H', E cls d H' → W cls d σ H') (I : Inv X pins σ H s) (r : Vals vs us) (h : sp vs H Q E) : wpAny (model X.prog X.w) X.A (PySem.call (.ref f) us) (EP X pins σ Q) X.xe s := by
  have hl : us.length = ps.length := by rw [← r.length]; exact F.len _ _ _ _ h
  have bb : BindsTo s fd ⟨us, []⟩ (ps.zip us) := by
    have := hb s us I.kIn (by rw [List.append_nil]; exact hl)
    rw [List.append_nil] at this
    exact this
  refine wpAny_call (codeAny_mono (F.run X.A X.stack s H ⟨us, []⟩ us vs Q E hr hg I.env0 bb r h) fun rr s' hq => ?_)
  cases rr with
  | error e => exact tk e s' (XE.of_call I hE hq)
  | ok fl =>
    cases fl with
    | ret u => exact I.after hq
    | next => exact hq.elim
    | brk => exact hq.elim
    | cont => exact hq.elim
/-- f(e, ..): what is raised is wished for at the slots as they stand -/
def tCallG (sp : Sp) (W : WX) (t : TA) : TE := fun σ H Q => t σ H fun vs H1 => sp vs H1 Q (fun cls d H' => W cls d σ H')
theorem pe_callG (F : FnG X.prog X.w X.K X.mg X.base k f fd ps sp) (hr : Room k X.A) (hgd : X.A.guards = some []) (hg : Gl X x) (hm : X.mg x = some (.ref f)) (hk : PySem.W.keepIn X.K (.ref f) = true) (hb : Binds X.K fd ps [])
    (tk : Takes X W) (ha : PA X (e :: es) t) (hdb : (x == ("__debug__" : Str)) = false) (he : starEach (e :: es) X.env = (false, eval e X.env) :: starEach es X.env) (hpl : (backTo pos (starEach es X.env)).any (·.1) = false) :
    PE X (.Call (.Name x p) (e :: es) [] pos) (tCallG sp W t) := by
  refine ⟨fun pins s σ H Q I h => ?_⟩
  refine wpAny_Call_Name_kw (ld_glob I hg hm ?_ hdb)
  refine PySem.W.callWith_K (h₀ := X.base) I.ok.mod.kin hk (thn (ha.run pos pins s σ H _ I h) fun us s1 hh => ?_) he hpl
  obtain ⟨vs, H1, I1, r, q⟩ := hh
  exact ⟨I1.kIn, run_fnG F hr hgd hb tk (fun _ _ _ z => z) I1 r q⟩
theorem pe_callG0 (F : FnG X.prog X.w X.K X.mg X.base k f fd ps sp) (hr : Room k X.A) (hgd : X.A.guards = some []) (hg : Gl X x) (hm : X.mg x = some (.ref f)) (hk : PySem.W.keepIn X.K (.ref f) = true) (hb : Binds X.K fd ps [])
    (tk : Takes X W) (hdb : (x == ("__debug__" : Str)) = false) : PE X (.Call (.Name x p) [] [] pos) (tCallG sp W tNil) := by
  refine ⟨fun pins s σ H Q I h => ?_⟩
  refine wpAny_Call_Name_kw (ld_glob I hg hm ?_ hdb)
  exact PySem.W.callWith_K0 I.kIn hk (run_fnG (us := []) F hr hgd hb tk (fun _ _ _ z => z) I .nil h)
end
end Kd

namespace Kd
open PySem PySem.Spec PyProof.Rows L2
section
variable {P : Program} {w : World} {K : PySem.W.Frag} {mg mb : Str → Option Value} {k : Nat} {fa a : Addr} {fd : FuncData} {x : Str} {sp : Sp} {s₁ : Shared} {vs : List Value} {ns : List Int}
/-- the call, from an abstract heap that tracks at most the script -/
theorem law_at (H : Hp) (KX : K.In s₁.heap) (hns : s₁.heap.Ns mainGlobals mg) (hb : s₁.heap.Ns builtinsNs mb) (hbb : ∀ x : Str, x ≠ "__name__" → mb x = bootBuiltins x) (hlim : s₁.heap.NoLimit) (hgen : s₁.gens = #[])
    (hobj : s₁.heap.get? a = some { cls := .type "list", data := .seq vs.toArray }) (hr : Room k callerA)
    (F : ∀ base : Heap, K.In base → base.Ns mainGlobals mg → FnG P w K mg base k fa fd [x] sp) (hbind : ∀ (s : Shared) (u : Value), BindsTo s fd ⟨[u], []⟩ [(x, u)])
    (only : ∀ b, H b = none ∨ (b = a ∧ ∃ o xs, H b = some (.frz o (.lst xs)))) (hok : HOk P w H s₁.heap) (hK : H a ≠ none → K.lookup a = none)
    (hsp : sp [.ref a] H (fun v _ => v = .bl true) fun _ _ _ => False) :
    codeAny (model P w) callerA (.call (.ref fa) ⟨[.ref a], []⟩) (fun r s' => r = .ok (.ret (.bool true)) ∧ OldK s₁.heap s'.heap ∧ s'.os = s₁.os ∧ AllBare s'.gens) s₁ := by
  have free : ∀ b, b ≠ a → H b = none := fun b n => (only b).elim id fun q => absurd q.1 n
  have dicts : ∀ {b : Addr} {m : Str → Option Value}, s₁.heap.Ns b m → (hidT s₁.heap H).Ns b m := by
    rintro b m ⟨o, es, ep, e, d, r⟩
    refine ⟨o, es, ep, hidT_get e (free b fun z => ?_), d, r⟩
    subst z
    rw [hobj] at e
    cases e
    cases d
  have kin : K.In (hidT s₁.heap H) := fun b o e => by
    refine hidT_get (KX b o e) ?_
    by_cases z : b = a
    · subst z
      cases q : H b with
      | none => rfl
      | some u => rw [hK (by rw [q]; simp)] at e; cases e
    · exact free b z
  have md : Mod K mg (hidT s₁.heap H) := ⟨kin, dicts hns, ⟨mb, dicts hb, hbb⟩, let ⟨mc, h1, h2⟩ := hlim; ⟨mc, dicts h1, h2⟩⟩
  have e0 : Env0 P w K mg (hidT s₁.heap H) callerA [] s₁ H :=
    { frames := rfl, mod := md, bs := fun b o e => of_hidT e, bsz := Nat.le_of_eq (hidT_size _ _), funs := trivial, frf := fun b hb => (nomatch hb), hok := hok, bare := .of_eq hgen }
  refine codeAny_mono ((F _ kin (dicts hns)).run callerA [] s₁ H ⟨[.ref a], []⟩ [.ref a] [.ref a] _ _ hr rfl e0 (hbind s₁ (.ref a)) (.cons rfl .nil) hsp) fun r s' h => ?_
  cases r with
  | error e =>
    obtain ⟨_, _, _, _, _, _, _, _, _, _, _, _, z⟩ := h
    exact z.elim
  | ok fl =>
    cases fl with
    | next => exact h.elim
    | brk => exact h.elim
    | cont => exact h.elim
    | ret u =>
      obtain ⟨v, H', os, bare, un, hok', rv, q⟩ := h
      cases (show v = .bl true from q)
      cases (show u = Value.bool true from rv)
      refine ⟨rfl, OldK.of_keep fun b o e => ?_, os, bare⟩
      rcases only b with z | ⟨rfl, ob, xs, z⟩
      · exact un.keep b o e z (fun q => by cases q) (fun q => by cases q)
      · have z2 := un.frzs b ob _ z
        have e1 := (hok b _ z).1
        have e2 := (hok' b _ z2).1
        rw [e] at e1
        cases e1
        exact e2
theorem law_G (KX : K.In s₁.heap) (hns : s₁.heap.Ns mainGlobals mg) (hb : s₁.heap.Ns builtinsNs mb) (hbb : ∀ x : Str, x ≠ "__name__" → mb x = bootBuiltins x) (hlim : s₁.heap.NoLimit) (hgen : s₁.gens = #[])
    (hobj : s₁.heap.get? a = some { cls := .type "list", data := .seq vs.toArray }) (hi : IntsAre vs ns) (hl : ns.length ≤ sizeLine) (hr : Room k callerA)
    (F : ∀ base : Heap, K.In base → base.Ns mainGlobals mg → FnG P w K mg base k fa fd [x] sp) (hbind : ∀ (s : Shared) (u : Value), BindsTo s fd ⟨[u], []⟩ [(x, u)])
    (hsp : ∀ H : Hp, SqL K H a (ns.map V.int) → sp [.ref a] H (fun v _ => v = .bl true) fun _ _ _ => False) :
    codeAny (model P w) callerA (.call (.ref fa) ⟨[.ref a], []⟩) (fun r s' => r = .ok (.ret (.bool true)) ∧ OldK s₁.heap s'.heap ∧ s'.os = s₁.os ∧ AllBare s'.gens) s₁ := by
  have rv := vals_ints hi
  have lenV := hi.length
  cases hk : K.lookup a with
  | some o =>
    have e := KX a o hk
    rw [hobj] at e
    cases e
    refine law_at (fun _ => none) KX hns hb hbb hlim hgen hobj hr F hbind (fun _ => .inl rfl) (fun b u z => nomatch z) (fun z => absurd rfl z) (hsp _ (.inr ⟨_, vs.toArray, _, hk, rfl, rfl, rfl, ?_, by simpa using rv⟩))
    rw [List.size_toArray, lenV]
    exact hl
  | none =>
    let H : Hp := fun b => if b = a then some (.frz { cls := .type "list", data := .seq vs.toArray } (.lst (ns.map V.int))) else none
    have hHa : H a = some (.frz { cls := .type "list", data := .seq vs.toArray } (.lst (ns.map V.int))) := if_pos rfl
    refine law_at H KX hns hb hbb hlim hgen hobj hr F hbind (fun b => ?_) (fun b u z => ?_) (fun _ => hk) (hsp H (.inl (.inr ⟨_, hHa⟩)))
    · by_cases q : b = a
      · exact .inr ⟨q, _, _, if_pos q⟩
      · exact .inl (if_neg q)
    · by_cases q : b = a
      · subst q
        rw [hHa] at z
        cases z
        exact ⟨hobj, by rw [List.length_map]; exact hl, vs, _, rv, hobj⟩
      · have z' : H b = none := if_neg q
        rw [z'] at z
        cases z
end
/-- a law's row, from its def's promise -/
theorem walk_G {l : PySem.W.OpenLaw} {n k : Nat} {q : Program} {loose : List Str} {XP : (Str → Option Value) → Heap → Prop} {YP : World → Heap → Prop} {d : DefRec} {x : Str}
    (hn : l.most = some n) (hn2 : n ≤ sizeLine) (hdf : d.params.defaults = []) (hr : Room k callerA)
    (F : ∀ (w : World) (mg : Str → Option Value) (fa : Addr) (h : Heap), YP w h → h.Ns mainGlobals mg → mg d.name = some (.ref fa) →
      ∃ (K : PySem.W.Frag) (fd : FuncData) (sp : Sp), K.In h ∧ (∀ (s : Shared) (u : Value), BindsTo s fd ⟨[u], []⟩ [(x, u)]) ∧
        (∀ (H : Hp) (a : Addr) (ns : List Int), ns.length ≤ n → SqL K H a (ns.map V.int) → sp [.ref a] H (fun v _ => v = .bl true) fun _ _ _ => False) ∧
        ∀ base : Heap, K.In base → base.Ns mainGlobals mg → FnG l.prog w K mg base k fa fd [x] sp) :
    PySem.W.WalkO q loose XP YP l.row.toRowW d [] (fun f vs => PySem.call f vs) := by
  refine Att.attach_call hn hdf fun w s₀ s₁ mg mb fa o pm cd doc a vs ns G Y ho hd hcd hmg hobj hints hlen hg => ?_
  obtain ⟨K, fd, sp, KX, hb, hsp, hF⟩ := F w mg fa _ Y G.T.g hmg
  exact law_G KX G.T.g G.T.b G.T.builtins G.T.nolimit hg hobj hints (Nat.le_trans hlen hn2) hr hF hb fun H hS => hsp H a ns hlen hS
end Kd

namespace Kd
open PySem PySem.Spec PyProof.Rows L2
structure Lc where
  K : PySem.W.Frag
  W : WX
  xr : Exn → Value → Option Addr → Prop
structure Nw (L : Lc) (σ : L2.St) (H : Hp) (ρ : List Addr) (sl : Sl) (oh : OH) (Y : ZS) : Prop where
  ok : Ok L.K H ρ oh Y
  sr : SlR L.K H ρ oh Y σ sl
def Exq (L : Lc) (σ : L2.St) (H : Hp) (ρ : List Addr) (oh : OH) (Y : ZS) (Ed : QX) : Prop :=
  ∀ x oh' cls d H' ρ', Ed x oh' → Ok L.K H' ρ' oh' Y → Stp H ρ oh H' ρ' oh' → L.xr x cls d → L.W cls d σ H'
abbrev Rl (α β : Type) := Hp → List Addr → OH → ZS → β → α → Prop
def Lf (L : Lc) {α β : Type} (rel : Rl α β) (w : Sl → OH → (α → OH → Prop) → QX → Prop) : L2.St → Hp → (β → Hp → Prop) → Prop := fun σ H Q =>
  ∃ ρ sl oh Y Qd Ed, Nw L σ H ρ sl oh Y ∧ w sl oh Qd Ed ∧ (∀ r oh' v H' ρ', Qd r oh' → Ok L.K H' ρ' oh' Y → Stp H ρ oh H' ρ' oh' → rel H' ρ' oh' Y v r → Q v H') ∧ Exq L σ H ρ oh Y Ed
section
variable {L : Lc} {σ : L2.St} {H H1 : Hp} {ρ ρ1 : List Addr} {sl : Sl} {oh oh1 : OH} {Y : ZS} {Ed : QX}
theorem Exq.step (st : Stp H ρ oh H1 ρ1 oh1) (h : Exq L σ H ρ oh Y Ed) : Exq L σ H1 ρ1 oh1 Y Ed := fun x oh' cls d H' ρ' e ok s r => h x oh' cls d H' ρ' e ok (st.trans s) r
theorem Nw.step (s : Nw L σ H ρ sl oh Y) (ok : Ok L.K H1 ρ1 oh1 Y) (st : Stp H ρ oh H1 ρ1 oh1) : Nw L σ H1 ρ1 sl oh1 Y := ⟨ok, s.sr.keep st s.ok⟩
theorem go {α β : Type} {rel : Rl α β} {w : Sl → OH → (α → OH → Prop) → QX → Prop} {Qd : α → OH → Prop} {Q : β → Hp → Prop} (s : Nw L σ H ρ sl oh Y) (h : w sl oh Qd Ed) (hx : Exq L σ H ρ oh Y Ed)
    (k : ∀ r oh' v H' ρ', Qd r oh' → Nw L σ H' ρ' sl oh' Y → Stp H ρ oh H' ρ' oh' → rel H' ρ' oh' Y v r → Exq L σ H' ρ' oh' Y Ed → Q v H') : Lf L rel w σ H Q :=
  ⟨ρ, sl, oh, Y, Qd, Ed, s, h, fun r oh' v H' ρ' q ok st vr => k r oh' v H' ρ' q (s.step ok st) st vr (hx.step st), hx⟩
def rV (K : PySem.W.Frag) : Rl Vl V := fun H ρ oh Y v r => VR K H ρ oh Y v r
def rD (K : PySem.W.Frag) : Rl D V := fun H ρ oh Y v d => Rp K H (Zn ρ oh Y) v d
def rB : Rl Bool Bool := fun _ _ _ _ b c => b = c
def rO : Rl (Option Int) (Option Int) := fun _ _ _ _ b c => b = c
inductive VRs (K : PySem.W.Frag) (H : Hp) (ρ : List Addr) (oh : OH) (Y : ZS) : List V → List Vl → Prop
  | nil : VRs K H ρ oh Y [] []
  | cons {v : V} {vs : List V} {r : Vl} {rs : List Vl} : VR K H ρ oh Y v r → VRs K H ρ oh Y vs rs → VRs K H ρ oh Y (v :: vs) (r :: rs)
def rVs (K : PySem.W.Frag) (n : Nat) : Rl (List Vl) (List V) := fun H ρ oh Y v r => VRs K H ρ oh Y v r ∧ v.length = n
def rDs (K : PySem.W.Frag) (n : Nat) : Rl (List D) (List V) := fun H ρ oh Y v d => RpAll K H (Zn ρ oh Y) v d ∧ v.length = n
theorem VRs.keep {K : PySem.W.Frag} (st : Stp H ρ oh H1 ρ1 oh1) (ok : Ok K H ρ oh Y) {vs : List V} {rs : List Vl} (h : VRs K H ρ oh Y vs rs) : VRs K H1 ρ1 oh1 Y vs rs := by
  induction h with
  | nil => exact .nil
  | cons a _ ih => exact .cons (a.keep st ok) ih
theorem VRs.length {K : PySem.W.Frag} {vs : List V} {rs : List Vl} (h : VRs K H ρ oh Y vs rs) : vs.length = rs.length := by
  induction h with
  | nil => rfl
  | cons a _ ih => simp [ih]
theorem VRs.see {K : PySem.W.Frag} (ok : Ok K H ρ oh Y) {vs : List V} {rs : List Vl} (h : VRs K H ρ oh Y vs rs) : ∀ {ds : List D}, seeAll oh rs = some ds → RpTs K H (Zn ρ oh Y) vs ds := by
  induction h with
  | nil => intro ds e; cases e; exact .nil
  | cons a _ ih =>
    intro ds e
    unfold seeAll at e
    split at e
    · rename_i d ds' e1 e2
      cases e
      exact .cons (a.rpT ok e1) (ih e2)
    · cases e
theorem last_split {α : Type} {l : List α} {n : Nat} {x : α} (e : l[n]? = some x) (hl : l.length = n + 1) : l = l.take n ++ [x] := by
  have h1 : l = l.take n ++ l.drop n := (List.take_append_drop n l).symm
  have h2 : l.drop n = [x] := by
    rw [List.drop_eq_getElem_cons (by omega)]
    have h3 : l[n]? = some l[n] := List.getElem?_eq_getElem (by omega)
    rw [h3] at e
    cases e
    rw [List.drop_eq_nil_of_le (by omega)]
  rw [h2] at h1
  exact h1
theorem norm_ok {K : PySem.W.Frag} {v : V} {r : Vl} {Q : QV} (hl : ρ.length = oh.length) (st : Stp H ρ oh H1 ρ1 oh1) (ok1 : Ok K H1 ρ1 oh1 Y) (vr : VR K H1 ρ1 oh1 Y v r) (h : norm oh.length r oh1 Q) :
    ∃ ρ2 r2 oh2, Ok K H1 ρ2 oh2 Y ∧ Stp H ρ oh H1 ρ2 oh2 ∧ VR K H1 ρ2 oh2 Y v r2 ∧ Q r2 oh2 := by
  unfold norm at h
  split at h
  · exact ⟨ρ1, _, oh1, ok1, st, vr, h⟩
  · rename_i n
    split at h
    · exact ⟨ρ1, _, oh1, ok1, st, vr, h⟩
    · obtain ⟨ob, e1, e2, q⟩ := h
      obtain ⟨a, rfl, ea⟩ := vr
      have s1 := last_split e1 e2
      have s2 := last_split ea (by rw [ok1.len]; exact e2)
      have hln : (ρ1.take n).length = (oh1.take n).length := by simp [ok1.len]
      rw [s1, s2] at ok1 st
      obtain ⟨o2, rp⟩ := ok1.pop hln
      refine ⟨ρ1.take n, .d ob.dat, oh1.take n, o2, st.pop hln ?_, rp, q⟩
      simp; have := lt_get ea; omega
  · exact ⟨ρ1, _, oh1, ok1, st, vr, h⟩
theorem frz_dat {oh : OH} : ∀ {ns : List Nat} {n : Nat} {ob : OO}, oh[n]? = some ob → ∃ ob', (frzAll oh ns)[n]? = some ob' ∧ ob'.dat = ob.dat
  | [], n, ob, e => ⟨ob, e, rfl⟩
  | m :: ns, n, ob, e => by
    obtain ⟨ob', e1, e2⟩ := frz_dat (ns := ns) e
    unfold frzAll
    cases em : oh[m]? with
    | none => exact ⟨ob', e1, e2⟩
    | some om =>
      by_cases q : m = n
      · subst q
        rw [e] at em
        cases em
        exact ⟨.frz ob.dat, by simp only; rw [List.getElem?_set_self (lt_get e1)], rfl⟩
      · exact ⟨ob', by simp only; rw [List.getElem?_set_ne q]; exact e1, e2⟩
/-- all objects of a list are frozen -/
theorem frz_ok {K : PySem.W.Frag} (ok : Ok K H ρ oh Y) : ∀ {ns : List Nat} {as : List Addr} {ds : List D}, seeL oh ns = some ds → as.length = ns.length → (∀ (k n : Nat), ns[k]? = some n → ∃ b, as[k]? = some b ∧ ρ[n]? = some b) →
    Ok K H ρ (frzAll oh ns) Y ∧ Stp H ρ oh H ρ (frzAll oh ns) ∧ RpAll K H (Zn ρ (frzAll oh ns) Y) (as.map V.ref) ds
  | [], as, ds, e, hl, _ => by
    cases as with
    | nil => cases e; exact ⟨ok, Stp.refl, .nil⟩
    | cons => simp at hl
  | n :: ns, as, ds, e, hl, ha => by
    cases as with
    | nil => simp at hl
    | cons a as =>
      unfold seeL at e
      split at e
      · rename_i ob ds' e1 e2
        cases e
        obtain ⟨ok1, st1, rp1⟩ := frz_ok ok (ns := ns) (as := as) e2 (by simpa using hl) fun k m h => by simpa using ha (k + 1) m (by simpa using h)
        obtain ⟨b, eb, er⟩ := ha 0 n (by simp)
        have eb : a = b := by simpa using eb
        subst eb
        obtain ⟨ob', e3, e4⟩ := frz_dat (ns := ns) e1
        obtain ⟨ok2, st2⟩ := ok1.freeze e3
        rw [e4] at ok2 st2
        have ef : frzAll oh (n :: ns) = (frzAll oh ns).set n (.frz ob.dat) := by simp only [frzAll, e1]
        rw [ef]
        have e5 : ((frzAll oh ns).set n (.frz ob.dat))[n]? = some (.frz ob.dat) := by rw [List.getElem?_set_self (lt_get e3)]
        exact ⟨ok2, st1.trans st2, .cons (ok2.at_ n _ a e5 er) (rp1.keep (st2.kp ok1))⟩
      · cases e
theorem store_okD {K : PySem.W.Frag} {v : V} {r : Vl} {Q : D → OH → Prop} (hl : ρ.length = oh.length) (st : Stp H ρ oh H1 ρ1 oh1) (ok1 : Ok K H1 ρ1 oh1 Y) (vr : VR K H1 ρ1 oh1 Y v r) (h : store oh.length r oh1 Q) :
    ∃ ρ2 d oh2, Ok K H1 ρ2 oh2 Y ∧ Stp H ρ oh H1 ρ2 oh2 ∧ Rp K H1 (Zn ρ2 oh2 Y) v d ∧ Q d oh2 := by
  unfold store at h
  split at h
  · exact ⟨ρ1, _, oh1, ok1, st, vr, h⟩
  · rename_i n
    obtain ⟨ob, e1, h⟩ := h
    obtain ⟨a, rfl, ea⟩ := vr
    split at h
    · obtain ⟨o2, st2⟩ := ok1.freeze e1
      have hn := lt_get e1
      have e3 : (oh1.set n (.frz ob.dat))[n]? = some (.frz ob.dat) := by simp [hn]
      exact ⟨ρ1, _, _, o2, st.trans st2, o2.at_ n _ a e3 ea, h⟩
    · obtain ⟨e2, q⟩ := h
      have s1 := last_split e1 e2
      have s2 := last_split ea (by rw [ok1.len]; exact e2)
      have hln : (ρ1.take n).length = (oh1.take n).length := by simp [ok1.len]
      rw [s1, s2] at ok1 st
      obtain ⟨o2, rp⟩ := ok1.pop hln
      refine ⟨ρ1.take n, ob.dat, oh1.take n, o2, st.pop hln ?_, rp, q⟩
      simp; have := lt_get ea; omega
  · obtain ⟨ds, e1, q⟩ := h
    obtain ⟨a, rfl, as, h1, h2, h3, h4⟩ := vr
    obtain ⟨ok2, st2, rp⟩ := frz_ok ok1 e1 h3 h4
    exact ⟨ρ1, _, _, ok2, st.trans st2, .lst ⟨(st2.kp ok1).nz _ _ h1.1 h1.2, h1.2⟩ (by rw [List.length_map]; exact h2) rp, q⟩
theorem seeL_some {K : PySem.W.Frag} (ok : Ok K H ρ oh Y) : ∀ {ns : List Nat} {as : List Addr}, as.length = ns.length → (∀ (k n : Nat), ns[k]? = some n → ∃ b, as[k]? = some b ∧ ρ[n]? = some b) → ∃ ds, seeL oh ns = some ds ∧ RpAll K H Z0 (as.map V.ref) ds
  | [], as, hl, _ => by
    cases as with
    | nil => exact ⟨[], rfl, .nil⟩
    | cons => simp at hl
  | n :: ns, as, hl, ha => by
    cases as with
    | nil => simp at hl
    | cons a as =>
      obtain ⟨ds, e1, r1⟩ := seeL_some ok (ns := ns) (as := as) (by simpa using hl) fun k m h => by simpa using ha (k + 1) m (by simpa using h)
      obtain ⟨b, eb, er⟩ := ha 0 n (by simp)
      have eb : a = b := by simpa using eb
      subst eb
      have hn : n < oh.length := by rw [← ok.len]; exact lt_get er
      have eo := List.getElem?_eq_getElem hn
      refine ⟨oh[n].dat :: ds, by simp only [seeL, eo, e1], .cons (ok.at_ n _ a eo er).rp r1⟩
theorem VR.l0 {K : PySem.W.Frag} (ok : Ok K H ρ oh Y) {v : V} {ns : List Nat} (h : VR K H ρ oh Y v (.l ns)) : ∃ ds, seeL oh ns = some ds ∧ ds.length = ns.length ∧ Rp K H Z0 v (.list ds) := by
  obtain ⟨a, rfl, as, h1, h2, h3, h4⟩ := h
  obtain ⟨ds, e, r⟩ := seeL_some ok h3 h4
  have := r.length
  rw [List.length_map] at this
  exact ⟨ds, e, by omega, .lst ⟨fun z => z, h1.2⟩ (by rw [List.length_map]; exact h2) r⟩
abbrev WEt := Sl → OH → QV → QX → Prop
def wN (w : WEt) : WEt := fun sl oh Q E => w sl oh (fun r oh1 => norm oh.length r oh1 Q) E
def wD (w : WEt) : Sl → OH → (D → OH → Prop) → QX → Prop := fun sl oh Q E => w sl oh (fun r oh1 => store oh.length r oh1 Q) E
theorem Lf.norm {w : WEt} {Q : VK} (h : Lf L (rV L.K) (wN w) σ H Q) : Lf L (rV L.K) w σ H Q := by
  obtain ⟨ρ, sl, oh, Y, Qd, Ed, s, h, hq, hx⟩ := h
  refine ⟨ρ, sl, oh, Y, _, Ed, s, h, fun r oh' v H' ρ' q ok st vr => ?_, hx⟩
  obtain ⟨ρ2, r2, oh2, ok2, st2, vr2, q2⟩ := norm_ok s.ok.len st ok vr q
  exact hq r2 oh2 v H' ρ2 q2 ok2 st2 vr2
theorem Lf.store {w : WEt} {Q : VK} (h : Lf L (rD L.K) (wD w) σ H Q) : Lf L (rV L.K) w σ H Q := by
  obtain ⟨ρ, sl, oh, Y, Qd, Ed, s, h, hq, hx⟩ := h
  refine ⟨ρ, sl, oh, Y, _, Ed, s, h, fun r oh' v H' ρ' q ok st vr => ?_, hx⟩
  obtain ⟨ρ2, r2, oh2, ok2, st2, vr2, q2⟩ := store_okD s.ok.len st ok vr q
  exact hq r2 oh2 v H' ρ2 q2 ok2 st2 vr2
end
theorem _root_.L2.PE.imp {X : Cx} {e : Expr} {t t' : TE} (h : PE X e t) (hi : ∀ σ H Q, t' σ H Q → t σ H Q) : PE X e t' := ⟨fun pins s σ H Q I q => h.run pins s σ H Q I (hi σ H Q q)⟩
theorem _root_.L2.PT.imp {X : Cx} {e : Expr} {t t' : TT} (h : PT X e t) (hi : ∀ σ H Q, t' σ H Q → t σ H Q) : PT X e t' := ⟨fun pins s σ H Q I q => h.run pins s σ H Q I (hi σ H Q q)⟩
theorem _root_.L2.PW.imp {X : Cx} {e : Expr} {t t' : TT} (h : PW X e t) (hi : ∀ σ H Q, t' σ H Q → t σ H Q) : PW X e t' := ⟨fun wh pins s σ H Q I q => h.run wh pins s σ H Q I (hi σ H Q q)⟩
theorem _root_.L2.PA.imp {X : Cx} {e : List Expr} {t t' : TA} (h : PA X e t) (hi : ∀ σ H Q, t' σ H Q → t σ H Q) : PA X e t' := ⟨fun pos pins s σ H Q I q => h.run pos pins s σ H Q I (hi σ H Q q)⟩
theorem _root_.L2.PO.imp {X : Cx} {e : Option Expr} {t t' : TO} (h : PO X e t) (hi : ∀ σ H Q, t' σ H Q → t σ H Q) : PO X e t' := ⟨fun pins s σ H Q I q => h.run pins s σ H Q I (hi σ H Q q)⟩
theorem _root_.L2.PI.imp {X : Cx} {tg e : Expr} {t t' : TI} (h : PI X tg e t) (hi : ∀ σ H Q, t' σ H Q → t σ H Q) : PI X tg e t' := ⟨fun pins s σ H Q I q => h.run pins s σ H Q I (hi σ H Q q)⟩
theorem _root_.L2.PS.imp {X : Cx} {e : Stmt} {t t' : TS} (h : PS X e t) (hi : ∀ D σ H, t' D σ H → t D σ H) : PS X e t' := ⟨fun pins s σ H D I q => h.run pins s σ H D I (hi D σ H q)⟩
theorem _root_.L2.PSs.imp {X : Cx} {e : List Stmt} {t t' : TS} (h : PSs X e t) (hi : ∀ D σ H, t' D σ H → t D σ H) : PSs X e t' := ⟨fun pins s σ H D I q => h.run pins s σ H D I (hi D σ H q)⟩
abbrev LE (L : Lc) (w : WEt) : TE := Lf L (rV L.K) w
abbrev LT (L : Lc) (w : Sl → OH → (Bool → OH → Prop) → QX → Prop) : TT := Lf L rB w
abbrev LNs (L : Lc) (n : Nat) (w : Sl → OH → (List Vl → OH → Prop) → QX → Prop) : TA := Lf L (rVs L.K n) w
abbrev LAs (L : Lc) (n : Nat) (w : Sl → OH → (List D → OH → Prop) → QX → Prop) : TA := Lf L (rDs L.K n) w
section
variable {X : Cx} {L : Lc} {Γ : Gv} {e e1 e2 : Expr} {es : List Expr} {pos : Pos} {w w1 w2 : WEt}
theorem ke_norm (h : PE X e (LE L w)) : PE X e (LE L (wN w)) := h.imp fun _ _ _ q => q.norm
theorem ke_store (h : PE X e (LE L w)) : PE X e (Lf L (rD L.K) (wD w)) := h.imp fun _ _ _ q => q.store
/-! expressions -/
theorem ke_var {i : Nat} {x : Str} (hN : X.N[i]? = some x) (hv : Vis X.env.scope x) (hd : (x == ("__debug__" : Str)) = false) (hcd : (x == ("__classdict__" : Str)) = false) : PE X (.Name x pos) (LE L (wE Γ (.var i))) :=
  (pe_var hN hv hd hcd).imp fun σ H Q h => by
    obtain ⟨ρ, sl, oh, Y, Qd, Ed, s, h, hq, hx⟩ := h
    simp only [wE] at h
    obtain ⟨r, e, q⟩ := h
    obtain ⟨v, e1, vr⟩ := s.sr.2 i r e
    exact ⟨v, e1, hq _ _ _ _ _ q s.ok Stp.refl vr⟩
theorem ke_con {v : V} {d : D} (h : PE X e (tC v)) (r : ∀ K H Z, Rp K H Z v d) : PE X e (LE L (wE Γ (.cst d))) :=
  h.imp fun σ H Q h => by
    obtain ⟨ρ, sl, oh, Y, Qd, Ed, s, h, hq, hx⟩ := h
    simp only [wE] at h
    exact hq _ _ _ _ _ h s.ok Stp.refl (r _ _ _)
theorem ke_glo {v : V} {x : Str} {d : D} (h : PE X e (tC v)) (r : ∀ H Z, Rp L.K H Z v d) (hd : Γ.glo x = some d) : PE X e (LE L (wE Γ (.glo x))) :=
  h.imp fun σ H Q h => by
    obtain ⟨ρ, sl, oh, Y, Qd, Ed, s, h, hq, hx⟩ := h
    simp only [wE] at h
    obtain ⟨d', e, q⟩ := h
    rw [hd] at e
    cases e
    exact hq _ _ _ _ _ q s.ok Stp.refl (r _ _)
theorem ke_bin {op : Operator} {a b : CE} (hK : L.K = X.K) (ha : PE X e1 (LE L (wE Γ a))) (hb : PE X e2 (LE L (wE Γ b))) : PE X (.BinOp e1 op e2 pos) (LE L (wE Γ (.bin op a b))) :=
  (pe_op (op_bin op) (ke_norm ha) (ke_norm hb)).imp fun σ H Q h => by
    obtain ⟨ρ, sl, oh, Y, Qd, Ed, s, h, hq, hx⟩ := h
    simp only [wE] at h
    refine go s h hx fun r oh1 v H1 ρ1 q s1 st1 vr hx1 => go s1 q hx1 fun r2 oh2 v2 H2 ρ2 q s2 st2 vr2 hx2 => ?_
    obtain ⟨da, db, rr, e1, e2, e3, f⟩ := q
    rw [← hK]
    exact ⟨_, da, db, rr, VR.rpT s2.ok (vr.keep st2 s1.ok) e1, VR.rpT s2.ok vr2 e2, s2.ok.dom, e3, fin_ok s2.ok f fun v rr oh' H' ρ' ok' st' vr' q => hq _ _ _ _ _ q ok' ((st1.trans st2).trans st') vr'⟩
theorem ke_neg {a : CE} (ha : PE X e1 (LE L (wE Γ a))) : PE X (.UnaryOp .USub e1 pos) (LE L (wE Γ (.neg a))) :=
  (pe_un un_neg ha).imp fun σ H Q h => by
    obtain ⟨ρ, sl, oh, Y, Qd, Ed, s, h, hq, hx⟩ := h
    simp only [wE] at h
    refine go s h hx fun r oh1 v H1 ρ1 q s1 st1 vr hx1 => ?_
    obtain ⟨i, rfl, q⟩ := q
    cases vr
    exact ⟨i, rfl, hq _ _ _ _ _ q s1.ok st1 (Rp.int _)⟩
theorem ke_cmp {op : CmpOp} {a b : CE} (hK : L.K = X.K) (hu : X.A.units + 65 < cLine) (hm : behindInMarks op e2 = false) (ha : PE X e1 (LE L (wE Γ a))) (hb : PE X e2 (LE L (wE Γ b))) : PE X (.Compare e1 [op] [e2] pos) (LE L (wE Γ (.cmp op a b))) :=
  (pe_cmpR (op_cmp hu op) (ke_norm ha) (ke_norm hb) hm).imp fun σ H Q h => by
    obtain ⟨ρ, sl, oh, Y, Qd, Ed, s, h, hq, hx⟩ := h
    simp only [wE] at h
    refine go s h hx fun r oh1 v H1 ρ1 q s1 st1 vr hx1 => go s1 q hx1 fun r2 oh2 v2 H2 ρ2 q s2 st2 vr2 hx2 => ?_
    obtain ⟨da, db, c, e1, e2, e3, f⟩ := q
    rw [← hK]
    exact ⟨_, da, db, c, VR.rpT s2.ok (vr.keep st2 s1.ok) e1, VR.rpT s2.ok vr2 e2, e3, hq _ _ _ _ _ f s2.ok (st1.trans st2) (Rp.bl _)⟩
theorem kt_cmp {op : CmpOp} {a b : CE} (hK : L.K = X.K) (hu : X.A.units + 65 < cLine) (hm : behindInMarks op e2 = false) (ha : PE X e1 (LE L (wE Γ a))) (hb : PE X e2 (LE L (wE Γ b))) : PT X (.Compare e1 [op] [e2] pos) (LT L (wT Γ (.val (.cmp op a b)))) :=
  (pt_cmpR (op_cmp hu op) (ke_norm ha) (ke_norm hb) hm).imp fun σ H Q h => by
    obtain ⟨ρ, sl, oh, Y, Qd, Ed, s, h, hq, hx⟩ := h
    simp only [wT, wE] at h
    refine go s h hx fun r oh1 v H1 ρ1 q s1 st1 vr hx1 => go s1 q hx1 fun r2 oh2 v2 H2 ρ2 q s2 st2 vr2 hx2 => ?_
    obtain ⟨da, db, c, e1, e2, e3, f⟩ := q
    obtain ⟨d, b, e4, e5, f⟩ := f
    cases e4
    cases e5
    rw [← hK]
    exact ⟨_, da, db, c, VR.rpT s2.ok (vr.keep st2 s1.ok) e1, VR.rpT s2.ok vr2 e2, e3, c, rfl, hq _ _ _ _ _ f s2.ok (st1.trans st2) rfl⟩
theorem ke_and {a b : CE} {rest : List Expr} (ha : PE X e1 (LE L (wE Γ a))) (hb : PE X (.BoolOp .And (e2 :: rest) pos) (LE L (wE Γ b))) : PE X (.BoolOp .And (e1 :: e2 :: rest) pos) (LE L (wE Γ (.and a b))) :=
  (pe_and ha hb).imp fun σ H Q h => by
    obtain ⟨ρ, sl, oh, Y, Qd, Ed, s, h, hq, hx⟩ := h
    simp only [wE] at h
    refine go s h hx fun r oh1 v H1 ρ1 q s1 st1 vr hx1 => ?_
    obtain ⟨c, rfl, q⟩ := q
    cases vr
    refine ⟨c, rfl, ?_⟩
    cases c with
    | true => exact go s1 (by simpa using q) hx1 fun r oh2 v H2 ρ2 q s2 st2 vr hx2 => hq _ _ _ _ _ q s2.ok (st1.trans st2) vr
    | false => exact hq (.d (.bool false)) _ _ _ _ (by simpa using q) s1.ok st1 (Rp.bl _)
theorem ke_or {a b : CE} {rest : List Expr} (ha : PE X e1 (LE L (wE Γ a))) (hb : PE X (.BoolOp .Or (e2 :: rest) pos) (LE L (wE Γ b))) : PE X (.BoolOp .Or (e1 :: e2 :: rest) pos) (LE L (wE Γ (.or a b))) :=
  (pe_or ha hb).imp fun σ H Q h => by
    obtain ⟨ρ, sl, oh, Y, Qd, Ed, s, h, hq, hx⟩ := h
    simp only [wE] at h
    refine go s h hx fun r oh1 v H1 ρ1 q s1 st1 vr hx1 => ?_
    obtain ⟨c, rfl, q⟩ := q
    cases vr
    refine ⟨c, rfl, ?_⟩
    cases c with
    | false => exact go s1 (by simpa using q) hx1 fun r oh2 v H2 ρ2 q s2 st2 vr hx2 => hq _ _ _ _ _ q s2.ok (st1.trans st2) vr
    | true => exact hq (.d (.bool true)) _ _ _ _ (by simpa using q) s1.ok st1 (Rp.bl _)
theorem ke_not {a : CE} (ha : PE X e1 (LE L (wE Γ a))) : PE X (.UnaryOp .Not e1 pos) (LE L (wE Γ (.not a))) :=
  (pe_not ha).imp fun σ H Q h => by
    obtain ⟨ρ, sl, oh, Y, Qd, Ed, s, h, hq, hx⟩ := h
    simp only [wE] at h
    refine go s h hx fun r oh1 v H1 ρ1 q s1 st1 vr hx1 => ?_
    obtain ⟨c, rfl, q⟩ := q
    cases vr
    exact ⟨c, rfl, hq _ _ _ _ _ q s1.ok st1 (Rp.bl _)⟩
theorem ke_ite {c : CT} {a b : CE} {ec : Expr} (hc : PT X ec (LT L (wT Γ c))) (ha : PE X e1 (LE L (wE Γ a))) (hb : PE X e2 (LE L (wE Γ b))) : PE X (.IfExp ec e1 e2 pos) (LE L (wE Γ (.ite c a b))) :=
  (pe_ifExp hc ha hb).imp fun σ H Q h => by
    obtain ⟨ρ, sl, oh, Y, Qd, Ed, s, h, hq, hx⟩ := h
    simp only [wE] at h
    refine go s h hx fun r oh1 v H1 ρ1 q s1 st1 vr hx1 => ?_
    cases (show v = r from vr)
    cases r with
    | true => exact go s1 (by simpa using q) hx1 fun r oh2 v H2 ρ2 q s2 st2 vr hx2 => hq _ _ _ _ _ q s2.ok (st1.trans st2) vr
    | false => exact go s1 (by simpa using q) hx1 fun r oh2 v H2 ρ2 q s2 st2 vr hx2 => hq _ _ _ _ _ q s2.ok (st1.trans st2) vr
/-! tests -/
theorem kt_val {c : CE} (hK : L.K = X.K) (h : PE X e (LE L (wE Γ c))) (he : ∀ whole, isTrue e X.env whole = (do let v ← whole; standAt e.pos; holding [v] (truthy v))) : PT X e (LT L (wT Γ (.val c))) :=
  (pt_truth (ke_norm h) he).imp fun σ H Q h => by
    obtain ⟨ρ, sl, oh, Y, Qd, Ed, s, h, hq, hx⟩ := h
    simp only [wT] at h
    refine go s h hx fun r oh1 v H1 ρ1 q s1 st1 vr hx1 => ?_
    obtain ⟨d, b, e1, e2, q⟩ := q
    rw [← hK]
    exact ⟨b, tru_V (VR.rpT s1.ok vr e1) e2, hq _ _ _ _ _ q s1.ok st1 rfl⟩
theorem kt_not {a : CT} (ha : PT X e1 (LT L (wT Γ a))) : PT X (.UnaryOp .Not e1 pos) (LT L (wT Γ (.not a))) :=
  (pt_not ha).imp fun σ H Q h => by
    obtain ⟨ρ, sl, oh, Y, Qd, Ed, s, h, hq, hx⟩ := h
    simp only [wT] at h
    refine go s h hx fun r oh1 v H1 ρ1 q s1 st1 vr hx1 => ?_
    cases (show v = r from vr)
    exact hq _ _ _ _ _ q s1.ok st1 rfl
theorem kw_and {a b : CT} {rest : List Expr} (ha : PT X e1 (LT L (wT Γ a))) (hb : PW X (.BoolOp .And (e2 :: rest) pos) (LT L (wT Γ b))) : PW X (.BoolOp .And (e1 :: e2 :: rest) pos) (LT L (wT Γ (.and a b))) :=
  (pw_and ha hb).imp fun σ H Q h => by
    obtain ⟨ρ, sl, oh, Y, Qd, Ed, s, h, hq, hx⟩ := h
    simp only [wT] at h
    refine go s h hx fun r oh1 v H1 ρ1 q s1 st1 vr hx1 => ?_
    cases (show v = r from vr)
    cases r with
    | true => exact go s1 (by simpa using q) hx1 fun r oh2 v H2 ρ2 q s2 st2 vr hx2 => hq _ _ _ _ _ q s2.ok (st1.trans st2) vr
    | false => exact hq false _ _ _ _ (by simpa using q) s1.ok st1 rfl
theorem kw_or {a b : CT} {rest : List Expr} (ha : PT X e1 (LT L (wT Γ a))) (hb : PW X (.BoolOp .Or (e2 :: rest) pos) (LT L (wT Γ b))) : PW X (.BoolOp .Or (e1 :: e2 :: rest) pos) (LT L (wT Γ (.or a b))) :=
  (pw_or ha hb).imp fun σ H Q h => by
    obtain ⟨ρ, sl, oh, Y, Qd, Ed, s, h, hq, hx⟩ := h
    simp only [wT] at h
    refine go s h hx fun r oh1 v H1 ρ1 q s1 st1 vr hx1 => ?_
    cases (show v = r from vr)
    cases r with
    | false => exact go s1 (by simpa using q) hx1 fun r oh2 v H2 ρ2 q s2 st2 vr hx2 => hq _ _ _ _ _ q s2.ok (st1.trans st2) vr
    | true => exact hq true _ _ _ _ (by simpa using q) s1.ok st1 rfl
/-! argument lists -/
theorem ka_nil : PA X [] (LNs L 0 (wNs Γ .nil)) := pa_nil.imp fun σ H Q h => by
    obtain ⟨ρ, sl, oh, Y, Qd, Ed, s, h, hq, hx⟩ := h
    simp only [wNs] at h
    exact hq _ _ _ _ _ h s.ok Stp.refl ⟨.nil, rfl⟩
theorem ka_cons {a : CE} {as : CA} (hs : starEach (e :: es) X.env = (false, eval e X.env) :: starEach es X.env) (ha : PE X e (LE L (wE Γ a))) (hr : PA X es (LNs L es.length (wNs Γ as))) : PA X (e :: es) (LNs L (e :: es).length (wNs Γ (.cons a as))) :=
  (pa_cons (ke_norm ha) hr hs).imp fun σ H Q h => by
    obtain ⟨ρ, sl, oh, Y, Qd, Ed, s, h, hq, hx⟩ := h
    simp only [wNs] at h
    exact go s h hx fun r oh1 v H1 ρ1 q s1 st1 vr hx1 => go s1 q hx1 fun r2 oh2 v2 H2 ρ2 q s2 st2 vr2 hx2 => hq _ _ _ _ _ q s2.ok (st1.trans st2) ⟨.cons (vr.keep st2 s1.ok) vr2.1, by simp [vr2.2]⟩
theorem kd_nil : PA X [] (LAs L 0 (wAs Γ .nil)) := pa_nil.imp fun σ H Q h => by
    obtain ⟨ρ, sl, oh, Y, Qd, Ed, s, h, hq, hx⟩ := h
    simp only [wAs] at h
    exact hq _ _ _ _ _ h s.ok Stp.refl ⟨.nil, rfl⟩
theorem kd_cons {a : CE} {as : CA} (hs : starEach (e :: es) X.env = (false, eval e X.env) :: starEach es X.env) (ha : PE X e (LE L (wE Γ a))) (hr : PA X es (LAs L es.length (wAs Γ as))) : PA X (e :: es) (LAs L (e :: es).length (wAs Γ (.cons a as))) :=
  (pa_cons (ke_store ha) hr hs).imp fun σ H Q h => by
    obtain ⟨ρ, sl, oh, Y, Qd, Ed, s, h, hq, hx⟩ := h
    simp only [wAs] at h
    exact go (rel := rD L.K) s h hx fun r oh1 v H1 ρ1 q s1 st1 vr hx1 => go s1 q hx1 fun r2 oh2 v2 H2 ρ2 q s2 st2 vr2 hx2 => hq _ _ _ _ _ q s2.ok (st1.trans st2) ⟨.cons (Rp.keep (st2.kp s1.ok) vr) vr2.1, by simp [vr2.2]⟩
theorem ka_own {a : CE} {as : CA} (hs : starEach (e :: es) X.env = (false, eval e X.env) :: starEach es X.env) (ha : PE X e (LE L (wE Γ a))) (hr : PA X es (LNs L es.length (wNs Γ as))) : PA X (e :: es) (LNs L (e :: es).length (wNs Γ (.own a as))) :=
  (pa_cons ha hr hs).imp fun σ H Q h => by
    obtain ⟨ρ, sl, oh, Y, Qd, Ed, s, h, hq, hx⟩ := h
    simp only [wNs] at h
    exact go s h hx fun r oh1 v H1 ρ1 q s1 st1 vr hx1 => go s1 q hx1 fun r2 oh2 v2 H2 ρ2 q s2 st2 vr2 hx2 => hq _ _ _ _ _ q s2.ok (st1.trans st2) ⟨.cons (vr.keep st2 s1.ok) vr2.1, by simp [vr2.2]⟩
theorem ke_frz {c : CE} (h : PE X e (LE L (wE Γ c))) : PE X e (LE L (wE Γ (.frz c))) :=
  (ke_store h).imp fun σ H Q h => by
    obtain ⟨ρ, sl, oh, Y, Qd, Ed, s, h, hq, hx⟩ := h
    simp only [wE] at h
    exact go (w := wD (wE Γ c)) s h hx fun d oh1 v H1 ρ1 q s1 st1 rv hx1 => hq (.d d) _ _ _ _ q s1.ok st1 rv
theorem ke_srtS {c : CE} {p p2 q : Pos} (hK : L.K = X.K) (hc : X.calm = true) (hu : X.A.units + 70 < cLine) (hg : Gl X "sorted") (hm : X.mg "sorted" = none) (hg2 : Gl X "set") (hm2 : X.mg "set" = none) (h : PE X e (LE L (wE Γ c)))
    (hs : starEach [e] X.env = (false, eval e X.env) :: starEach [] X.env) : PE X (.Call (.Name "sorted" p) [.Call (.Name "set" p2) [e] [] q] [] pos) (LE L (wE Γ (.srtS c))) :=
  (pe_srtS hc hu hg hm hg2 hm2 (ke_norm h) hs).imp fun σ H Q h => by
    obtain ⟨ρ, sl, oh, Y, Qd, Ed, s, h, hq, hx⟩ := h
    simp only [wE] at h
    refine go s h hx fun r oh1 v H1 ρ1 q s1 st1 vr hx1 => ?_
    obtain ⟨d, ds, e1, e2, q⟩ := q
    rw [← hK]
    exact ⟨_, d, ds, VR.rpT s1.ok vr e1, s1.ok.dom, e2, fin_ok (r := .fr (.lst ds)) s1.ok ⟨rfl, q⟩ fun v rr oh' H' ρ' ok' st' vr' q => hq _ _ _ _ _ q ok' (st1.trans st') vr'⟩
theorem ke_srtK {c : CE} {p q k1 k2 p2 : Pos} {j : Nat} (rv : Bool) (hK : L.K = X.K) (hc : X.calm = true) (hu : X.A.units + 70 < cLine) (hg : Gl X "sorted") (hm : X.mg "sorted" = none) (hgl : Gl X "len") (hml : X.mg "len" = none) (h : PE X e (LE L (wE Γ c)))
    (hs : starEach [e] X.env = (false, eval e X.env) :: starEach [] X.env) : PE X (.Call (.Name "sorted" p) [e] (kwsLen rv q k1 k2 p2 j) pos) (LE L (wE Γ (.srtK rv c))) :=
  (pe_srtK rv hc hu hg hm hgl hml (ke_norm h) hs).imp fun σ H Q h => by
    obtain ⟨ρ, sl, oh, Y, Qd, Ed, s, h, hq, hx⟩ := h
    simp only [wE] at h
    refine go s h hx fun r oh1 v H1 ρ1 q s1 st1 vr hx1 => ?_
    obtain ⟨d, ds, e1, e2, q⟩ := q
    rw [← hK]
    exact ⟨_, d, ds, VR.rpT s1.ok vr e1, s1.ok.dom, e2, fin_ok (r := .fr (.lst ds)) s1.ok ⟨rfl, q⟩ fun v rr oh' H' ρ' ok' st' vr' q => hq _ _ _ _ _ q ok' (st1.trans st') vr'⟩
end
end Kd

namespace Kd
open PySem PySem.Spec PyProof.Rows L2
def spOf (K : PySem.W.Frag) (xr : Exn → Value → Option Addr → Prop) (n : Nat) (S : FSpec) : Sp := fun vs H Q E => vs.length = n ∧ ∃ ρ oh Y rs Qd Ed, Ok K H ρ oh Y ∧ VRs K H ρ oh Y vs rs ∧ S rs oh Qd Ed ∧
  (∀ r oh' v H' ρ', Qd r oh' → Ok K H' ρ' oh' Y → Stp H ρ oh H' ρ' oh' → VR K H' ρ' oh' Y v r → Q v H') ∧ (∀ x oh' cls d H' ρ', Ed x oh' → Ok K H' ρ' oh' Y → Stp H ρ oh H' ρ' oh' → xr x cls d → E cls d H')
section
variable {X : Cx} {L : Lc} {Γ : Gv} {e e1 e2 : Expr} {es : List Expr} {pos p : Pos}
theorem ke_chn {o1 o2 : CmpOp} {e3 : Expr} {a b c : CE} (hK : L.K = X.K) (hu : X.A.units + 65 < cLine) (hm : lastMarks [o1, o2] [e2, e3] = false) (ha : PE X e1 (LE L (wE Γ a))) (hb : PE X e2 (LE L (wE Γ b))) (hc : PE X e3 (LE L (wE Γ c))) :
    PE X (.Compare e1 [o1, o2] [e2, e3] pos) (LE L (wE Γ (.chn o1 o2 a b c))) :=
  (pe_chain (op_cmp hu o1) (op_cmp hu o2) (ke_norm ha) (ke_norm hb) (ke_norm hc) hm).imp fun σ H Q h => by
    obtain ⟨ρ, sl, oh, Y, Qd, Ed, s, h, hq, hx⟩ := h
    simp only [wE] at h
    refine go s h hx fun r oh1 v H1 ρ1 q s1 st1 vr hx1 => go s1 q hx1 fun r2 oh2 v2 H2 ρ2 q s2 st2 vr2 hx2 => ?_
    obtain ⟨da, db, k, e1, e2, e3, q⟩ := q
    rw [← hK]
    refine ⟨_, da, db, k, VR.rpT s2.ok (vr.keep st2 s1.ok) e1, VR.rpT s2.ok vr2 e2, e3, k, rfl, ?_⟩
    cases k with
    | false => exact hq (.d (.bool false)) _ _ _ _ (by simpa using q) s2.ok (st1.trans st2) (Rp.bl _)
    | true =>
      rw [if_pos rfl] at q
      refine go s2 q hx2 fun r3 oh3 v3 H3 ρ3 q s3 st3 vr3 hx3 => ?_
      obtain ⟨db, dc, k, e1, e2, e3, q⟩ := q
      exact ⟨_, db, dc, k, VR.rpT s3.ok (vr2.keep st3 s2.ok) e1, VR.rpT s3.ok vr3 e2, e3, hq _ _ _ _ _ q s3.ok ((st1.trans st2).trans st3) (Rp.bl _)⟩
theorem kt_chn {o1 o2 : CmpOp} {e3 : Expr} {a b c : CE} (hK : L.K = X.K) (hu : X.A.units + 65 < cLine) (hm : lastMarks [o1, o2] [e2, e3] = false) (ha : PE X e1 (LE L (wE Γ a))) (hb : PE X e2 (LE L (wE Γ b))) (hc : PE X e3 (LE L (wE Γ c))) :
    PT X (.Compare e1 [o1, o2] [e2, e3] pos) (LT L (wT Γ (.val (.chn o1 o2 a b c)))) :=
  (pt_chain (op_cmp hu o1) (op_cmp hu o2) (ke_norm ha) (ke_norm hb) (ke_norm hc) hm).imp fun σ H Q h => by
    obtain ⟨ρ, sl, oh, Y, Qd, Ed, s, h, hq, hx⟩ := h
    simp only [wT, wE] at h
    refine go s h hx fun r oh1 v H1 ρ1 q s1 st1 vr hx1 => go s1 q hx1 fun r2 oh2 v2 H2 ρ2 q s2 st2 vr2 hx2 => ?_
    obtain ⟨da, db, k, e1, e2, e3, q⟩ := q
    rw [← hK]
    refine ⟨_, da, db, k, VR.rpT s2.ok (vr.keep st2 s1.ok) e1, VR.rpT s2.ok vr2 e2, e3, k, rfl, ?_⟩
    cases k with
    | false =>
      rw [if_neg (by decide)] at q
      obtain ⟨d, b, e4, e5, f⟩ := q
      cases e4
      cases e5
      exact ⟨false, rfl, hq _ _ _ _ _ f s2.ok (st1.trans st2) rfl⟩
    | true =>
      rw [if_pos rfl] at q
      refine go s2 q hx2 fun r3 oh3 v3 H3 ρ3 q s3 st3 vr3 hx3 => ?_
      obtain ⟨db, dc, k, e1, e2, e3, q⟩ := q
      obtain ⟨d, b, e4, e5, f⟩ := q
      cases e4
      cases e5
      exact ⟨_, db, dc, k, VR.rpT s3.ok (vr2.keep st3 s2.ok) e1, VR.rpT s3.ok vr3 e2, e3, k, rfl, hq _ _ _ _ _ f s3.ok ((st1.trans st2).trans st3) rfl⟩
theorem ke_tup {as : CA} {k : Nat} (hl : es.length ≤ sizeLine) (h : PA X es (LAs L es.length (wAs Γ as))) : PE X (.Tuple es k pos) (LE L (wE Γ (.tup as))) :=
  (pe_tup h).imp fun σ H Q h => by
    obtain ⟨ρ, sl, oh, Y, Qd, Ed, s, h, hq, hx⟩ := h
    simp only [wE] at h
    refine go s h hx fun r oh1 v H1 ρ1 q s1 st1 vr hx1 => ⟨by rw [vr.2]; exact hl, fun p hp => ?_⟩
    obtain ⟨ok2, st2⟩ := s1.ok.grow (Gr.upd (o := .tup v) hp)
    exact hq _ _ _ _ _ q ok2 (st1.trans st2) (newT s1.ok.dom hp (by rw [vr.2]; exact hl) vr.1)
theorem ke_lst {as : CA} (hl : es.length ≤ sizeLine) (h : PA X es (LAs L es.length (wAs Γ as))) : PE X (.List es pos) (LE L (wE Γ (.lst as))) :=
  (pe_lst h).imp fun σ H Q h => by
    obtain ⟨ρ, sl, oh, Y, Qd, Ed, s, h, hq, hx⟩ := h
    simp only [wE] at h
    refine go s h hx fun r oh1 v H1 ρ1 q s1 st1 vr hx1 => ⟨by rw [vr.2]; exact hl, fun p hp => ?_⟩
    obtain ⟨ok2, st2⟩ := s1.ok.allocG (p := p) (ob := .lst r) (Gr.upd (o := .lst v) hp) hp rfl (newL hp (by rw [vr.2]; exact hl) vr.1)
    exact hq _ _ _ _ _ q ok2 (st1.trans st2) ⟨p, rfl, by rw [← s1.ok.len]; simp⟩
theorem ke_dnK : PE X (.Dict [] [] pos) (LE L (wE Γ .dnK)) :=
  pe_dnewK.imp fun σ H Q h => by
    obtain ⟨ρ, sl, oh, Y, Qd, Ed, s, h, hq, hx⟩ := h
    simp only [wE] at h
    intro p hp
    obtain ⟨ok2, st2⟩ := s.ok.allocG (p := p) (ob := .dK []) (Gr.upd (o := .dK []) hp) hp rfl ⟨[], upd_same, ⟨Nat.zero_le _, fun _ h => nomatch h⟩, rfl, .nil⟩
    exact hq _ _ _ _ _ h ok2 st2 ⟨p, rfl, by rw [← s.ok.len]; simp⟩
theorem ke_dnT : PE X (.Dict [] [] pos) (LE L (wE Γ .dnT)) :=
  pe_dnewT.imp fun σ H Q h => by
    obtain ⟨ρ, sl, oh, Y, Qd, Ed, s, h, hq, hx⟩ := h
    simp only [wE] at h
    intro p hp
    obtain ⟨ok2, st2⟩ := s.ok.allocG (p := p) (ob := .dT []) (Gr.upd (o := .dT []) hp) hp rfl ⟨[], upd_same, ⟨Nat.zero_le _, fun _ h => nomatch h⟩, rfl, .nil⟩
    exact hq _ _ _ _ _ h ok2 st2 ⟨p, rfl, by rw [← s.ok.len]; simp⟩
theorem call_imp {as : CA} {f : Str} {n : Nat} {S : FSpec} (hS : Γ.fn f = some S) {σ : L2.St} {H : Hp} {Q : VK} (h : LE L (wE Γ (.call f as)) σ H Q) : tCallG (spOf L.K L.xr n S) L.W (LNs L n (wNs Γ as)) σ H Q := by
    obtain ⟨ρ, sl, oh, Y, Qd, Ed, s, h, hq, hx⟩ := h
    simp only [wE] at h
    refine go s h hx fun r oh1 v H1 ρ1 q s1 st1 vr hx1 => ?_
    obtain ⟨S', e, q⟩ := q
    rw [hS] at e
    cases e
    exact ⟨vr.2, ρ1, oh1, Y, r, Qd, Ed, s1.ok, vr.1, q, fun r oh' v H' ρ' q ok st vr => hq _ _ _ _ _ q ok (st1.trans st) vr, fun x oh' cls d H' ρ' q ok st xr => hx1 x oh' cls d H' ρ' q ok st xr⟩
theorem ke_call {f : Str} {as : CA} {S : FSpec} {k : Nat} {fa : Addr} {fd : FuncData} {ps : List Str} (hS : Γ.fn f = some S) (F : FnG X.prog X.w X.K X.mg X.base k fa fd ps (spOf L.K L.xr (e :: es).length S)) (hr : Room k X.A) (hgd : X.A.guards = some []) (hg : Gl X f)
    (hm : X.mg f = some (.ref fa)) (hk : PySem.W.keepIn X.K (.ref fa) = true) (hb : Binds X.K fd ps []) (tk : Takes X L.W) (ha : PA X (e :: es) (LNs L (e :: es).length (wNs Γ as))) (hdb : (f == ("__debug__" : Str)) = false)
    (he : starEach (e :: es) X.env = (false, eval e X.env) :: starEach es X.env) (hpl : (backTo pos (starEach es X.env)).any (·.1) = false) : PE X (.Call (.Name f p) (e :: es) [] pos) (LE L (wE Γ (.call f as))) :=
  (pe_callG F hr hgd hg hm hk hb tk ha hdb he hpl).imp fun σ H Q h => call_imp hS h
theorem ke_bi {f : Bi} {as : CA} (hK : L.K = X.K) (hc : X.calm = true) (hg : X.A.guards = some []) (hu : X.A.units + 70 < cLine) (hgl : Gl X f.nm) (hm : X.mg f.nm = none) {n : Nat} (ha : PA X (e :: es) (LNs L n (wNs Γ as)))
    (he : starEach (e :: es) X.env = (false, eval e X.env) :: starEach es X.env) (hpl : (backTo pos (starEach es X.env)).any (·.1) = false) : PE X (.Call (.Name f.nm p) (e :: es) [] pos) (LE L (wE Γ (.bi f as))) :=
  (pe_bi f hc hg hu hgl hm ha he hpl).imp fun σ H Q h => by
    obtain ⟨ρ, sl, oh, Y, Qd, Ed, s, h, hq, hx⟩ := h
    simp only [wE] at h
    refine go s h hx fun r oh1 v H1 ρ1 q s1 st1 vr hx1 => ?_
    obtain ⟨ds, rr, e1, e2, q⟩ := q
    rw [← hK]
    exact ⟨_, ds, rr, vr.1.see s1.ok e1, s1.ok.dom, e2, fin_ok s1.ok q fun v rr oh' H' ρ' ok' st' vr' q => hq _ _ _ _ _ q ok' (st1.trans st') vr'⟩
theorem ke_isi {a : CE} {t : Ty} {q : Pos} (hK : L.K = X.K) (hgl : Gl X "isinstance") (hm : X.mg "isinstance" = none) (hgt : Gl X (Str.ofString t.id)) (hmt : X.mg (Str.ofString t.id) = none) (ha : PE X e (LE L (wE Γ a)))
    (he : starEach [e, .Name (Str.ofString t.id) q] X.env = (false, eval e X.env) :: starEach [.Name (Str.ofString t.id) q] X.env) : PE X (.Call (.Name "isinstance" p) [e, .Name (Str.ofString t.id) q] [] pos) (LE L (wE Γ (.isi a t))) :=
  (pe_isi t hgl hm hgt hmt (ke_norm ha) he).imp fun σ H Q h => by
    obtain ⟨ρ, sl, oh, Y, Qd, Ed, s, h, hq, hx⟩ := h
    simp only [wE] at h
    refine go s h hx fun r oh1 v H1 ρ1 q s1 st1 vr hx1 => ?_
    obtain ⟨d, e1, e2, q⟩ := q
    rw [← hK]
    exact ⟨v, _, d, rfl, VR.rpT s1.ok vr e1, e2, hq _ _ _ _ _ q s1.ok st1 (Rp.bl _)⟩
theorem meT_ty {K : PySem.W.Frag} {H : Hp} {Z : ZS} {m : Me} {x : V} {d : D} (h : RpT K H Z x d) (e : meT m d = true) : tyV K m.T x H := by
  cases m with
  | join =>
    cases d with
    | str y => cases h; rfl
    | _ => cases e
  | index =>
    cases d with
    | str y => cases h; rfl
    | _ => cases e
theorem ke_me {o : Expr} {c : CE} {as : CA} {m : Me} {n : Nat} {apos cpos : Pos} (hK : L.K = X.K) (ho : PE X o (LE L (wE Γ c))) (ha : PA X (e :: es) (LNs L n (wNs Γ as)))
    (hbase : attributeBase o m.nm X.env (eval o X.env) = eval o X.env)
    (hfew : ((backTo cpos (starEach (e :: es) X.env)).all (fun x => !x.1) && (backToKw cpos (keywordEach [] X.env)).all (fun x => x.1.isSome)
      && decide ((e :: es).length + ([] : List Keyword).length + (if ([] : List Keyword).isEmpty then 0 else 1) < 30)) = true)
    (hline : (apos.endLine == cpos.line) = true) (hs : starEach (e :: es) X.env = (false, eval e X.env) :: starEach es X.env) (hpl : (backTo cpos (starEach es X.env)).any (·.1) = false) :
    PE X (.Call (.Attribute o m.nm apos) (e :: es) [] cpos) (LE L (wE Γ (.me m c as))) := by
  have base : PE X (.Call (.Attribute o m.nm apos) (e :: es) [] cpos) (tBM X.K m.T (rMe X.K m) (LE L (wN (wE Γ c))) (LNs L n (wNs Γ as))) := by
    cases m with
    | join => exact pe_bm F.plainAttrs_str F.slot_str_join F.type_str_join (mt_me .join) (ke_norm ho) ha hbase hfew hline hs hpl
    | index => exact pe_bm F.plainAttrs_str F.slot_str_index F.type_str_index (mt_me .index) (ke_norm ho) ha hbase hfew hline hs hpl
  refine base.imp fun σ H Q h => ?_
  obtain ⟨ρ, sl, oh, Y, Qd, Ed, s, h, hq, hx⟩ := h
  simp only [wE] at h
  refine go s h hx fun r oh1 v H1 ρ1 q s1 st1 vr hx1 => ?_
  obtain ⟨⟨d, e1, e2⟩, q⟩ := q
  rw [← hK]
  refine ⟨meT_ty (VR.rpT s1.ok vr e1) e2, go s1 q hx1 fun r2 oh2 v2 H2 ρ2 q s2 st2 vr2 hx2 => ?_⟩
  obtain ⟨d, ds, rr, e1, e2, e3, q⟩ := q
  exact ⟨_, d, ds, rr, VR.rpT s2.ok (vr.keep st2 s1.ok) e1, vr2.1.see s2.ok e2, s2.ok.dom, e3, fin_ok s2.ok q fun v rr oh' H' ρ' ok' st' vr' q => hq _ _ _ _ _ q ok' ((st1.trans st2).trans st') vr'⟩
theorem zn_set {ρ : List Addr} {oh : OH} {Y : ZS} {n : Nat} {ob ob' : OO} {b : Addr} (e : oh[n]? = some ob) (hl : ob.live = true) (h : Zn ρ (oh.set n ob') Y b) : Zn ρ oh Y b := by
  rcases h with h | h
  · exact .inl (liv_set e (fun _ => hl) h)
  · exact .inr h
theorem mu_imp {c : CE} {as : CA} {m : Mu} {n : Nat} {σ : L2.St} {H : Hp} {Q : VK} (h : LE L (wE Γ (.mu m c as)) σ H Q) : tBM L.K "list" (rMu L.K m) (LE L (wE Γ c)) (LAs L n (wAs Γ as)) σ H Q := by
  obtain ⟨ρ, sl, oh, Y, Qd, Ed, s, h, hq, hx⟩ := h
  simp only [wE] at h
  refine go s h hx fun r oh1 v H1 ρ1 q s1 st1 vr hx1 => ?_
  obtain ⟨k, rfl, ⟨ds, e1⟩, q⟩ := q
  obtain ⟨a, rfl, ea⟩ := vr
  have hat := s1.ok.at_ k _ a e1 ea
  refine ⟨?_, go s1 q hx1 fun r2 oh2 v2 H2 ρ2 q s2 st2 vr2 hx2 => ?_⟩
  · obtain ⟨xs, e, _⟩ := hat
    exact .inl ⟨rfl, xs, .inl (.inl e)⟩
  · obtain ⟨ob, ob', d, e1, e2, e3, e4, q⟩ := q
    have ea2 := st2.pre k a ea
    refine ⟨a, _, ob, r2, ob', d, rfl, s2.ok.at_ k ob a e1 ea2, vr2.1, .inl ⟨k, ob, e1, e2, ea2⟩, e3, fun v ho hat rv => ?_⟩
    obtain ⟨ok3, st3⟩ := s2.ok.write e1 ea2 e2 e4 (hat.mono fun b hb => zn_set e1 e2 hb)
    exact hq _ _ _ _ _ q ok3 ((st1.trans st2).trans st3) (Rp.mono (fun b hb => zn_set e1 e2 hb) rv)
theorem ke_mu {o : Expr} {c : CE} {as : CA} {m : Mu} {n : Nat} {apos cpos : Pos} (hu : X.A.units + 70 < cLine) (hK : L.K = X.K) (ho : PE X o (LE L (wE Γ c))) (ha : PA X (e :: es) (LAs L n (wAs Γ as)))
    (hbase : attributeBase o m.nm X.env (eval o X.env) = eval o X.env)
    (hfew : ((backTo cpos (starEach (e :: es) X.env)).all (fun x => !x.1) && (backToKw cpos (keywordEach [] X.env)).all (fun x => x.1.isSome)
      && decide ((e :: es).length + ([] : List Keyword).length + (if ([] : List Keyword).isEmpty then 0 else 1) < 30)) = true)
    (hline : (apos.endLine == cpos.line) = true) (hs : starEach (e :: es) X.env = (false, eval e X.env) :: starEach es X.env) (hpl : (backTo cpos (starEach es X.env)).any (·.1) = false) :
    PE X (.Call (.Attribute o m.nm apos) (e :: es) [] cpos) (LE L (wE Γ (.mu m c as))) := by
  have base : PE X (.Call (.Attribute o m.nm apos) (e :: es) [] cpos) (tBM X.K "list" (rMu X.K m) (LE L (wE Γ c)) (LAs L n (wAs Γ as))) := by
    cases m with
    | append => exact pe_bm F.plainAttrs_list F.slot_list_append F.type_list_append (mt_mu .append hu) ho ha hbase hfew hline hs hpl
    | extend => exact pe_bm F.plainAttrs_list F.slot_list_extend F.type_list_extend (mt_mu .extend hu) ho ha hbase hfew hline hs hpl
    | pop => exact pe_bm F.plainAttrs_list F.slot_list_pop F.type_list_pop (mt_mu .pop hu) ho ha hbase hfew hline hs hpl
    | popAt => exact pe_bm F.plainAttrs_list F.slot_list_pop F.type_list_pop (mt_mu .popAt hu) ho ha hbase hfew hline hs hpl
    | insert => exact pe_bm F.plainAttrs_list F.slot_list_insert F.type_list_insert (mt_mu .insert hu) ho ha hbase hfew hline hs hpl
    | remove => exact pe_bm F.plainAttrs_list F.slot_list_remove F.type_list_remove (mt_mu .remove hu) ho ha hbase hfew hline hs hpl
    | clear => exact pe_bm F.plainAttrs_list F.slot_list_clear F.type_list_clear (mt_mu .clear hu) ho ha hbase hfew hline hs hpl
  rw [← hK] at base
  exact base.imp fun σ H Q h => mu_imp h
theorem ke_mu0 {o : Expr} {c : CE} {m : Mu} {apos cpos : Pos} (hu : X.A.units + 70 < cLine) (hK : L.K = X.K) (ho : PE X o (LE L (wE Γ c)))
    (hbase : attributeBase o m.nm X.env (eval o X.env) = eval o X.env) (hline : (apos.endLine == cpos.line) = true) :
    PE X (.Call (.Attribute o m.nm apos) [] [] cpos) (LE L (wE Γ (.mu m c .nil))) := by
  have base : PE X (.Call (.Attribute o m.nm apos) [] [] cpos) (tBM0 X.K "list" (rMu X.K m) (LE L (wE Γ c))) := by
    cases m with
    | append => exact pe_bm0 F.plainAttrs_list F.slot_list_append F.type_list_append (mt_mu .append hu) ho hbase hline
    | extend => exact pe_bm0 F.plainAttrs_list F.slot_list_extend F.type_list_extend (mt_mu .extend hu) ho hbase hline
    | pop => exact pe_bm0 F.plainAttrs_list F.slot_list_pop F.type_list_pop (mt_mu .pop hu) ho hbase hline
    | popAt => exact pe_bm0 F.plainAttrs_list F.slot_list_pop F.type_list_pop (mt_mu .popAt hu) ho hbase hline
    | insert => exact pe_bm0 F.plainAttrs_list F.slot_list_insert F.type_list_insert (mt_mu .insert hu) ho hbase hline
    | remove => exact pe_bm0 F.plainAttrs_list F.slot_list_remove F.type_list_remove (mt_mu .remove hu) ho hbase hline
    | clear => exact pe_bm0 F.plainAttrs_list F.slot_list_clear F.type_list_clear (mt_mu .clear hu) ho hbase hline
  rw [← hK] at base
  refine base.imp fun σ H Q h => ?_
  obtain ⟨ρ, sl, oh, Y, Qd, Ed, s, h, hq, hx⟩ := h
  simp only [wE, wAs] at h
  refine go s h hx fun r oh1 v H1 ρ1 q s1 st1 vr hx1 => ?_
  obtain ⟨k, rfl, ⟨ds, e1⟩, q⟩ := q
  obtain ⟨a, rfl, ea⟩ := vr
  have hat := s1.ok.at_ k _ a e1 ea
  refine ⟨?_, ?_⟩
  · obtain ⟨xs, e, _⟩ := hat
    exact .inl ⟨rfl, xs, .inl (.inl e)⟩
  · obtain ⟨ob, ob', d, e1, e2, e3, e4, q⟩ := q
    refine ⟨a, _, ob, [], ob', d, rfl, s1.ok.at_ k ob a e1 ea, .nil, .inl ⟨k, ob, e1, e2, ea⟩, e3, fun v ho hat rv => ?_⟩
    obtain ⟨ok3, st3⟩ := s1.ok.write e1 ea e2 e4 (hat.mono fun b hb => zn_set e1 e2 hb)
    exact hq _ _ _ _ _ q ok3 (st1.trans st3) (Rp.mono (fun b hb => zn_set e1 e2 hb) rv)
theorem ke_idx {a b : CE} (hK : L.K = X.K) (hu : X.A.units + 1 < cLine) (ha : PE X e1 (LE L (wE Γ a))) (hb : PE X e2 (LE L (wE Γ b))) (hs : PlainIx e2) : PE X (.Subscript e1 e2 pos) (LE L (wE Γ (.idx a b))) :=
  (pe_ix (ix_D hu) (ke_norm ha) (ke_norm hb) hs).imp fun σ H Q h => by
    obtain ⟨ρ, sl, oh, Y, Qd, Ed, s, h, hq, hx⟩ := h
    simp only [wE] at h
    refine go s h hx fun r oh1 v H1 ρ1 q s1 st1 vr hx1 => go s1 q hx1 fun r2 oh2 v2 H2 ρ2 q s2 st2 vr2 hx2 => ?_
    obtain ⟨da, db, rr, e1, e2, e3, f⟩ := q
    rw [← hK]
    exact ⟨_, da, db, rr, VR.rpT s2.ok (vr.keep st2 s1.ok) e1, VR.rpT s2.ok vr2 e2, e3, fun v rv => hq _ _ _ _ _ f s2.ok (st1.trans st2) rv⟩
theorem ko_none : PO X none (Lf L rO (wP Γ .non)) := po_none.imp fun σ H Q h => by
    obtain ⟨ρ, sl, oh, Y, Qd, Ed, s, h, hq, hx⟩ := h
    simp only [wP] at h
    exact hq _ _ _ _ _ h s.ok Stp.refl rfl
theorem ko_some {c : CE} (h : PE X e (LE L (wE Γ c))) : PO X (some e) (Lf L rO (wP Γ (.som c))) := (po_some h).imp fun σ H Q h => by
    obtain ⟨ρ, sl, oh, Y, Qd, Ed, s, h, hq, hx⟩ := h
    simp only [wP] at h
    refine go s h hx fun r oh1 v H1 ρ1 q s1 st1 vr hx1 => ?_
    obtain ⟨i, rfl, q⟩ := q
    cases vr
    exact ⟨i, rfl, hq _ _ _ _ _ q s1.ok st1 rfl⟩
theorem ke_sli {c : CE} {lo hi : CO} {l h : Option Expr} {p2 : Pos} (hK : L.K = X.K) (ho : PE X e (LE L (wE Γ c))) (hl : PO X l (Lf L rO (wP Γ lo))) (hh : PO X h (Lf L rO (wP Γ hi))) :
    PE X (.Subscript e (.Slice l h none p2) pos) (LE L (wE Γ (.sli c lo hi))) :=
  (pe_slice sl_D (ke_norm ho) hl hh).imp fun σ H Q h => by
    obtain ⟨ρ, sl, oh, Y, Qd, Ed, s, h, hq, hx⟩ := h
    simp only [wE] at h
    refine go s h hx fun r oh1 v H1 ρ1 q s1 st1 vr hx1 => go s1 q hx1 fun r2 oh2 v2 H2 ρ2 q s2 st2 vr2 hx2 => go s2 q hx2 fun r3 oh3 v3 H3 ρ3 q s3 st3 vr3 hx3 => ?_
    cases (show v2 = r2 from vr2)
    cases (show v3 = r3 from vr3)
    obtain ⟨d, rr, e1, e2, q⟩ := q
    rw [← hK]
    exact ⟨_, d, rr, VR.rpT s3.ok ((vr.keep st2 s1.ok).keep st3 s2.ok) e1, s3.ok.dom, e2, fin_ok s3.ok q fun v rr oh' H' ρ' ok' st' vr' q => hq _ _ _ _ _ q ok' (((st1.trans st2).trans st3).trans st') vr'⟩
theorem at_as {as : List Addr} {ns : List Nat} {i : Int} {n : Nat} {ρ : List Addr} (hl : as.length = ns.length) (h : ∀ (k n : Nat), ns[k]? = some n → ∃ b, as[k]? = some b ∧ ρ[n]? = some b) (e : atI ns i = some n) : ∃ b, atI (as.map V.ref) i = some (.ref b) ∧ ρ[n]? = some b := by
  unfold atI at e ⊢
  rw [List.length_map, hl]
  cases q : ixN ns.length i with
  | none => rw [q] at e; cases e
  | some j =>
    rw [q] at e
    obtain ⟨b, e1, e2⟩ := h j n e
    refine ⟨b, ?_, e2⟩
    show (as.map V.ref)[j]? = _
    rw [List.getElem?_map, e1]
    rfl
theorem ke_idxO {a b : CE} (hK : L.K = X.K) (ha : PE X e1 (LE L (wE Γ a))) (hb : PE X e2 (LE L (wE Γ b))) (hs : PlainIx e2) : PE X (.Subscript e1 e2 pos) (LE L (wE Γ (.idxO a b))) :=
  (pe_ix ix_list ha hb hs).imp fun σ H Q h => by
    obtain ⟨ρ, sl, oh, Y, Qd, Ed, s, h, hq, hx⟩ := h
    simp only [wE] at h
    refine go s h hx fun r oh1 v H1 ρ1 q s1 st1 vr hx1 => ?_
    obtain ⟨ns, rfl, q⟩ := q
    refine go s1 q hx1 fun r2 oh2 v2 H2 ρ2 q s2 st2 vr2 hx2 => ?_
    obtain ⟨k, n, rfl, e, q⟩ := q
    cases vr2
    obtain ⟨p, rfl, as, h1, h2, h3, h4⟩ := vr.keep st2 s1.ok
    obtain ⟨b, eb, er⟩ := at_as h3 h4 e
    exact ⟨p, as.map V.ref, k, .ref b, rfl, rfl, .inl h1.2, eb, hq _ _ _ _ _ q s2.ok (st1.trans st2) ⟨b, rfl, er⟩⟩
theorem ke_revL {c : CE} {k : Nat} {p1 p2 p3 : Pos} (hK : L.K = X.K) (ha : PE X e (LE L (wE Γ c))) : PE X (.Subscript e (.Slice none none (some (.UnaryOp .USub (.Constant (.int 1) k p1) p2)) p3) pos) (LE L (wE Γ (.revL c))) :=
  (pe_revL (ke_norm ha)).imp fun σ H Q h => by
    obtain ⟨ρ, sl, oh, Y, Qd, Ed, s, h, hq, hx⟩ := h
    simp only [wE] at h
    refine go s h hx fun r oh1 v H1 ρ1 q s1 st1 vr hx1 => ?_
    obtain ⟨ds, e, q⟩ := q
    have rt := VR.rpT s1.ok vr e
    rw [← hK]
    cases rt with
    | lst a b c =>
      refine ⟨_, _, rfl, .inl a, fun p hp => ?_⟩
      obtain ⟨ok2, st2⟩ := s1.ok.allocG (p := p) (ob := .lst ds.reverse) (Gr.upd (o := .lst _) hp) hp rfl (newL hp (by rw [List.length_reverse]; exact b) c.reverse)
      exact hq _ _ _ _ _ q ok2 (st1.trans st2) ⟨p, rfl, by rw [← s1.ok.len]; simp⟩
theorem ke_lenO {c : CE} (hK : L.K = X.K) (hc : X.calm = true) (hg : X.A.guards = some []) (hu : X.A.units + 70 < cLine) (hgl : Gl X "len") (hm : X.mg "len" = none) (ha : PE X e (LE L (wE Γ c)))
    (he : starEach [e] X.env = (false, eval e X.env) :: starEach [] X.env) : PE X (.Call (.Name "len" p) [e] [] pos) (LE L (wE Γ (.lenO c))) :=
  (pe_bi .len hc hg hu hgl hm (pa_cons ha pa_nil he) he rfl).imp fun σ H Q h => by
    obtain ⟨ρ, sl, oh, Y, Qd, Ed, s, h, hq, hx⟩ := h
    simp only [wE] at h
    refine go s h hx fun r oh1 v H1 ρ1 q s1 st1 vr hx1 => ?_
    obtain ⟨ns, rfl, q⟩ := q
    obtain ⟨ds, _, el, rp⟩ := vr.l0 s1.ok
    rw [← hK]
    refine ⟨Z0, [.list ds], .sh (.int (ds.length : Nat)), .cons rp.top .nil, (fun a z => z.elim), rfl, fun v' H' gr rv => ?_⟩
    obtain ⟨ok2, st2⟩ := s1.ok.grow gr
    cases rv
    rw [el]
    exact hq _ _ _ _ _ q ok2 (st1.trans st2) (Rp.int _)
theorem ke_cmpL {op : CmpOp} {a b : CE} (hK : L.K = X.K) (hu : X.A.units + 65 < cLine) (hm : behindInMarks op e2 = false) (ha : PE X e1 (LE L (wE Γ a))) (hb : PE X e2 (LE L (wE Γ b))) : PE X (.Compare e1 [op] [e2] pos) (LE L (wE Γ (.cmpL op a b))) :=
  (pe_cmpR (op_cmp hu op) (ke_norm ha) hb hm).imp fun σ H Q h => by
    obtain ⟨ρ, sl, oh, Y, Qd, Ed, s, h, hq, hx⟩ := h
    simp only [wE] at h
    refine go s h hx fun r oh1 v H1 ρ1 q s1 st1 vr hx1 => go s1 q hx1 fun r2 oh2 v2 H2 ρ2 q s2 st2 vr2 hx2 => ?_
    obtain ⟨ns, rfl, da, ds, c, e1, e2, e3, f⟩ := q
    obtain ⟨ds', e4, _, rp⟩ := vr2.l0 s2.ok
    rw [e2] at e4
    cases e4
    rw [← hK]
    exact ⟨Z0, da, .list ds, c, ((vr.keep st2 s1.ok).rp0 s2.ok e1).top, rp.top, e3, hq _ _ _ _ _ f s2.ok (st1.trans st2) (Rp.bl _)⟩
theorem kt_cmpL {op : CmpOp} {a b : CE} (hK : L.K = X.K) (hu : X.A.units + 65 < cLine) (hm : behindInMarks op e2 = false) (ha : PE X e1 (LE L (wE Γ a))) (hb : PE X e2 (LE L (wE Γ b))) : PT X (.Compare e1 [op] [e2] pos) (LT L (wT Γ (.val (.cmpL op a b)))) :=
  (pt_cmpR (op_cmp hu op) (ke_norm ha) hb hm).imp fun σ H Q h => by
    obtain ⟨ρ, sl, oh, Y, Qd, Ed, s, h, hq, hx⟩ := h
    simp only [wT, wE] at h
    refine go s h hx fun r oh1 v H1 ρ1 q s1 st1 vr hx1 => go s1 q hx1 fun r2 oh2 v2 H2 ρ2 q s2 st2 vr2 hx2 => ?_
    obtain ⟨ns, rfl, da, ds, c, e1, e2, e3, f⟩ := q
    obtain ⟨ds', e4, _, rp⟩ := vr2.l0 s2.ok
    rw [e2] at e4
    cases e4
    obtain ⟨d, b, e4, e5, f⟩ := f
    cases e4
    cases e5
    rw [← hK]
    exact ⟨Z0, da, .list ds, c, ((vr.keep st2 s1.ok).rp0 s2.ok e1).top, rp.top, e3, c, rfl, hq _ _ _ _ _ f s2.ok (st1.trans st2) rfl⟩
end
end Kd

namespace Kd
open PySem PySem.Spec PyProof.Rows L2 RZ
def tgLen : Tg → Nat
  | .cons _ ts => tgLen ts + 1
  | _ => 0
/-- a tuple or a list of that length -/
def gSeq (K : PySem.W.Frag) (n : Nat) (t : TGs) : TG := fun v σ H Q => gTup K n t v σ H Q ∨ gLst K n t v σ H Q
mutual
def gT (K : PySem.W.Frag) : Tg → TG
  | .nm i => gName i
  | .nil => gTup K 0 gNil
  | .cons t ts => gSeq K (tgLen ts + 1) (gCons (gT K t) (gTs K ts))
def gTs (K : PySem.W.Frag) : Tg → TGs
  | .nm _ => fun _ _ _ _ => False
  | .nil => gNil
  | .cons t ts => gCons (gT K t) (gTs K ts)
end
def tgNames : Tg → List Nat
  | .nm i => [i]
  | .nil => []
  | .cons t ts => tgNames t ++ tgNames ts
section
variable {K : PySem.W.Frag} {H : Hp} {ρ : List Addr} {oh : OH} {Y : ZS} {σ : L2.St} {sl : Sl}
theorem SlR.set {i : Nat} {v : V} {r : Vl} (h : SlR K H ρ oh Y σ sl) (vr : VR K H ρ oh Y v r) : SlR K H ρ oh Y (σ.set i (some v)) (sl.set i (some r)) := by
  refine ⟨by simp [h.1], fun j r' e => ?_⟩
  rw [List.getElem?_set] at e ⊢
  split at e
  · split at e
    · cases e
      rename_i q1 q2
      rw [if_pos q1, if_pos (by rw [← h.1]; exact q2)]
      exact ⟨v, rfl, vr⟩
    · cases e
  · rename_i q
    rw [if_neg q]
    exact h.2 j r' e
theorem bindTs_len : ∀ {t : Tg} {ds : List D} {sl sl' : Sl}, bindTs t ds sl = some sl' → ds.length = tgLen t := by
  intro t
  induction t with
  | nm i => intro ds sl sl' h; simp [bindTs] at h
  | nil => intro ds sl sl' h; cases ds with
    | nil => rfl
    | cons => simp [bindTs] at h
  | cons t ts _ ih =>
    intro ds sl sl' h
    cases ds with
    | nil => simp [bindTs] at h
    | cons d ds =>
      simp only [bindTs] at h
      split at h
      · simp [tgLen, ih h]
      · cases h
theorem bindT_len_both : ∀ t : Tg, (∀ {d : D} {sl sl' : Sl}, bindT t d sl = some sl' → sl'.length = sl.length) ∧ (∀ {ds : List D} {sl sl' : Sl}, bindTs t ds sl = some sl' → sl'.length = sl.length) := by
  intro t
  induction t with
  | nm i => exact ⟨fun h => by simp only [bindT] at h; cases h; simp, fun h => by simp [bindTs] at h⟩
  | nil =>
    refine ⟨fun {d sl sl2} h => ?_, fun {ds sl sl2} h => ?_⟩
    · unfold bindT at h; split at h <;> simp_all
    · unfold bindTs at h; split at h <;> simp_all
  | cons t ts ih1 ih2 =>
    have main : ∀ {d : D} {ds : List D} {sl sl2 : Sl}, (match bindT t d sl with | some sl1 => bindTs ts ds sl1 | none => none) = some sl2 → sl2.length = sl.length := by
      intro d ds sl sl2 h
      split at h
      · rename_i e; rw [ih2.2 h, ih1.1 e]
      · cases h
    refine ⟨fun {d sl sl2} h => ?_, fun {ds sl sl2} h => ?_⟩
    · cases d with
      | tuple ds =>
        cases ds with
        | nil => simp [bindT] at h
        | cons d ds => simp only [bindT] at h; exact main h
      | list ds =>
        cases ds with
        | nil => simp [bindT] at h
        | cons d ds => simp only [bindT] at h; exact main h
      | _ => simp [bindT] at h
    · cases ds with
      | nil => simp [bindTs] at h
      | cons d ds => simp only [bindTs] at h; exact main h
theorem bindT_len {t : Tg} {d : D} {sl sl2 : Sl} (h : bindT t d sl = some sl2) : sl2.length = sl.length := (bindT_len_both t).1 h
theorem bind_ok : ∀ t : Tg, (∀ (d : D) (sl sl' : Sl) (v : V) (σ : L2.St) (Q : L2.St → Hp → Prop), bindT t d sl = some sl' → Rp K H (Zn ρ oh Y) v d → SlR K H ρ oh Y σ sl →
      (∀ σ', SlR K H ρ oh Y σ' sl' → (∀ i, i ∉ tgNames t → σ'[i]? = σ[i]?) → Q σ' H) → gT K t v σ H Q) ∧
    (∀ (ds : List D) (sl sl' : Sl) (vs : List V) (σ : L2.St) (Q : L2.St → Hp → Prop), bindTs t ds sl = some sl' → RpAll K H (Zn ρ oh Y) vs ds → SlR K H ρ oh Y σ sl →
      (∀ σ', SlR K H ρ oh Y σ' sl' → (∀ i, i ∉ tgNames t → σ'[i]? = σ[i]?) → Q σ' H) → gTs K t vs σ H Q) := by
  intro t
  induction t with
  | nm i =>
    refine ⟨fun d sl sl' v σ Q h r s k => ?_, fun ds sl sl' vs σ Q h => by simp [bindTs] at h⟩
    simp only [bindT] at h
    cases h
    simp only [gT]
    refine k _ (s.set (r := .d d) r) fun j hj => ?_
    rw [List.getElem?_set_ne]
    intro e; exact hj (by simp [tgNames, e])
  | nil =>
    refine ⟨fun d sl sl' v σ Q h r s k => ?_, fun ds sl sl' vs σ Q h r s k => ?_⟩
    · cases d with
      | tuple ds =>
        cases ds with
        | nil =>
          simp only [bindT] at h
          cases h
          cases r with
          | tup a b c =>
            cases c
            simp only [gT]
            exact ⟨_, _, rfl, a.sq, rfl, rfl, k σ s fun _ _ => rfl⟩
        | cons => simp [bindT] at h
      | _ => simp [bindT] at h
    · cases ds with
      | nil =>
        simp only [bindTs] at h
        cases h
        cases r
        simp only [gTs]
        exact ⟨rfl, k σ s fun _ _ => rfl⟩
      | cons => simp [bindTs] at h
  | cons t ts ih1 ih2 =>
    have main : ∀ (d : D) (ds : List D) (sl sl' : Sl) (vs : List V) (σ : L2.St) (Q : L2.St → Hp → Prop), (match bindT t d sl with | some sl' => bindTs ts ds sl' | none => none) = some sl' → RpAll K H (Zn ρ oh Y) vs (d :: ds) → SlR K H ρ oh Y σ sl →
      (∀ σ', SlR K H ρ oh Y σ' sl' → (∀ i, i ∉ tgNames (.cons t ts) → σ'[i]? = σ[i]?) → Q σ' H) → gCons (gT K t) (gTs K ts) vs σ H Q := by
      intro d ds sl sl' vs σ Q h r s k
      split at h
      · rename_i sl1 e1
        cases r with
        | cons r1 r2 =>
          refine ⟨_, _, rfl, ih1.1 d sl sl1 _ σ _ e1 r1 s fun σ1 s1 k1 => ih2.2 ds sl1 sl' _ σ1 _ h r2 s1 fun σ2 s2 k2 => k σ2 s2 fun i hi => ?_⟩
          simp only [tgNames, List.mem_append, not_or] at hi
          rw [k2 i hi.2, k1 i hi.1]
      · cases h
    refine ⟨fun d sl sl' v σ Q h r s k => ?_, fun ds sl sl' vs σ Q h r s k => ?_⟩
    · cases d with
      | tuple ds =>
        cases ds with
        | nil => simp [bindT] at h
        | cons d ds =>
          simp only [bindT] at h
          cases r with
          | tup a b c =>
            simp only [gT]
            refine .inl ⟨_, _, rfl, a.sq, ?_, main d ds sl sl' _ σ Q h c s k⟩
            have := c.length
            split at h
            · have := bindTs_len h
              simp at *; omega
            · cases h
      | list ds =>
        cases ds with
        | nil => simp [bindT] at h
        | cons d ds =>
          simp only [bindT] at h
          cases r with
          | lst a b c =>
            simp only [gT]
            refine .inr ⟨_, _, rfl, a.sq, ?_, main d ds sl sl' _ σ Q h c s k⟩
            have := c.length
            split at h
            · have := bindTs_len h
              simp at *; omega
            · cases h
      | _ => simp [bindT] at h
    · cases ds with
      | nil => simp [bindTs] at h
      | cons d ds =>
        simp only [bindTs] at h
        simp only [gTs]
        exact main d ds sl sl' vs σ Q h r s k
/-! ### a new list hidden while it is filled -/
def hid (Y : ZS) (D : Addr) : ZS := fun a => Y a ∨ a = D
theorem kp_hide {H' : Hp} {D : Addr} {Z Z' : ZS} (g : Gr H H') (hD : H D = none) (hz : ∀ a, Z' a → Z a ∨ a = D) : Kp H H' Z Z' := ⟨fun a u _ h => by
    rcases h with h | ⟨o, h⟩
    · exact .inl (g _ _ h)
    · exact .inr ⟨o, g _ _ h⟩, fun _ _ _ h => g _ _ h, fun a u n h z => by
    rcases hz a z with q | q
    · exact n q
    · subst q
      obtain ⟨o, e⟩ := rd_some h
      rw [hD] at e; cases e⟩
theorem zn_hid {D a : Addr} (h : Zn ρ oh (hid Y D) a) : Zn ρ oh Y a ∨ a = D := by
  rcases h with h | h | h
  · exact .inl (.inl h)
  · exact .inl (.inr h)
  · exact .inr h
theorem Ok.hide {D : Addr} {o : HO} (ok : Ok K H ρ oh Y) (hD : H D = none) (ho : notTup o = true) : Ok K (upd H D o) ρ oh (hid Y D) ∧ Stp H ρ oh (upd H D o) ρ oh := by
  have g : Gr H (upd H D o) := Gr.upd hD
  obtain ⟨ok1, st⟩ := ok.grow g
  refine ⟨⟨ok.len, ok.nd, fun i ob a e1 e2 => (ok.at_ i ob a e1 e2).keep (kp_hide g hD fun a h => zn_hid h) fun _ u e => g a u e, fun a y l => ?_, fun a y => ?_⟩, st⟩
  · rcases y with y | y
    · exact ok.yl a y l
    · subst y; exact ok.dom.new hD (.inl l)
  · rcases y with y | y
    · exact ok1.yh a y
    · subst y; exact ⟨o, upd_same, ho⟩
theorem VR.hide {D : Addr} {o : HO} {v : V} {r : Vl} (hD : H D = none) (h : VR K H ρ oh Y v r) : VR K (upd H D o) ρ oh (hid Y D) v r := by
  cases r with
  | d d => exact Rp.keep (kp_hide (Gr.upd hD) hD fun a h => zn_hid h) h
  | o n => exact h
  | l ns =>
    obtain ⟨a, e, q⟩ := h
    exact ⟨a, e, q.keep (kp_hide (Gr.upd hD) hD fun a h => zn_hid h) fun _ _ _ z => z⟩
theorem SlR.hide {D : Addr} {o : HO} (hD : H D = none) (h : SlR K H ρ oh Y σ sl) : SlR K (upd H D o) ρ oh (hid Y D) σ sl :=
  ⟨h.1, fun i r e => let ⟨v, e1, q⟩ := h.2 i r e; ⟨v, e1, q.hide hD⟩⟩
/-- the hidden list is owned -/
theorem Ok.claim {D : Addr} {xs : List V} {ds : List PyData} (ok : Ok K H ρ oh (hid Y D)) (nY : ¬ Y D) (hD : H D = some (.lst xs)) (hz : xs.length ≤ sizeLine) (r : RpAll K H (Zn ρ oh (hid Y D)) xs ds) : Ok K H (ρ ++ [D]) (oh ++ [.lst ds]) Y := by
  have nl : ¬ Liv ρ oh D := ok.yl D (.inr rfl)
  have zle : ∀ b, Zn (ρ ++ [D]) (oh ++ [.lst ds]) Y b → Zn ρ oh (hid Y D) b := fun b => by
    rintro (l | y)
    · rcases liv_snoc ok.len l with q | ⟨q, _⟩
      · exact .inl q
      · exact .inr (.inr q)
    · exact .inr (.inl y)
  have key : ∀ (a : Addr) (k : Nat) (o : OO), (oh ++ [.lst ds])[k]? = some o → (ρ ++ [D])[k]? = some a → (oh[k]? = some o ∧ ρ[k]? = some a) ∨ (k = oh.length ∧ a = D ∧ o = .lst ds) := by
    intro a k o h1 h3
    rcases Nat.lt_or_ge k oh.length with q | q
    · rw [List.getElem?_append_left q] at h1
      rw [List.getElem?_append_left (by have := ok.len; omega)] at h3
      exact .inl ⟨h1, h3⟩
    · rw [List.getElem?_append_right q] at h1
      rw [List.getElem?_append_right (by have := ok.len; omega), ok.len] at h3
      have : k - oh.length = 0 := by
        have := lt_get h1
        simp at this; omega
      rw [this] at h1 h3
      simp at h1 h3
      exact .inr ⟨by omega, h3.symm, h1.symm⟩
  refine ⟨by simp [ok.len], fun i j a oi oj e1 l1 e2 l2 r1 r2 => ?_, fun i ob a e1 e2 => ?_, fun a y l => ?_, fun a y => ok.yh a (.inl y)⟩
  · rcases key a i oi e1 r1 with ⟨a1, b1⟩ | ⟨a1, b1, _⟩ <;> rcases key a j oj e2 r2 with ⟨a2, b2⟩ | ⟨a2, b2, _⟩
    · exact ok.nd i j a oi oj a1 l1 a2 l2 b1 b2
    · subst b2; exact absurd ⟨i, oi, a1, l1, b1⟩ nl
    · subst b1; exact absurd ⟨j, oj, a2, l2, b2⟩ nl
    · omega
  · rcases key a i ob e1 e2 with ⟨a1, b1⟩ | ⟨_, b1, c1⟩
    · exact (ok.at_ i ob a a1 b1).mono zle
    · subst b1 c1
      exact ⟨xs, hD, hz, r.mono zle⟩
  · rcases liv_snoc ok.len l with q | ⟨q, _⟩
    · exact ok.yl a (.inl y) q
    · subst q; exact nY y
theorem Stp.claim {H1 : Hp} {ρ1 : List Addr} {oh1 : OH} {D : Addr} {ds : List PyData} (st : Stp H1 ρ1 oh1 H ρ oh) (hl : ρ.length = oh.length) (hD : H1 D = none) : Stp H1 ρ1 oh1 H (ρ ++ [D]) (oh ++ [.lst ds]) :=
  ⟨st.ext, fun a l => by
    rcases liv_snoc hl l with q | ⟨q, _⟩
    · exact st.zz a q
    · subst q; exact .inr hD, fun n a e => by rw [List.getElem?_append_left (lt_get (st.pre n a e))]; exact st.pre n a e, st.dom⟩
/-- the hidden list grows -/
theorem Ok.hidW {D : Addr} {o : HO} (ok : Ok K H ρ oh (hid Y D)) (ho : notTup o = true) : Ok K (upd H D o) ρ oh (hid Y D) := by
  have zD : Zn ρ oh (hid Y D) D := .inr (.inr rfl)
  refine ⟨ok.len, ok.nd, fun i ob a e1 e2 => (ok.at_ i ob a e1 e2).keep (Kp.upd zD) fun hl u e => ?_, ok.yl, fun a y => ?_⟩
  · by_cases q : a = D
    · subst q; exact absurd ⟨i, ob, e1, hl, e2⟩ (ok.yl a (.inr rfl))
    · rw [upd_ne q]; exact e
  · by_cases q : a = D
    · subst q; exact ⟨o, upd_same, ho⟩
    · obtain ⟨u, e, t⟩ := ok.yh a y
      exact ⟨u, by rw [upd_ne q]; exact e, t⟩
theorem Stp.hidW {H1 : Hp} {ρ1 : List Addr} {oh1 : OH} {D : Addr} {o : HO} (st : Stp H1 ρ1 oh1 H ρ oh) (hD : H1 D = none) : Stp H1 ρ1 oh1 (upd H D o) ρ oh :=
  ⟨fun a u n e => by
    have ne := ne_of_none e hD
    rcases st.ext a u n e with q | ⟨d, ob, q⟩
    · exact .inl (by rw [upd_ne ne]; exact q)
    · exact .inr ⟨d, ob, by rw [upd_ne ne]; exact q⟩, st.zz, st.pre, fun a e => by
    obtain ⟨u, e1, t⟩ := e
    obtain ⟨u', e2, t'⟩ := st.dom a ⟨u, e1, t⟩
    exact ⟨u', by rw [upd_ne (ne_of_none e1 hD)]; exact e2, t'⟩⟩
end
/-! ### walks -/
/-- J walks the items while what must stand still stands -/
def rI (K : PySem.W.Frag) (H : Hp) (ρ : List Addr) (oh : OH) (Y : ZS) (J : It) (items : List D) (still : OH → Prop) : Prop :=
  items.length ≤ sizeLine ∧ ∃ G, WD K J items G ∧ ∀ H' ρ' oh' Y', still oh' → Ok K H' ρ' oh' Y' → Stp H ρ oh H' ρ' oh' → (∀ a, Y' a → Y a ∨ H a = none) → G H' (Zn ρ' oh' Y')
def LI (L : Lc) (w : Sl → OH → QI → QX → Prop) : TI := fun σ H R => ∃ ρ sl oh Y Qd Ed, Nw L σ H ρ sl oh Y ∧ w sl oh Qd Ed ∧
  (∀ items still oh' J H' ρ', Qd items still oh' → Ok L.K H' ρ' oh' Y → Stp H ρ oh H' ρ' oh' → rI L.K H' ρ' oh' Y J items still → R J H') ∧ Exq L σ H ρ oh Y Ed
theorem seq_len {K : PySem.W.Frag} {H : Hp} {Z : ZS} {x : V} {d : D} {ds : List D} (h : RpT K H Z x d) (e : seqD d = some ds) : ds.length ≤ sizeLine := by
  unfold seqD at e
  split at e
  · cases e; cases h with
    | lst a b c => rw [← c.length]; exact b
  · cases e; cases h with
    | tup a b c => rw [← c.length]; exact b
  · cases e; cases h with
    | str x o => rw [signs_len]; exact o.2
  · cases e
theorem kp_later {K : PySem.W.Frag} {H H' : Hp} {ρ ρ' : List Addr} {oh oh' : OH} {Y Y' : ZS} (st : Stp H ρ oh H' ρ' oh') (hy : ∀ a, Y' a → Y a ∨ H a = none) : Kp H H' (Zn ρ oh Y) (Zn ρ' oh' Y') where
  rd := fun a u n h => by
    have nl : ¬ Liv ρ oh a := fun q => n (.inl q)
    rcases h with h | ⟨o, h⟩
    · exact (st.ext _ _ nl h).rd
    · exact .inr ⟨o, (st.ext _ _ nl h).same rfl⟩
  tp := fun a xs n h => (st.ext _ _ (fun q => n (.inl q)) h).same rfl
  nz := fun a u n h => by
    obtain ⟨o, e⟩ := rd_some h
    rintro (q | q)
    · rcases st.zz a q with q | q
      · exact n (.inl q)
      · rw [e] at q; cases q
    · rcases hy a q with q | q
      · exact n (.inr q)
      · rw [e] at q; cases q
/-- a value read later -/
theorem later {K : PySem.W.Frag} {H H' : Hp} {ρ ρ' : List Addr} {oh oh' : OH} {Y Y' : ZS} {x : V} {r : Vl} {d : D} (vr : VR K H ρ oh Y x r) (e : vdat oh r = some d) (hs : stillV r oh oh') (ok' : Ok K H' ρ' oh' Y') (st : Stp H ρ oh H' ρ' oh')
    (hy : ∀ a, Y' a → Y a ∨ H a = none) : RpT K H' (Zn ρ' oh' Y') x d := by
  cases r with
  | d d' =>
    cases e
    exact (Rp.keep (kp_later (K := K) st hy) vr).top
  | o n =>
    obtain ⟨a, rfl, ea⟩ := vr
    have hs' : oh'[n]? = oh[n]? := hs
    cases eo : oh[n]? with
    | none => simp [vdat, eo] at e
    | some ob =>
      simp [vdat, eo] at e
      subst e
      rw [eo] at hs'
      exact (ok'.at_ n ob a hs' (st.pre n a ea)).rpT
  | l ns => cases e
section
variable {X : Cx} {L : Lc} {Γ : Gv} {tg e e1 e2 : Expr} {pos p : Pos}
theorem seq_items {d : D} {ds : List D} (h : seqD d = some ds) : itemsD d = some ds ∧ isDicD d = false := by
  unfold seqD at h
  split at h <;> cases h <;> exact ⟨rfl, rfl⟩
theorem items_seq {d : D} {ds : List D} (h : itemsD d = some ds) (n : isDicD d = false) : seqD d = some ds := by
  unfold itemsD at h
  split at h
  · exact h
  · exact h
  · exact h
  · cases n
  · cases h
theorem Ok.lock {K : PySem.W.Frag} {H : Hp} {ρ : List Addr} {oh : OH} {Y : ZS} (ok : Ok K H ρ oh Y) {a : Addr} {o : Obj} {u : HO} (nz : ¬ Zn ρ oh Y a) (hd : isDct u = true) (e : H a = some u) : Ok K (upd H a (.frz o u)) ρ oh Y ∧ Stp H ρ oh (upd H a (.frz o u)) ρ oh := by
  have st : Stp H ρ oh (upd H a (.frz o u)) ρ oh := by
    refine ⟨fun b ob nl eb => ?_, fun _ l => .inl l, fun _ _ q => q, fun b q => ?_⟩
    · by_cases z : b = a
      · subst z
        rw [e] at eb
        cases eb
        exact .inr ⟨hd, o, upd_same⟩
      · exact .inl (by rw [upd_ne z]; exact eb)
    · by_cases z : b = a
      · subst z; exact ⟨_, upd_same, rfl⟩
      · obtain ⟨w, e1, t⟩ := q
        exact ⟨w, by rw [upd_ne z]; exact e1, t⟩
  refine ⟨⟨ok.len, ok.nd, fun i ob c e1 e2 => (ok.at_ i ob c e1 e2).keep (st.kp ok) fun hl w ew => ?_, ok.yl, fun c y => st.dom c (ok.yh c y)⟩, st⟩
  have : c ≠ a := fun z => by subst z; exact nz (.inl ⟨i, ob, e1, hl, e2⟩)
  rw [upd_ne this]; exact ew
theorem ki_of {c : CE} (hK : L.K = X.K) (h : PE X e (LE L (wE Γ c))) : PI X tg e (LI L (wI Γ (.of c))) :=
  (pi_seq (ke_norm h)).imp fun σ H Q h => by
    obtain ⟨ρ, sl, oh, Y, Qd, Ed, s, h, hq, hx⟩ := h
    simp only [wI] at h
    refine go s h hx fun r oh1 v H1 ρ1 q s1 st1 vr hx1 => ?_
    have key : ∃ d ds, vdat oh1 r = some d ∧ itemsD d = some ds ∧ (isDicD d = true → ∃ d', r = .d d') ∧ Qd ds (fun oh' => stillV r oh1 oh') oh1 := by
      unfold walkOf at q
      split at q
      · obtain ⟨items, e, q⟩ := q
        exact ⟨_, items, rfl, e, fun _ => ⟨_, rfl⟩, q⟩
      · obtain ⟨ob, items, e1, e2, q⟩ := q
        rename_i n
        obtain ⟨e3, e4⟩ := seq_items e2
        refine ⟨ob.dat, items, by simp [vdat, e1], e3, (fun z => by rw [e4] at z; cases z), ?_⟩
        have : (fun oh' : OH => oh'[n]? = some ob) = fun oh' => stillV (.o n) oh1 oh' := by
          funext oh'
          simp [stillV, e1]
        rw [← this]
        exact q
      · exact q.elim
    obtain ⟨d, ds, ed, es, hdd, q⟩ := key
    rw [← hK]
    have hx := VR.rpT s1.ok vr ed
    refine ⟨_, d, ds, hx, es, ?_⟩
    cases hb : isDicD d with
    | false => exact .inl ⟨rfl, fun J wd => hq _ _ _ J _ _ q s1.ok st1 ⟨seq_len hx (items_seq es hb), _, wd, fun H' ρ' oh' Y' hs ok' st' hy => later vr ed hs ok' st' hy⟩⟩
    | true =>
      obtain ⟨d', rfl⟩ := hdd hb
      cases ed
      refine .inr ⟨rfl, vr, fun J H2 a o u wd h2 hl hh => ?_⟩
      have ok2 : Ok L.K H2 ρ1 oh1 Y ∧ Stp H1 ρ1 oh1 H2 ρ1 oh1 := by
        rcases hh with rfl | ⟨hd, nz, e1, rfl⟩
        · exact ⟨s1.ok, Stp.refl⟩
        · exact s1.ok.lock nz hd e1
      have nlive : ¬ Liv ρ1 oh1 a := fun l => by
        obtain ⟨i, ob, e1, e2, e3⟩ := l
        have := ok2.1.at_ i ob a e1 e3
        cases ob with
        | lst ds => obtain ⟨_, e, _⟩ := this; rw [h2] at e; cases e
        | dK ds => obtain ⟨_, e, _⟩ := this; rw [h2] at e; cases e
        | dT ds => obtain ⟨_, e, _⟩ := this; rw [h2] at e; cases e
        | frz d => cases e2
      exact hq _ _ _ J _ _ q ok2.1 (st1.trans ok2.2) ⟨hl, _, wd, fun H' ρ' oh' Y' hs ok' st' hy => (st'.ext a _ nlive h2).same rfl⟩
theorem rangeL_len (lo : Int) (n : Nat) : (rangeL lo n).length = n := by simp [rangeL]
theorem ki_rng1 {as : CA} (hg : Gl X "range") (hm : X.mg "range" = none) (ha : PA X [e] (LNs L 1 (wNs Γ as))) (hs : starEach [e] X.env = [(false, eval e X.env)]) : PI X tg (.Call (.Name "range" p) [e] [] pos) (LI L (wI Γ (.rng as))) :=
  (pi_range1 hg hm ha hs).imp fun σ H Q h => by
    obtain ⟨ρ, sl, oh, Y, Qd, Ed, s, h, hq, hx⟩ := h
    simp only [wI] at h
    refine go s h hx fun r oh1 v H1 ρ1 q s1 st1 vr hx1 => ?_
    obtain ⟨ds, items, e1, e2, q⟩ := q
    have hv := vr.1.see s1.ok e1
    have hl := vr.2
    cases hv with
    | nil => cases hl
    | cons a b =>
      cases b with
      | cons _ _ => simp at hl
      | nil =>
        unfold rangeD at e2
        split at e2
        · rename_i j heq
          cases heq
          split at e2
          · rename_i hb
            cases e2
            cases a
            exact ⟨j, rfl, hb.1, hb.2.1, hq _ _ _ _ _ _ q s1.ok st1 ⟨by rw [rangeL_len]; exact hb.2.2, _, wd_range, fun _ _ _ _ _ _ _ _ => trivial⟩⟩
          · cases e2
        · rename_i heq; cases heq
        · cases e2
theorem ki_rng2 {as : CA} (hg : Gl X "range") (hm : X.mg "range" = none) (ha : PA X [e1, e2] (LNs L 2 (wNs Γ as))) (hs : starEach [e1, e2] X.env = [(false, eval e1 X.env), (false, eval e2 X.env)]) (hs2 : starEach [e2] X.env = [(false, eval e2 X.env)]) :
    PI X tg (.Call (.Name "range" p) [e1, e2] [] pos) (LI L (wI Γ (.rng as))) :=
  (pi_range2 hg hm ha hs hs2).imp fun σ H Q h => by
    obtain ⟨ρ, sl, oh, Y, Qd, Ed, s, h, hq, hx⟩ := h
    simp only [wI] at h
    refine go s h hx fun r oh1 v H1 ρ1 q s1 st1 vr hx1 => ?_
    obtain ⟨ds, items, e1, e2, q⟩ := q
    have hv := vr.1.see s1.ok e1
    have hl := vr.2
    unfold rangeD at e2
    split at e2
    · cases hv with
      | cons a b => cases b; simp at hl
    · rename_i i j
      cases hv with
      | cons a b =>
        cases b with
        | cons b c =>
          cases c
          cases a
          cases b
          split at e2
          · rename_i hb
            cases e2
            exact ⟨i, j, rfl, ⟨hb.1, hb.2.1, hb.2.2.1, hb.2.2.2.1⟩, hq _ _ _ _ _ _ q s1.ok st1 ⟨by rw [rangeL_len]; exact hb.2.2.2.2, _, wd_range, fun _ _ _ _ _ _ _ _ => trivial⟩⟩
          · cases e2
    · cases e2
theorem laters {K : PySem.W.Frag} {H H' : Hp} {ρ ρ' : List Addr} {oh oh' : OH} {Y Y' : ZS} {xs : List V} {rs : List Vl} (vr : VRs K H ρ oh Y xs rs) : ∀ {ds : List D}, seeAll oh rs = some ds → stillAll rs oh oh' → Ok K H' ρ' oh' Y' → Stp H ρ oh H' ρ' oh' →
    (∀ a, Y' a → Y a ∨ H a = none) → RpTs K H' (Zn ρ' oh' Y') xs ds := by
  induction vr with
  | nil => intro ds e _ _ _ _; cases e; exact .nil
  | cons a _ ih =>
    intro ds e hs ok' st hy
    unfold seeAll at e
    split at e
    · rename_i d ds' e1 e2
      cases e
      exact .cons (later a e1 hs.1 ok' st hy) (ih e2 hs.2 ok' st hy)
    · cases e
theorem zipN_len {K : PySem.W.Frag} {H : Hp} {Z : ZS} {xs : List V} {ds : List D} {ls : List (List D)} {items : List D} (h : RpTs K H Z xs ds) (e1 : seqAll ds = some ls) (e2 : zipN ls = some items) : items.length ≤ sizeLine := by
  cases h with
  | nil => cases e1; cases e2
  | cons h1 h2 =>
    obtain ⟨l, r, rfl, e3, e4⟩ := seqAll_cons e1
    have hl := seq_len h1 e3
    unfold zipN at e2
    split at e2
    · rename_i heq
      cases heq
      cases e2
      rw [zip2_len]; omega
    · rename_i heq
      cases heq
      cases e2
      rw [zip3_len]; omega
    · cases e2
theorem ki_zip {as : CA} {es : List Expr} {n : Nat} {elts : List Expr} {kk : Nat} {tpos : Pos} (hK : L.K = X.K) (hg : Gl X "zip") (hm : X.mg "zip" = none) (ha : PA X (e :: es) (LNs L n (wNs Γ as)))
    (hs : starEach (e :: es) X.env = (false, eval e X.env) :: starEach es X.env) (hpl : (backTo pos (starEach es X.env)).any (·.1) = false) :
    PI X (.Tuple elts kk tpos) (.Call (.Name "zip" p) (e :: es) [] pos) (LI L (wI Γ (.zip as))) :=
  (pi_zipN hg hm ha hs hpl).imp fun σ H Q h => by
    obtain ⟨ρ, sl, oh, Y, Qd, Ed, s, h, hq, hx⟩ := h
    simp only [wI] at h
    refine go s h hx fun r oh1 v H1 ρ1 q s1 st1 vr hx1 => ?_
    obtain ⟨ds, ls, items, e1, e2, e3, q⟩ := q
    have h1 := vr.1.see s1.ok e1
    rw [← hK]
    exact ⟨_, ds, ls, items, h1, e2, e3, fun J wd => hq _ _ _ J _ _ q s1.ok st1 ⟨zipN_len h1 e2 e3, _, wd, fun H' ρ' oh' Y' hs ok' st' hy => laters vr.1 e1 hs ok' st' hy⟩⟩
theorem ki_enm {c : CE} {elts : List Expr} {kk : Nat} {tpos : Pos} (hK : L.K = X.K) (hg : Gl X "enumerate") (hm : X.mg "enumerate" = none) (h : PE X e (LE L (wE Γ c))) (hs : starEach [e] X.env = (false, eval e X.env) :: starEach [] X.env) :
    PI X (.Tuple elts kk tpos) (.Call (.Name "enumerate" p) [e] [] pos) (LI L (wI Γ (.enm c))) :=
  (pi_en hg hm (ke_norm h) hs).imp fun σ H Q h => by
    obtain ⟨ρ, sl, oh, Y, Qd, Ed, s, h, hq, hx⟩ := h
    simp only [wI] at h
    refine go s h hx fun r oh1 v H1 ρ1 q s1 st1 vr hx1 => ?_
    obtain ⟨d, l, e1, e2, q⟩ := q
    have h1 := VR.rpT s1.ok vr e1
    rw [← hK]
    exact ⟨_, d, l, h1, e2, fun J wd => hq _ _ _ J _ _ q s1.ok st1 ⟨by rw [enumL_len]; exact seq_len h1 e2, _, wd, fun H' ρ' oh' Y' hs ok' st' hy => later vr e1 hs ok' st' hy⟩⟩
theorem rev_len {K : PySem.W.Frag} {H : Hp} {Z : ZS} {x : V} {d : D} {ds : List D} (h : RpT K H Z x d) (e : revD d = some ds) : ds.length ≤ sizeLine := by
  unfold revD at e
  split at e
  · cases e; cases h with
    | lst a b c => rw [List.length_reverse, ← c.length]; exact b
  · cases e; cases h with
    | tup a b c => rw [List.length_reverse, ← c.length]; exact b
  · cases e
theorem ki_rev {c : CE} (hK : L.K = X.K) (hg : Gl X "reversed") (hm : X.mg "reversed" = none) (h : PE X e (LE L (wE Γ c))) (hs : starEach [e] X.env = (false, eval e X.env) :: starEach [] X.env) :
    PI X tg (.Call (.Name "reversed" p) [e] [] pos) (LI L (wI Γ (.rev c))) :=
  (RT.pi_revA hg hm (ke_norm h) hs).imp fun σ H Q h => by
    obtain ⟨ρ, sl, oh, Y, Qd, Ed, s, h, hq, hx⟩ := h
    simp only [wI] at h
    refine go s h hx fun r oh1 v H1 ρ1 q s1 st1 vr hx1 => ?_
    obtain ⟨d, l, e1, e2, q⟩ := q
    have h1 := VR.rpT s1.ok vr e1
    rw [← hK]
    exact rev_read h1 e2 fun J wd => hq _ _ _ J _ _ q s1.ok st1 ⟨rev_len h1 e2, _, wd, fun H' ρ' oh' Y' hs ok' st' hy => later vr e1 hs ok' st' hy⟩
end
end Kd

namespace Kd
open PySem PySem.Spec PyProof.Rows L2 RZ
def Lc.nox (L : Lc) : Lc := { L with W := fun _ _ _ _ => False }
theorem wipe_get {σ : L2.St} {i : Nat} : ∀ {vs : List Nat}, i ∈ vs → (wipe σ vs)[i]? = (σ[i]?).map fun _ => none
  | v :: vs, h => by
    simp only [wipe]
    rw [List.getElem?_set]
    by_cases e : v = i
    · rw [if_pos e, wipe_length]
      subst e
      by_cases q : v < σ.length
      · rw [if_pos q]; simp [List.getElem?_eq_getElem q]
      · rw [if_neg q, List.getElem?_eq_none (by omega)]; rfl
    · rw [if_neg e]
      rcases List.mem_cons.mp h with q | q
      · exact absurd q.symm e
      · exact wipe_get q
theorem wipeS_len {sl : Sl} : ∀ vs : List Nat, (wipeS sl vs).length = sl.length
  | [] => rfl
  | v :: vs => by simp [wipeS, wipeS_len vs]
theorem wipeS_some {sl : Sl} {i : Nat} {r : Vl} : ∀ {vs : List Nat}, (wipeS sl vs)[i]? = some (some r) → sl[i]? = some (some r) ∧ i ∉ vs
  | [], h => ⟨h, by simp⟩
  | v :: vs, h => by
    simp only [wipeS] at h
    rw [List.getElem?_set] at h
    split at h
    · split at h
      · cases h
      · cases h
    · rename_i q
      obtain ⟨a, b⟩ := wipeS_some h
      exact ⟨a, fun z => by
        rcases List.mem_cons.mp z with z | z
        · exact q z.symm
        · exact b z⟩
section
variable {K : PySem.W.Frag} {H : Hp} {ρ : List Addr} {oh : OH} {Y : ZS} {σ : L2.St} {sl : Sl}
theorem SlR.wipe {vs : List Nat} (h : SlR K H ρ oh Y σ sl) : SlR K H ρ oh Y (wipe σ vs) (wipeS sl vs) :=
  ⟨by rw [wipeS_len, wipe_length]; exact h.1, fun i r e => by
    obtain ⟨e1, n⟩ := wipeS_some e
    obtain ⟨v, e2, q⟩ := h.2 i r e1
    exact ⟨v, by rw [wipe_out n]; exact e2, q⟩⟩
theorem SlR.hidW {D : Addr} {o : HO} (h : SlR K H ρ oh (hid Y D) σ sl) : SlR K (upd H D o) ρ oh (hid Y D) σ sl :=
  ⟨h.1, fun i r e => by
    obtain ⟨v, e1, q⟩ := h.2 i r e
    refine ⟨v, e1, ?_⟩
    cases r with
    | d d => exact Rp.keep (Kp.upd (.inr (.inr rfl))) q
    | o n => exact q
    | l ns =>
      obtain ⟨a, e, q⟩ := q
      exact ⟨a, e, q.keep (Kp.upd (.inr (.inr rfl))) fun _ _ _ z => z⟩⟩
end
section
variable {L : Lc} {Γ : Gv}
theorem lc_imp {own : List (Str × Nat)} {t : Tg} {it : CI} {cond : CT} {elt : CE} {σ : L2.St} {H : Hp} {Q : VK} (hn : ∀ i ∈ tgNames t, i ∈ own.map (·.2)) (h : LE L (wE Γ (.lc own t it cond elt)) σ H Q) :
    tLc (LI L (wI Γ it)) (gT L.K t) (LT L.nox (wT Γ cond)) (LE L.nox (wE Γ elt)) (own.map (·.2)) σ H Q := by
  obtain ⟨ρ, sl, oh, Y, Qd, Ed, s, h, hq, hx⟩ := h
  simp only [wE] at h
  refine ⟨ρ, sl, oh, Y, _, Ed, s, h, fun items still oh1 J H1 ρ1 q ok1 st1 ri => ?_, hx⟩
  intro D hD
  obtain ⟨hsz, G, wd, hG⟩ := ri
  obtain ⟨okh, sth⟩ := ok1.hide (o := .lst []) hD rfl
  have s1 : SlR L.K H1 ρ1 oh1 Y σ sl := s.sr.keep st1 s.ok
  have yle : ∀ a, hid Y D a → Y a ∨ H1 a = none := fun a y => y.imp id fun e => by rw [e]; exact hD
  refine ⟨fun i m H' => m = items.length - i ∧ i ≤ items.length ∧ ∃ ρ' oh' acc accV, Ok L.K H' ρ' oh' (hid Y D) ∧ Stp H1 ρ1 oh1 H' ρ' oh' ∧ SlR L.K H' ρ' oh' (hid Y D) σ sl ∧ H' D = some (.lst accV) ∧
    RpAll L.K H' (Zn ρ' oh' (hid Y D)) accV acc ∧ accV.length ≤ i ∧ lcGo _ still (items.drop i) acc oh' _, ⟨_, rfl, Nat.zero_le _, ρ1, oh1, [], [], okh, sth, s1.hide hD, upd_same, .nil, Nat.le_refl _, q⟩, ?_⟩
  rintro i m H' ⟨rfl, hi, ρ', oh', acc, accV, ok', st', sr', hD', ra, hal, q⟩
  rcases Nat.lt_or_ge i items.length with hlt | hge
  · rw [List.drop_eq_getElem_cons hlt] at q
    obtain ⟨hst, q⟩ := q
    have g := hG H' ρ' oh' _ hst ok' st' yle
    refine .inr ⟨wd.go i H' _ hlt g, fun H'' => _, fun H'' w => ⟨items.length - (i + 1), by omega, w⟩, fun x H'' y => ?_⟩
    obtain ⟨gr, d, ed, rx⟩ := wd.yld i H' _ x H'' hlt g ok'.dom y
    have ed' : d = items[i] := by
      rw [List.getElem?_eq_getElem hlt] at ed
      cases ed; rfl
    subst ed'
    obtain ⟨ok2, st2⟩ := ok'.grow gr
    obtain ⟨sl', eb, w⟩ := q
    have sr2 : SlR L.K H'' ρ' oh' (hid Y D) σ sl := sr'.keep st2 ok'
    refine (bind_ok t).1 _ _ sl' x _ _ eb rx sr2.wipe fun σ2 s3 kp => ⟨?_, ?_⟩
    · refine List.ext_getElem? fun j => ?_
      by_cases hj : j ∈ own.map (·.2)
      · rw [wipe_get hj, wipe_get hj]
        have l2 : σ2.length = σ.length := by
          have := s3.1
          have h2 := sr2.wipe (vs := own.map (·.2))
          have h3 := bindT_len eb
          rw [← this, h3, h2.1, wipe_length]
        by_cases q : j < σ.length
        · rw [List.getElem?_eq_getElem (by omega), List.getElem?_eq_getElem q]; rfl
        · rw [List.getElem?_eq_none (by omega), List.getElem?_eq_none (by omega)]
      · rw [wipe_out hj, kp j fun z => hj (hn j z)]
    · have hx0 : ∀ {σ : L2.St} {H : Hp} {ρ : List Addr} {oh : OH} {Y : ZS}, Exq L.nox σ H ρ oh Y (fun _ _ => False) := fun x oh' cls d H' ρ' e => e.elim
      refine go (L := L.nox) ⟨ok2, s3⟩ w hx0 fun b oh3 bv H3 ρ3 q s4 st3 vb hx3 => ?_
      cases (show bv = b from vb)
      cases b with
      | true =>
        rw [if_pos rfl] at q ⊢
        refine Lf.store (go (L := L.nox) (rel := rD L.K) s4 q hx3 fun y oh4 v H4 ρ4 q s5 st4 rv hx4 => ?_)
        have stAll : Stp H' ρ' oh' H4 ρ4 oh4 := (st2.trans st3).trans st4
        have hD4 : H4 D = some (.lst accV) := (stAll.ext D _ (ok'.yl D (.inr rfl)) hD').same rfl
        have ra4 : RpAll L.K H4 (Zn ρ4 oh4 (hid Y D)) accV acc := ra.keep (stAll.kp ok')
        have ok4 : Ok L.K H4 ρ4 oh4 (hid Y D) := s5.ok
        have zD : Zn ρ4 oh4 (hid Y D) D := .inr (.inr rfl)
        refine ⟨accV, hD4, by omega, ?_⟩
        exact ⟨rfl, hlt, ρ4, oh4, acc ++ [y], accV ++ [v], ok4.hidW rfl, (st'.trans stAll).hidW hD, (sr'.keep stAll ok').hidW, upd_same, (ra4.append (.cons rv .nil)).keep (Kp.upd zD), by simp; omega, q⟩
      | false =>
        rw [if_neg (by decide)] at q ⊢
        have stAll : Stp H' ρ' oh' H3 ρ3 oh3 := st2.trans st3
        exact ⟨rfl, hlt, ρ3, oh3, acc, accV, s4.ok, st'.trans stAll, sr'.keep stAll ok', (stAll.ext D _ (ok'.yl D (.inr rfl)) hD').same rfl, ra.keep (stAll.kp ok'), by omega, q⟩
  · have e : i = items.length := by omega
    subst e
    rw [List.drop_eq_nil_of_le (Nat.le_refl _)] at q
    obtain ⟨hst, q⟩ := q
    have g := hG H' ρ' oh' _ hst ok' st' yle
    refine .inl ⟨wd.stop H' _ g, ?_⟩
    have nY : ¬ Y D := fun y => by
      obtain ⟨u, e, _⟩ := ok1.yh D y
      rw [hD] at e; cases e
    exact hq _ _ _ _ _ q (ok'.claim nY hD' (by omega) ra) (st1.trans (st'.claim ok'.len hD)) ⟨D, rfl, by rw [← ok'.len]; simp⟩
/-- the hidden list is a list that is read alone -/
theorem Ok.unhide {K : PySem.W.Frag} {H : Hp} {ρ : List Addr} {oh : OH} {Y : ZS} {D : Addr} (ok : Ok K H ρ oh (hid Y D)) : Ok K H ρ oh Y :=
  ⟨ok.len, ok.nd, fun i ob a e1 e2 => (ok.at_ i ob a e1 e2).mono fun b z => z.imp id .inl, fun a y => ok.yl a (.inl y), fun a y => ok.yh a (.inl y)⟩
theorem pr_snoc {ρ : List Addr} {ns : List Nat} {as : List Addr} {n : Nat} {b : Addr} (hl : as.length = ns.length) (h : ∀ (k n : Nat), ns[k]? = some n → ∃ b, as[k]? = some b ∧ ρ[n]? = some b) (e : ρ[n]? = some b) :
    ∀ (k m : Nat), (ns ++ [n])[k]? = some m → ∃ c, (as ++ [b])[k]? = some c ∧ ρ[m]? = some c := fun k m hk => by
  rcases Nat.lt_or_ge k ns.length with q | q
  · rw [List.getElem?_append_left q] at hk
    obtain ⟨c, e1, e2⟩ := h k m hk
    exact ⟨c, by rw [List.getElem?_append_left (by omega)]; exact e1, e2⟩
  · have hk' := lt_get hk
    have : k = ns.length := by simp at hk'; omega
    subst this
    rw [List.getElem?_append_right (Nat.le_refl _)] at hk
    simp at hk
    subst hk
    exact ⟨b, by rw [← hl, List.getElem?_append_right (Nat.le_refl _)]; simp, e⟩
theorem lcO_imp {own : List (Str × Nat)} {t : Tg} {it : CI} {elt : CE} {σ : L2.St} {H : Hp} {Q : VK} (hn : ∀ i ∈ tgNames t, i ∈ own.map (·.2)) (h : LE L (wE Γ (.lcO own t it elt)) σ H Q) :
    tLc (LI L (wI Γ it)) (gT L.K t) (LT L.nox (wT Γ .yes)) (LE L.nox (wE Γ elt)) (own.map (·.2)) σ H Q := by
  obtain ⟨ρ, sl, oh, Y, Qd, Ed, s, h, hq, hx⟩ := h
  simp only [wE] at h
  refine ⟨ρ, sl, oh, Y, _, Ed, s, h, fun items still oh1 J H1 ρ1 q ok1 st1 ri => ?_, hx⟩
  intro D hD
  obtain ⟨hsz, G, wd, hG⟩ := ri
  obtain ⟨okh, sth⟩ := ok1.hide (o := .lst []) hD rfl
  have s1 : SlR L.K H1 ρ1 oh1 Y σ sl := s.sr.keep st1 s.ok
  have yle : ∀ a, hid Y D a → Y a ∨ H1 a = none := fun a y => y.imp id fun e => by rw [e]; exact hD
  refine ⟨fun i m H' => m = items.length - i ∧ i ≤ items.length ∧ ∃ ρ' oh' acc as, Ok L.K H' ρ' oh' (hid Y D) ∧ Stp H1 ρ1 oh1 H' ρ' oh' ∧ SlR L.K H' ρ' oh' (hid Y D) σ sl ∧ H' D = some (.lst (as.map V.ref)) ∧
    (∀ (k n : Nat), acc[k]? = some n → ∃ b, as[k]? = some b ∧ ρ'[n]? = some b) ∧ as.length = acc.length ∧ as.length ≤ i ∧ lcGoO _ still (items.drop i) acc oh' _, ⟨_, rfl, Nat.zero_le _, ρ1, oh1, [], [], okh, sth, s1.hide hD, upd_same, (fun k n e => by simp at e), rfl, Nat.le_refl _, q⟩, ?_⟩
  rintro i m H' ⟨rfl, hi, ρ', oh', acc, as, ok', st', sr', hD', ra, hae, hal, q⟩
  rcases Nat.lt_or_ge i items.length with hlt | hge
  · rw [List.drop_eq_getElem_cons hlt] at q
    obtain ⟨hst, q⟩ := q
    have g := hG H' ρ' oh' _ hst ok' st' yle
    refine .inr ⟨wd.go i H' _ hlt g, fun H'' => _, fun H'' w => ⟨items.length - (i + 1), by omega, w⟩, fun x H'' y => ?_⟩
    obtain ⟨gr, d, ed, rx⟩ := wd.yld i H' _ x H'' hlt g ok'.dom y
    have ed' : d = items[i] := by
      rw [List.getElem?_eq_getElem hlt] at ed
      cases ed; rfl
    subst ed'
    obtain ⟨ok2, st2⟩ := ok'.grow gr
    obtain ⟨sl', eb, w⟩ := q
    have sr2 : SlR L.K H'' ρ' oh' (hid Y D) σ sl := sr'.keep st2 ok'
    refine (bind_ok t).1 _ _ sl' x _ _ eb rx sr2.wipe fun σ2 s3 kp => ⟨?_, ?_⟩
    · refine List.ext_getElem? fun j => ?_
      by_cases hj : j ∈ own.map (·.2)
      · rw [wipe_get hj, wipe_get hj]
        have l2 : σ2.length = σ.length := by
          have := s3.1
          have h2 := sr2.wipe (vs := own.map (·.2))
          have h3 := bindT_len eb
          rw [← this, h3, h2.1, wipe_length]
        by_cases q : j < σ.length
        · rw [List.getElem?_eq_getElem (by omega), List.getElem?_eq_getElem q]; rfl
        · rw [List.getElem?_eq_none (by omega), List.getElem?_eq_none (by omega)]
      · rw [wipe_out hj, kp j fun z => hj (hn j z)]
    · have hx0 : ∀ {σ : L2.St} {H : Hp} {ρ : List Addr} {oh : OH} {Y : ZS}, Exq L.nox σ H ρ oh Y (fun _ _ => False) := fun x oh' cls d H' ρ' e => e.elim
      refine go (L := L.nox) (w := wT Γ .yes) (Qd := fun b oh3 => b = true ∧ oh3 = oh') ⟨ok2, s3⟩ (by simp only [wT]; exact ⟨trivial, trivial⟩) hx0 fun b oh3 bv H3 ρ3 q s4 st3 vb hx3 => ?_
      obtain ⟨rfl, rfl⟩ := q
      cases (show bv = true from vb)
      rw [if_pos rfl]
      refine go (L := L.nox) s4 w hx3 fun r oh4 v H4 ρ4 q s5 st4 rv hx4 => ?_
      obtain ⟨n, rfl, q⟩ := q
      obtain ⟨b, rfl, eb⟩ := rv
      have stAll : Stp H' ρ' oh3 H4 ρ4 oh4 := (st2.trans st3).trans st4
      have hD4 : H4 D = some (.lst (as.map V.ref)) := (stAll.ext D _ (ok'.yl D (.inr rfl)) hD').same rfl
      have ok4 : Ok L.K H4 ρ4 oh4 (hid Y D) := s5.ok
      refine ⟨as.map V.ref, hD4, by rw [List.length_map]; omega, ?_⟩
      have em : as.map V.ref ++ [.ref b] = (as ++ [b]).map V.ref := by simp
      rw [em]
      exact ⟨rfl, hlt, ρ4, oh4, acc ++ [n], as ++ [b], ok4.hidW rfl, (st'.trans stAll).hidW hD, (sr'.keep stAll ok').hidW, upd_same, pr_snoc hae (fun k m e => let ⟨c, e1, e2⟩ := ra k m e; ⟨c, e1, stAll.pre m c e2⟩) eb, by simp [hae], by simp; omega, q⟩
  · have e : i = items.length := by omega
    subst e
    rw [List.drop_eq_nil_of_le (Nat.le_refl _)] at q
    obtain ⟨hst, q⟩ := q
    have g := hG H' ρ' oh' _ hst ok' st' yle
    refine .inl ⟨wd.stop H' _ g, ?_⟩
    have nY : ¬ Y D := fun y => by
      obtain ⟨u, e, _⟩ := ok1.yh D y
      rw [hD] at e; cases e
    refine hq _ _ _ _ _ q ok'.unhide (st1.trans st') ⟨D, rfl, as, ⟨?_, .inl hD'⟩, by omega, hae, ra⟩
    rintro (z | z)
    · exact ok'.yl D (.inr rfl) z
    · exact nY z
theorem lcR_imp {own : List (Str × Nat)} {i0 : Nat} {c : CE} {elt : CE} {σ : L2.St} {H : Hp} {Q : VK} (hn : i0 ∈ own.map (·.2)) (h : LE L (wE Γ (.lcR own i0 c elt)) σ H Q) :
    tLc (iList L.K (LE L (wE Γ c))) (gName i0) (LT L.nox (wT Γ .yes)) (LE L.nox (wE Γ elt)) (own.map (·.2)) σ H Q := by
  obtain ⟨ρ, sl, oh, Y, Qd, Ed, s, h, hq, hx⟩ := h
  simp only [wE] at h
  refine go s h hx fun r oh1 v H1 ρ1 q s1' st1 vr hx1 => ?_
  obtain ⟨ns, rfl, q⟩ := q
  obtain ⟨p, rfl, as, h1, h2, h3, h4⟩ := vr
  refine ⟨p, rfl, ⟨_, .inl h1.2⟩, ?_⟩
  intro D hD
  have ok1 := s1'.ok
  obtain ⟨okh, sth⟩ := ok1.hide (o := .lst []) hD rfl
  have s1 : SlR L.K H1 ρ1 oh1 Y σ sl := s1'.sr
  have np : ¬ Liv ρ1 oh1 p := fun z => h1.1 (.inl z)
  have rdp : ∀ {H' : Hp} {ρ' : List Addr} {oh' : OH}, Stp H1 ρ1 oh1 H' ρ' oh' → Rd H' p (.lst (as.map V.ref)) := fun st' => by
    rcases h1.2 with z | ⟨o, z⟩
    · exact (st'.ext p _ np z).rd
    · exact .inr ⟨o, (st'.ext p _ np z).same rfl⟩
  refine ⟨fun i m H' => m = ns.length - i ∧ i ≤ ns.length ∧ ∃ ρ' oh' acc accV, Ok L.K H' ρ' oh' (hid Y D) ∧ Stp H1 ρ1 oh1 H' ρ' oh' ∧ SlR L.K H' ρ' oh' (hid Y D) σ sl ∧ H' D = some (.lst accV) ∧
    RpAll L.K H' (Zn ρ' oh' (hid Y D)) accV acc ∧ accV.length ≤ i ∧ lcGoR _ (ns.drop i) acc oh' _, ⟨_, rfl, Nat.zero_le _, ρ1, oh1, [], [], okh, sth, s1.hide hD, upd_same, .nil, Nat.le_refl _, q⟩, ?_⟩
  rintro i m H' ⟨rfl, hi, ρ', oh', acc, accV, ok', st', sr', hD', ra, hal, q⟩
  have rp := rdp st'
  rcases Nat.lt_or_ge i ns.length with hlt | hge
  · rw [List.drop_eq_getElem_cons hlt] at q
    obtain ⟨b, eb, er⟩ := h4 i _ (List.getElem?_eq_getElem hlt)
    have ev : (as.map V.ref)[i]? = some (.ref b) := by rw [List.getElem?_map, eb]; rfl
    refine .inr ⟨⟨_, _, .inl rp, ev⟩, fun H'' => _, fun H'' w => ⟨ns.length - (i + 1), by omega, w⟩, fun x H'' y => ?_⟩
    obtain ⟨eH, y2⟩ := y
    subst eH
    have ex := y2 _ (.inl rp)
    rw [ev] at ex
    cases ex
    have sr2 := sr'.wipe (vs := own.map (·.2))
    have s3 := sr2.set (i := i0) (v := .ref b) (r := .o ns[i]) ⟨b, rfl, st'.pre _ _ er⟩
    refine ⟨?_, ?_⟩
    · refine List.ext_getElem? fun j => ?_
      by_cases hj : j ∈ own.map (·.2)
      · rw [wipe_get hj, wipe_get hj]
        by_cases q : j < σ.length
        · rw [List.getElem?_eq_getElem (by rw [List.length_set, wipe_length]; exact q), List.getElem?_eq_getElem q]; rfl
        · rw [List.getElem?_eq_none (by rw [List.length_set, wipe_length]; omega), List.getElem?_eq_none (by omega)]
      · rw [wipe_out hj, List.getElem?_set_ne (fun z => by subst z; exact hj hn)]
    · have hx0 : ∀ {σ : L2.St} {H : Hp} {ρ : List Addr} {oh : OH} {Y : ZS}, Exq L.nox σ H ρ oh Y (fun _ _ => False) := fun x oh' cls d H' ρ' e => e.elim
      refine go (L := L.nox) (w := wT Γ .yes) (Qd := fun b oh3 => b = true ∧ oh3 = oh') ⟨ok', s3⟩ (by simp only [wT]; exact ⟨trivial, trivial⟩) hx0 fun b oh3 bv H3 ρ3 qq s4 st3 vb hx3 => ?_
      obtain ⟨rfl, rfl⟩ := qq
      cases (show bv = true from vb)
      rw [if_pos rfl]
      refine Lf.store (go (L := L.nox) (rel := rD L.K) (w := wD (wE Γ elt)) s4 q hx3 fun y oh4 v H4 ρ4 q s5 st4 rv hx4 => ?_)
      have stAll : Stp _ ρ' oh3 H4 ρ4 oh4 := st3.trans st4
      have hD4 : H4 D = some (.lst accV) := (stAll.ext D _ (ok'.yl D (.inr rfl)) hD').same rfl
      have ra4 : RpAll L.K H4 (Zn ρ4 oh4 (hid Y D)) accV acc := ra.keep (stAll.kp ok')
      have ok4 : Ok L.K H4 ρ4 oh4 (hid Y D) := s5.ok
      have zD : Zn ρ4 oh4 (hid Y D) D := .inr (.inr rfl)
      refine ⟨accV, hD4, by omega, ?_⟩
      exact ⟨rfl, hlt, ρ4, oh4, acc ++ [y], accV ++ [v], ok4.hidW rfl, (st'.trans stAll).hidW hD, (sr'.keep stAll ok').hidW, upd_same, (ra4.append (.cons rv .nil)).keep (Kp.upd zD), by simp; omega, q⟩
  · have e : i = ns.length := by omega
    subst e
    rw [List.drop_eq_nil_of_le (Nat.le_refl _)] at q
    refine .inl ⟨⟨_, .inl rp, by rw [List.length_map]; omega⟩, ?_⟩
    have nY : ¬ Y D := fun y => by
      obtain ⟨u, e, _⟩ := ok1.yh D y
      rw [hD] at e; cases e
    exact hq _ _ _ _ _ q (ok'.claim nY hD' (by omega) ra) (st1.trans (st'.claim ok'.len hD)) ⟨D, rfl, by rw [← ok'.len]; simp⟩
end
section
variable {X : Cx} {L : Lc} {Γ : Gv} {e tg iter : Expr} {ifs : List Expr} {scope : Scope} {own : List (Str × Nat)} {pos : Pos} {t : Tg} {it : CI} {cond : CT} {elt : CE}
theorem ke_lc (hc : X.calm = true) (hN : X.N.Nodup) (hn : ∀ i ∈ tgNames t, i ∈ own.map (·.2)) (hi : PI X tg iter (LI L (wI Γ it))) (ok : BlkOk X.N X.env.scope scope own)
    (hg : ∀ (s : Shared) (H : Hp) (C : Addr) (cl : List (Str × Addr)) (fp : List Addr), PG (X.blk s H scope (compEnvC scope cl C X.env) fp) tg (gT L.K t))
    (ht : ∀ (s : Shared) (H : Hp) (C : Addr) (cl : List (Str × Addr)) (fp : List Addr), PTs (X.blk s H scope (compEnvC scope cl C X.env) fp) ifs (LT L.nox (wT Γ cond)))
    (he : ∀ (s : Shared) (H : Hp) (C : Addr) (cl : List (Str × Addr)) (fp : List Addr), PE (X.blk s H scope (compEnvC scope cl C X.env) fp) e (LE L.nox (wE Γ elt))) (hs : ∀ x, foldedSetIterable iter X.env x = pure x) :
    PE X (.ListComp e [⟨tg, iter, ifs, 0⟩] scope pos) (LE L (wE Γ (.lc own t it cond elt))) :=
  (pe_lc hc hN hi ok hg ht he hs).imp fun σ H Q h => lc_imp hn h
theorem ke_lcO (hc : X.calm = true) (hN : X.N.Nodup) (hn : ∀ i ∈ tgNames t, i ∈ own.map (·.2)) (hi : PI X tg iter (LI L (wI Γ it))) (ok : BlkOk X.N X.env.scope scope own)
    (hg : ∀ (s : Shared) (H : Hp) (C : Addr) (cl : List (Str × Addr)) (fp : List Addr), PG (X.blk s H scope (compEnvC scope cl C X.env) fp) tg (gT L.K t))
    (ht : ∀ (s : Shared) (H : Hp) (C : Addr) (cl : List (Str × Addr)) (fp : List Addr), PTs (X.blk s H scope (compEnvC scope cl C X.env) fp) [] (LT L.nox (wT Γ .yes)))
    (he : ∀ (s : Shared) (H : Hp) (C : Addr) (cl : List (Str × Addr)) (fp : List Addr), PE (X.blk s H scope (compEnvC scope cl C X.env) fp) e (LE L.nox (wE Γ elt))) (hs : ∀ x, foldedSetIterable iter X.env x = pure x) :
    PE X (.ListComp e [⟨tg, iter, [], 0⟩] scope pos) (LE L (wE Γ (.lcO own t it elt))) :=
  (pe_lc hc hN hi ok hg ht he hs).imp fun σ H Q h => lcO_imp hn h
theorem ke_lcR {i0 : Nat} {c : CE} (hK : L.K = X.K) (hc : X.calm = true) (hN : X.N.Nodup) (hn : i0 ∈ own.map (·.2)) (hi : PE X iter (LE L (wE Γ c))) (ok : BlkOk X.N X.env.scope scope own)
    (hg : ∀ (s : Shared) (H : Hp) (C : Addr) (cl : List (Str × Addr)) (fp : List Addr), PG (X.blk s H scope (compEnvC scope cl C X.env) fp) tg (gName i0))
    (ht : ∀ (s : Shared) (H : Hp) (C : Addr) (cl : List (Str × Addr)) (fp : List Addr), PTs (X.blk s H scope (compEnvC scope cl C X.env) fp) [] (LT L.nox (wT Γ .yes)))
    (he : ∀ (s : Shared) (H : Hp) (C : Addr) (cl : List (Str × Addr)) (fp : List Addr), PE (X.blk s H scope (compEnvC scope cl C X.env) fp) e (LE L.nox (wE Γ elt))) (hs : ∀ x, foldedSetIterable iter X.env x = pure x) :
    PE X (.ListComp e [⟨tg, iter, [], 0⟩] scope pos) (LE L (wE Γ (.lcR own i0 c elt))) :=
  (pe_lc hc hN (pi_list hi) ok hg ht he hs).imp fun σ H Q h => by rw [← hK]; exact lcR_imp hn h
end
end Kd

namespace Kd
open PySem PySem.Spec PyProof.Rows L2 RZ
structure Dok (L : Lc) (Y : ZS) (H0 : Hp) (ρ0 : List Addr) (oh0 : OH) (Dd : DE) (D : Ends) : Prop where
  nx : ∀ st σ' H' ρ', Dd.nx st → Nw L σ' H' ρ' st.sl st.oh Y → Stp H0 ρ0 oh0 H' ρ' st.oh → D.nx σ' H'
  rt : ∀ r oh' v H' ρ', Dd.rt r oh' → Ok L.K H' ρ' oh' Y → Stp H0 ρ0 oh0 H' ρ' oh' → VR L.K H' ρ' oh' Y v r → D.rt v H'
  bk : ∀ st σ' H' ρ', Dd.bk st → Nw L σ' H' ρ' st.sl st.oh Y → Stp H0 ρ0 oh0 H' ρ' st.oh → D.bk σ' H'
  ct : ∀ st σ' H' ρ', Dd.ct st → Nw L σ' H' ρ' st.sl st.oh Y → Stp H0 ρ0 oh0 H' ρ' st.oh → D.ct σ' H'
def ExS (L : Lc) (Y : ZS) (H0 : Hp) (ρ0 : List Addr) (oh0 : OH) (Ed : QX) : Prop :=
  ∀ x oh' cls d σ' H' ρ', Ed x oh' → Ok L.K H' ρ' oh' Y → Stp H0 ρ0 oh0 H' ρ' oh' → L.xr x cls d → L.W cls d σ' H'
abbrev WSt := DS → DE → QX → Prop
def LSt (L : Lc) (w : WSt) : TS := fun D σ H => ∃ ρ sl oh Y Dd Ed, Nw L σ H ρ sl oh Y ∧ w ⟨sl, oh⟩ Dd Ed ∧ Dok L Y H ρ oh Dd D ∧ ExS L Y H ρ oh Ed
section
variable {L : Lc} {Γ : Gv} {σ : L2.St} {H H1 : Hp} {ρ ρ1 : List Addr} {sl : Sl} {oh oh1 : OH} {Y : ZS} {Ed : QX} {Dd : DE} {D : Ends}
theorem Dok.step (st : Stp H ρ oh H1 ρ1 oh1) (h : Dok L Y H ρ oh Dd D) : Dok L Y H1 ρ1 oh1 Dd D :=
  ⟨fun s σ' H' ρ' q n t => h.nx s σ' H' ρ' q n (st.trans t), fun r oh' v H' ρ' q n t => h.rt r oh' v H' ρ' q n (st.trans t), fun s σ' H' ρ' q n t => h.bk s σ' H' ρ' q n (st.trans t), fun s σ' H' ρ' q n t => h.ct s σ' H' ρ' q n (st.trans t)⟩
theorem ExS.step (st : Stp H ρ oh H1 ρ1 oh1) (h : ExS L Y H ρ oh Ed) : ExS L Y H1 ρ1 oh1 Ed := fun x oh' cls d σ' H' ρ' q n t => h x oh' cls d σ' H' ρ' q n (st.trans t)
theorem ExS.exq (h : ExS L Y H ρ oh Ed) : Exq L σ H ρ oh Y Ed := fun x oh' cls d H' ρ' q n t r => h x oh' cls d σ H' ρ' q n t r
theorem ls_cons {s : CS} {b : CB} (h : LSt L (wB Γ (.cons s b)) D σ H) : tSeq (LSt L (wS Γ s)) (LSt L (wB Γ b)) D σ H := by
  obtain ⟨ρ, sl, oh, Y, Dd, Ed, n, w, dk, hx⟩ := h
  simp only [wB] at w
  exact ⟨ρ, sl, oh, Y, _, Ed, n, w, ⟨fun st σ' H' ρ' q n' t => ⟨ρ', st.sl, st.oh, Y, Dd, Ed, n', q, dk.step t, hx.step t⟩, dk.rt, dk.bk, dk.ct⟩, hx⟩
theorem ls_nil (h : LSt L (wB Γ .nil) D σ H) : tNext D σ H := by
  obtain ⟨ρ, sl, oh, Y, Dd, Ed, n, w, dk, hx⟩ := h
  simp only [wB] at w
  exact dk.nx ⟨sl, oh⟩ σ H ρ w n Stp.refl
theorem ls_asg {own : Bool} {i : Nat} {c : CE} (h : LSt L (wS Γ (.asg own i c)) D σ H) : tAsg (LE L (wE Γ c)) (gName i) D σ H := by
  obtain ⟨ρ, sl, oh, Y, Dd, Ed, n, w, dk, hx⟩ := h
  simp only [wS] at w
  cases own with
  | true =>
    simp only [if_pos] at w
    exact go n w hx.exq fun r oh1 v H1 ρ1 q s1 st1 vr hx1 => dk.nx ⟨sl.set i (some r), oh1⟩ _ _ ρ1 q ⟨s1.ok, s1.sr.set vr⟩ st1
  | false =>
    have w' : wN (wE Γ c) sl oh (fun r oh1 => Dd.nx ⟨sl.set i (some r), oh1⟩) Ed := by simpa [wN] using w
    exact Lf.norm (go n w' hx.exq fun r oh1 v H1 ρ1 q s1 st1 vr hx1 => dk.nx ⟨sl.set i (some r), oh1⟩ _ _ ρ1 q ⟨s1.ok, s1.sr.set vr⟩ st1)
theorem ls_unp {t : Tg} {c : CE} (h : LSt L (wS Γ (.unp t c)) D σ H) : tAsg (LE L (wE Γ c)) (gT L.K t) D σ H := by
  obtain ⟨ρ, sl, oh, Y, Dd, Ed, n, w, dk, hx⟩ := h
  simp only [wS] at w
  refine Lf.norm (go (w := wN (wE Γ c)) n w hx.exq fun r oh1 v H1 ρ1 q s1 st1 vr hx1 => ?_)
  obtain ⟨d, sl', rfl, eb, q⟩ := q
  exact (bind_ok t).1 d sl sl' v σ _ eb vr s1.sr fun σ' s' _ => dk.nx ⟨sl', oh1⟩ _ _ ρ1 q ⟨s1.ok, s'⟩ st1
theorem ls_par2 {i j : Nat} {as : CA} (h : LSt L (wS Γ (.par [i, j] as)) D σ H) : tPar i j (LNs L 2 (wNs Γ as)) D σ H := by
  obtain ⟨ρ, sl, oh, Y, Dd, Ed, nn, w, dk, hx⟩ := h
  simp only [wS] at w
  refine go nn w hx.exq fun r oh1 v H1 ρ1 q s1 st1 vr hx1 => ?_
  obtain ⟨sl', e, q⟩ := q
  obtain ⟨vr, hl⟩ := vr
  cases vr with
  | nil => cases hl
  | cons v1 vr =>
    cases vr with
    | nil => cases hl
    | cons v2 vr =>
      cases vr with
      | nil =>
        simp only [setAll] at e
        cases e
        exact ⟨_, _, rfl, dk.nx ⟨_, oh1⟩ _ _ ρ1 q ⟨s1.ok, (s1.sr.set v1).set v2⟩ st1⟩
      | cons _ _ => simp at hl
theorem ls_par3 {i j k : Nat} {as : CA} (h : LSt L (wS Γ (.par [i, j, k] as)) D σ H) : tPar3 i j k (LNs L 3 (wNs Γ as)) D σ H := by
  obtain ⟨ρ, sl, oh, Y, Dd, Ed, nn, w, dk, hx⟩ := h
  simp only [wS] at w
  refine go nn w hx.exq fun r oh1 v H1 ρ1 q s1 st1 vr hx1 => ?_
  obtain ⟨sl', e, q⟩ := q
  obtain ⟨vr, hl⟩ := vr
  cases vr with
  | nil => cases hl
  | cons v1 vr =>
    cases vr with
    | nil => cases hl
    | cons v2 vr =>
      cases vr with
      | nil => cases hl
      | cons v3 vr =>
        cases vr with
        | nil =>
          simp only [setAll] at e
          cases e
          exact ⟨_, _, _, rfl, dk.nx ⟨_, oh1⟩ _ _ ρ1 q ⟨s1.ok, ((s1.sr.set v1).set v2).set v3⟩ st1⟩
        | cons _ _ => simp at hl
/-- names in a row, as a target -/
def tgOf : List Nat → Tg
  | [] => .nil
  | i :: is => .cons (.nm i) (tgOf is)
theorem tgOf_len : ∀ is : List Nat, tgLen (tgOf is) = is.length
  | [] => rfl
  | _ :: is => by simp [tgOf, tgLen, tgOf_len is]
theorem gTs_names {K : PySem.W.Frag} : ∀ {is : List Nat} {vs : List V} {rs : List Vl} {σ : L2.St} {sl sl' : Sl} {Q : L2.St → Hp → Prop}, setAll is rs sl = some sl' → VRs K H ρ oh Y vs rs → SlR K H ρ oh Y σ sl → (∀ σ', SlR K H ρ oh Y σ' sl' → Q σ' H) → gTs K (tgOf is) vs σ H Q
  | [], _, _, _, _, _, _, e, r, s, k => by
    cases r with
    | nil => simp only [setAll] at e; cases e; exact ⟨rfl, k _ s⟩
    | cons _ _ => simp [setAll] at e
  | i :: is, _, _, _, _, _, _, e, r, s, k => by
    cases r with
    | nil => simp [setAll] at e
    | cons a t =>
      simp only [setAll] at e
      exact ⟨_, _, rfl, gTs_names e t (s.set a) k⟩
theorem setAll_len : ∀ {is : List Nat} {rs : List Vl} {sl sl' : Sl}, setAll is rs sl = some sl' → is.length = rs.length
  | [], [], _, _, _ => rfl
  | [], _ :: _, _, _, e => by simp [setAll] at e
  | _ :: _, [], _, _, e => by simp [setAll] at e
  | i :: is, r :: rs, sl, sl', e => by simp only [setAll] at e; simp [setAll_len e]
theorem ls_parc {i : Nat} {is : List Nat} {as : CA} {n : Nat} (hl : n ≤ sizeLine) (h : LSt L (wS Γ (.parc (i :: is) as)) D σ H) : tAsg (tTup (LNs L n (wNs Γ as))) (gT L.K (tgOf (i :: is))) D σ H := by
  obtain ⟨ρ, sl, oh, Y, Dd, Ed, nn, w, dk, hx⟩ := h
  simp only [wS] at w
  refine go nn w hx.exq fun r oh1 v H1 ρ1 q s1 st1 vr hx1 => ?_
  obtain ⟨sl', e, q⟩ := q
  obtain ⟨vr, hln⟩ := vr
  refine ⟨by omega, fun p hp => ?_⟩
  obtain ⟨ok2, st2⟩ := s1.ok.grow (Gr.upd (o := .tup v) hp)
  have hv := vr.length
  have hi := setAll_len e
  refine .inl ⟨p, v, rfl, .inl (.inl upd_same), ?_, gTs_names (is := i :: is) e (vr.keep st2 s1.ok) (s1.sr.keep st2 s1.ok) fun σ' s' => dk.nx ⟨sl', oh1⟩ _ _ ρ1 q ⟨ok2, s'⟩ (st1.trans st2)⟩
  rw [tgOf_len]
  simp at hi
  omega
theorem ls_sset {o i e : CE} (h : LSt L (wS Γ (.sset o i e)) D σ H) : tAsg (Lf L (rD L.K) (wD (wE Γ e))) (gSub (LE L (wE Γ o)) (LE L (wN (wE Γ i))) (rSetD L.K)) D σ H := by
  obtain ⟨ρ, sl, oh, Y, Dd, Ed, n, w, dk, hx⟩ := h
  simp only [wS] at w
  refine go (w := wD (wE Γ e)) n w hx.exq fun d oh1 v H1 ρ1 q s1 st1 rv hx1 => go s1 q hx1 fun r2 oh2 v2 H2 ρ2 q s2 st2 vr2 hx2 => ?_
  obtain ⟨k, rfl, q⟩ := q
  refine go (w := wN (wE Γ i)) s2 q hx2 fun r3 oh3 v3 H3 ρ3 q s3 st3 vr3 hx3 => ?_
  obtain ⟨ob, ob', di, e1, e2, rfl, e3, e4, q⟩ := q
  obtain ⟨a, rfl, ea⟩ := vr2
  have ea3 := st3.pre k a ea
  refine ⟨a, _, ob, di, d, ob', rfl, s3.ok.at_ k ob a e1 ea3, vr3, Rp.keep (st3.kp s2.ok) (Rp.keep (st2.kp s1.ok) rv), .inl ⟨k, ob, e1, e2, ea3⟩, e3, fun ho hat => ?_⟩
  obtain ⟨ok4, st4⟩ := s3.ok.write e1 ea3 e2 e4 (hat.mono fun b hb => zn_set e1 e2 hb)
  exact dk.nx ⟨sl, _⟩ _ _ ρ3 q (s3.step ok4 st4) (((st1.trans st2).trans st3).trans st4)
theorem ls_sps {o i : CE} {j : Nat} {as : CA} (h : LSt L (wS Γ (.sps o i j as)) D σ H) : tAsg (tTup (LAs L 2 (wAs Γ as))) (gTup L.K 2 (gCons (gSub (LE L (wE Γ o)) (LE L (wN (wE Γ i))) (rSetD L.K)) (gCons (gName j) gNil))) D σ H := by
  obtain ⟨ρ, sl, oh, Y, Dd, Ed, nn, w, dk, hx⟩ := h
  simp only [wS] at w
  refine go nn w hx.exq fun ds oh1 vs H1 ρ1 q s1 st1 vr hx1 => ?_
  obtain ⟨d, e, rfl, q⟩ := q
  obtain ⟨rv, hln⟩ := vr
  refine ⟨by rw [hln, sizeLine_eq]; omega, fun p hp => ?_⟩
  obtain ⟨ok2, stt⟩ := s1.ok.grow (Gr.upd (o := .tup vs) hp)
  cases rv with
  | cons rv1 rv2 =>
    cases rv2 with
    | cons rv2 rv3 =>
      cases rv3
      have rv1 := Rp.keep (stt.kp s1.ok) rv1
      have rv2 := Rp.keep (stt.kp s1.ok) rv2
      refine ⟨p, _, rfl, .inl (.inl upd_same), rfl, _, _, rfl, ?_⟩
      have s1' := s1.step ok2 stt
      refine go s1' q (hx1.step stt) fun r2 oh2 v2 H2 ρ2 q s2 st2 vr2 hx2 => ?_
      obtain ⟨k, rfl, q⟩ := q
      refine go (w := wN (wE Γ i)) s2 q hx2 fun r3 oh3 v3 H3 ρ3 q s3 st3 vr3 hx3 => ?_
      obtain ⟨ob, ob', di, e1, e2, rfl, e3, e4, q⟩ := q
      obtain ⟨a, rfl, ea⟩ := vr2
      have ea3 := st3.pre k a ea
      refine ⟨a, _, ob, di, d, ob', rfl, s3.ok.at_ k ob a e1 ea3, vr3, Rp.keep (st3.kp s2.ok) (Rp.keep (st2.kp s1'.ok) rv1), .inl ⟨k, ob, e1, e2, ea3⟩, e3, fun ho hat => ?_⟩
      obtain ⟨ok4, st4⟩ := s3.ok.write e1 ea3 e2 e4 (hat.mono fun b hb => zn_set e1 e2 hb)
      have s4 := s3.step ok4 st4
      refine ⟨_, _, rfl, ⟨rfl, ?_⟩⟩
      exact dk.nx ⟨_, _⟩ _ _ ρ3 q ⟨s4.ok, s4.sr.set (r := .d e) (Rp.keep (st4.kp s3.ok) (Rp.keep (st3.kp s2.ok) (Rp.keep (st2.kp s1'.ok) rv2)))⟩ ((((st1.trans stt).trans st2).trans st3).trans st4)
theorem ls_exp {c : CE} (h : LSt L (wS Γ (.exp c)) D σ H) : tDrop (LE L (wE Γ c)) D σ H := by
  obtain ⟨ρ, sl, oh, Y, Dd, Ed, n, w, dk, hx⟩ := h
  simp only [wS] at w
  exact Lf.norm (go (w := wN (wE Γ c)) n w hx.exq fun r oh1 v H1 ρ1 q s1 st1 vr hx1 => dk.nx ⟨sl, oh1⟩ _ _ ρ1 q s1 st1)
theorem ls_ret {c : CE} (h : LSt L (wS Γ (.ret c)) D σ H) : tRet (LE L (wE Γ c)) D σ H := by
  obtain ⟨ρ, sl, oh, Y, Dd, Ed, n, w, dk, hx⟩ := h
  simp only [wS] at w
  exact go n w hx.exq fun r oh1 v H1 ρ1 q s1 st1 vr hx1 => dk.rt r oh1 v H1 ρ1 q s1.ok st1 vr
theorem ls_retN (h : LSt L (wS Γ .retN) D σ H) : tRetN D σ H := by
  obtain ⟨ρ, sl, oh, Y, Dd, Ed, n, w, dk, hx⟩ := h
  simp only [wS] at w
  exact dk.rt _ _ _ _ ρ w n.ok Stp.refl Rp.non
theorem ls_ife {c : CT} {a b : CB} (h : LSt L (wS Γ (.ife c a b)) D σ H) : tIfS (LT L (wT Γ c)) (LSt L (wB Γ a)) (LSt L (wB Γ b)) D σ H := by
  obtain ⟨ρ, sl, oh, Y, Dd, Ed, n, w, dk, hx⟩ := h
  simp only [wS] at w
  refine go n w hx.exq fun k oh1 v H1 ρ1 q s1 st1 vr hx1 => ?_
  cases (show v = k from vr)
  cases k with
  | true =>
    rw [if_pos rfl] at q ⊢
    exact ⟨ρ1, sl, oh1, Y, Dd, Ed, s1, q, dk.step st1, hx.step st1⟩
  | false =>
    rw [if_neg (by decide)] at q ⊢
    exact ⟨ρ1, sl, oh1, Y, Dd, Ed, s1, q, dk.step st1, hx.step st1⟩
theorem ls_pas (h : LSt L (wS Γ .pas) D σ H) : tNext D σ H := by
  obtain ⟨ρ, sl, oh, Y, Dd, Ed, n, w, dk, hx⟩ := h
  simp only [wS] at w
  exact dk.nx ⟨sl, oh⟩ σ H ρ w n Stp.refl
theorem ls_brk (h : LSt L (wS Γ .brk) D σ H) : tBreak D σ H := by
  obtain ⟨ρ, sl, oh, Y, Dd, Ed, n, w, dk, hx⟩ := h
  simp only [wS] at w
  exact dk.bk ⟨sl, oh⟩ σ H ρ w n Stp.refl
theorem ls_cnt (h : LSt L (wS Γ .cnt) D σ H) : tCont D σ H := by
  obtain ⟨ρ, sl, oh, Y, Dd, Ed, n, w, dk, hx⟩ := h
  simp only [wS] at w
  exact dk.ct ⟨sl, oh⟩ σ H ρ w n Stp.refl
theorem ls_nev (h : LSt L (wS Γ .nev) D σ H) : tNever D σ H := by
  obtain ⟨ρ, sl, oh, Y, Dd, Ed, n, w, dk, hx⟩ := h
  simp only [wS] at w
theorem wk_ok {H0 : Hp} {ρ0 : List Addr} {oh0 : OH} {st st2 : DS} (hl : ρ0.length = oh0.length) (h : Wk oh0.length st st2) (n : Nw L σ H ρ st.sl st.oh Y) (t : Stp H0 ρ0 oh0 H ρ st.oh) : ∃ ρ2, Nw L σ H ρ2 st2.sl st2.oh Y ∧ Stp H0 ρ0 oh0 H ρ2 st2.oh := by
  obtain ⟨e1, b, hb, e2, e3⟩ := h
  refine ⟨ρ.take b, ⟨?_, ?_⟩, ?_⟩
  · rw [e2]; exact n.ok.take b
  · refine ⟨e1.trans n.sr.1, fun i r e => ?_⟩
    obtain ⟨q, qn⟩ := e3 i r e
    obtain ⟨v, ev, vr⟩ := n.sr.2 i r q
    refine ⟨v, ev, ?_⟩
    cases r with
    | d d =>
      refine Rp.mono (fun a z => ?_) vr
      rcases z with z | z
      · rw [e2] at z; exact .inl (liv_take z)
      · exact .inr z
    | o k =>
      obtain ⟨a, rfl, ea⟩ := vr
      refine ⟨a, rfl, ?_⟩
      rw [List.getElem?_take, if_pos (qn.1 k rfl)]
      exact ea
    | l ns =>
      obtain ⟨a, rfl, h⟩ := vr
      refine ⟨a, rfl, (h.keep (ρ' := ρ.take b) ⟨fun _ _ _ q => q, fun _ _ _ q => q, fun _ _ n _ z => n ?_⟩ fun m c hm e => ?_)⟩
      · rcases z with z | z
        · rw [e2] at z; exact .inl (liv_take z)
        · exact .inr z
      · rw [List.getElem?_take, if_pos (qn.2 ns rfl m hm)]
        exact e
  · rw [e2]; exact t.take (by omega)
theorem ls_whl {c : CT} {b : CB} (h : LSt L (wS Γ (.whl c b)) D σ H) : tWhile (LT L (wT Γ c)) (LSt L (wB Γ b)) D σ H := by
  obtain ⟨ρ, sl, oh, Y, Dd, Ed, n, w, dk, hx⟩ := h
  simp only [wS] at w
  obtain ⟨W, ⟨m0, w0⟩, turn⟩ := w
  refine ⟨fun m σ' H' => ∃ ρ' st, W m st ∧ Nw L σ' H' ρ' st.sl st.oh Y ∧ Stp H ρ oh H' ρ' st.oh, ⟨m0, ρ, ⟨sl, oh⟩, w0, n, Stp.refl⟩, ?_⟩
  rintro m σ' H' ⟨ρ', st, wm, n', t'⟩
  refine go n' (turn m st wm) (hx.step t').exq fun k oh1 v H1 ρ1 q s1 st1 vr hx1 => ?_
  cases (show v = k from vr)
  cases k with
  | true =>
    rw [if_pos rfl] at q ⊢
    refine ⟨fun σ2 H2 => ∃ m', m' < m ∧ ∃ ρ' st, W m' st ∧ Nw L σ2 H2 ρ' st.sl st.oh Y ∧ Stp H ρ oh H2 ρ' st.oh, fun σ2 H2 q => q, ?_⟩
    have nxt : ∀ (s : DS) (σ2 : L2.St) (H2 : Hp) (ρ2 : List Addr), (∃ m' st2, m' < m ∧ Wk oh.length s st2 ∧ W m' st2) → Nw L σ2 H2 ρ2 s.sl s.oh Y → Stp H1 ρ1 oh1 H2 ρ2 s.oh →
        ∃ m', m' < m ∧ ∃ ρ' st, W m' st ∧ Nw L σ2 H2 ρ' st.sl st.oh Y ∧ Stp H ρ oh H2 ρ' st.oh := by
      intro s σ2 H2 ρ2 q n2 t2
      obtain ⟨m', st2, hm, wk, w2⟩ := q
      obtain ⟨ρ3, n3, t3⟩ := wk_ok n.ok.len wk n2 ((t'.trans st1).trans t2)
      exact ⟨m', hm, ρ3, st2, w2, n3, t3⟩
    exact ⟨ρ1, st.sl, oh1, Y, _, Ed, s1, q, ⟨nxt, (dk.step (t'.trans st1)).rt, (dk.step (t'.trans st1)).nx, nxt⟩, hx.step (t'.trans st1)⟩
  | false =>
    rw [if_neg (by decide)] at q ⊢
    exact dk.nx ⟨st.sl, oh1⟩ _ _ ρ1 q s1 (t'.trans st1)
theorem ls_for {t : Tg} {it : CI} {b : CB} (h : LSt L (wS Γ (.for_ t it b)) D σ H) : tFor (LI L (wI Γ it)) (gT L.K t) (LSt L (wB Γ b)) D σ H := by
  obtain ⟨ρ, sl, oh, Y, Dd, Ed, n, w, dk, hx⟩ := h
  simp only [wS] at w
  refine ⟨ρ, sl, oh, Y, _, Ed, n, w, fun items still oh1 J H1 ρ1 q ok1 st1 ri => ?_, hx.exq⟩
  obtain ⟨Pv, p0, hst, turn, fin⟩ := q
  obtain ⟨hsz, G, wd, hG⟩ := ri
  refine ⟨fun i m σ' H' => m = items.length - i ∧ i ≤ items.length ∧ ∃ ρ' st, Pv i st ∧ Nw L σ' H' ρ' st.sl st.oh Y ∧ Stp H1 ρ1 oh1 H' ρ' st.oh, ⟨_, rfl, Nat.zero_le _, ρ1, ⟨sl, oh1⟩, p0, n.step ok1 st1, Stp.refl⟩, ?_⟩
  rintro i m σ' H' ⟨rfl, hi, ρ', st, pv, n', t'⟩
  have g := hG H' ρ' st.oh Y (hst i st hi pv) n'.ok t' fun a y => .inl y
  rcases Nat.lt_or_ge i items.length with hlt | hge
  · refine .inr ⟨wd.go i H' _ hlt g, fun σ2 H2 => ∃ m', m' < items.length - i ∧ m' = items.length - (i + 1) ∧ i + 1 ≤ items.length ∧ ∃ ρ' st, Pv (i + 1) st ∧ Nw L σ2 H2 ρ' st.sl st.oh Y ∧ Stp H1 ρ1 oh1 H2 ρ' st.oh,
      fun σ2 H2 ⟨m', h1, h2⟩ => ⟨m', h1, h2⟩, fun x H'' y => ?_⟩
    obtain ⟨gr, d, ed, rx⟩ := wd.yld i H' _ x H'' hlt g n'.ok.dom y
    obtain ⟨ok2, st2⟩ := n'.ok.grow gr
    obtain ⟨sl', eb, w⟩ := turn i d st ed pv
    refine (bind_ok t).1 _ _ sl' x _ _ eb rx (n'.sr.keep st2 n'.ok) fun σ2 s3 kp => ?_
    have tt : Stp H1 ρ1 oh1 H'' ρ' st.oh := t'.trans st2
    have nxt : ∀ (s : DS) (σ2 : L2.St) (H2 : Hp) (ρ2 : List Addr), (∃ st2, Wk oh1.length s st2 ∧ Pv (i + 1) st2) → Nw L σ2 H2 ρ2 s.sl s.oh Y → Stp H'' ρ' st.oh H2 ρ2 s.oh →
        ∃ m', m' < items.length - i ∧ m' = items.length - (i + 1) ∧ i + 1 ≤ items.length ∧ ∃ ρ' st, Pv (i + 1) st ∧ Nw L σ2 H2 ρ' st.sl st.oh Y ∧ Stp H1 ρ1 oh1 H2 ρ' st.oh := by
      intro s σ2 H2 ρ2 q n2 t2
      obtain ⟨st2, wk, p2⟩ := q
      obtain ⟨ρ3, n3, t3⟩ := wk_ok ok1.len wk n2 (tt.trans t2)
      exact ⟨_, by omega, rfl, hlt, ρ3, st2, p2, n3, t3⟩
    have tb := st1.trans tt
    exact ⟨ρ', sl', st.oh, Y, _, Ed, ⟨ok2, s3⟩, w, ⟨nxt, (dk.step tb).rt, (dk.step tb).nx, nxt⟩, hx.step tb⟩
  · have e : i = items.length := by omega
    subst e
    exact .inl ⟨wd.stop H' _ g, dk.nx st _ _ ρ' (fin st pv) n' (st1.trans t')⟩
theorem ls_forO {i0 : Nat} {c : CE} {b : CB} (h : LSt L (wS Γ (.forO i0 c b)) D σ H) : tFor (iList L.K (LE L (wE Γ c))) (gName i0) (LSt L (wB Γ b)) D σ H := by
  obtain ⟨ρ, sl, oh, Y, Dd, Ed, n, w, dk, hx⟩ := h
  simp only [wS] at w
  refine go n w hx.exq fun r oh1 v H1 ρ1 q s1 st1 vr hx1 => ?_
  obtain ⟨ns, rfl, Pv, p0, turn, fin⟩ := q
  obtain ⟨p, rfl, as, h1, h2, h3, h4⟩ := vr
  refine ⟨p, rfl, ⟨_, .inl h1.2⟩, ?_⟩
  have ok1 := s1.ok
  have np : ¬ Liv ρ1 oh1 p := fun z => h1.1 (.inl z)
  have rdp : ∀ {H' : Hp} {ρ' : List Addr} {oh' : OH}, Stp H1 ρ1 oh1 H' ρ' oh' → Rd H' p (.lst (as.map V.ref)) := fun st' => by
    rcases h1.2 with z | ⟨o, z⟩
    · exact (st'.ext p _ np z).rd
    · exact .inr ⟨o, (st'.ext p _ np z).same rfl⟩
  refine ⟨fun i m σ' H' => m = ns.length - i ∧ i ≤ ns.length ∧ ∃ ρ' st, Pv i st ∧ Nw L σ' H' ρ' st.sl st.oh Y ∧ Stp H1 ρ1 oh1 H' ρ' st.oh, ⟨_, rfl, Nat.zero_le _, ρ1, ⟨sl, oh1⟩, p0, s1, Stp.refl⟩, ?_⟩
  rintro i m σ' H' ⟨rfl, hi, ρ', st, pv, n', t'⟩
  have rp := rdp t'
  rcases Nat.lt_or_ge i ns.length with hlt | hge
  · obtain ⟨bb, eb, er⟩ := h4 i _ (List.getElem?_eq_getElem hlt)
    have ev : (as.map V.ref)[i]? = some (.ref bb) := by rw [List.getElem?_map, eb]; rfl
    refine .inr ⟨⟨_, _, .inl rp, ev⟩, fun σ2 H2 => ∃ m', m' < ns.length - i ∧ m' = ns.length - (i + 1) ∧ i + 1 ≤ ns.length ∧ ∃ ρ' st, Pv (i + 1) st ∧ Nw L σ2 H2 ρ' st.sl st.oh Y ∧ Stp H1 ρ1 oh1 H2 ρ' st.oh,
      fun σ2 H2 ⟨m', h1, h2⟩ => ⟨m', h1, h2⟩, fun x H'' y => ?_⟩
    obtain ⟨rfl, y2⟩ := y
    have ex := y2 _ (.inl rp)
    rw [ev] at ex
    cases ex
    have w := turn i _ st (List.getElem?_eq_getElem hlt) pv
    have s3 := n'.sr.set (i := i0) (v := .ref bb) (r := .o ns[i]) ⟨bb, rfl, t'.pre _ _ er⟩
    have nxt : ∀ (s : DS) (σ2 : L2.St) (H2 : Hp) (ρ2 : List Addr), (∃ st2, Wk oh1.length s st2 ∧ Pv (i + 1) st2) → Nw L σ2 H2 ρ2 s.sl s.oh Y → Stp H'' ρ' st.oh H2 ρ2 s.oh →
        ∃ m', m' < ns.length - i ∧ m' = ns.length - (i + 1) ∧ i + 1 ≤ ns.length ∧ ∃ ρ' st, Pv (i + 1) st ∧ Nw L σ2 H2 ρ' st.sl st.oh Y ∧ Stp H1 ρ1 oh1 H2 ρ' st.oh := by
      intro s σ2 H2 ρ2 q n2 t2
      obtain ⟨st2, wk, p2⟩ := q
      obtain ⟨ρ3, n3, t3⟩ := wk_ok ok1.len wk n2 (t'.trans t2)
      exact ⟨_, by omega, rfl, hlt, ρ3, st2, p2, n3, t3⟩
    have tb := st1.trans t'
    exact ⟨ρ', _, st.oh, Y, _, Ed, ⟨n'.ok, s3⟩, w, ⟨nxt, (dk.step tb).rt, (dk.step tb).nx, nxt⟩, hx.step tb⟩
  · have e : i = ns.length := by omega
    subst e
    exact .inl ⟨⟨_, .inl rp, by rw [List.length_map]; omega⟩, dk.nx st _ _ ρ' (fin st pv) n' (st1.trans t')⟩
end
end Kd

namespace Kd
open PySem PySem.Spec PyProof.Rows L2 RZ
structure Ck where
  N : List Str
  sc : Scope
  fn : Str → Bool
  ar : Str → Option Nat
def Ck.blk (ck : Ck) (scope : Scope) : Ck := { N := ck.N, sc := relS scope ck.sc, fn := fun x => scope.names.lookup x == some .cell, ar := ck.ar }
def visB (sc : Scope) (x : Str) : Bool := match sc.names.lookup x with
  | some .local => true
  | some .cell => true
  | some .free => true
  | _ => false
def locB (sc : Scope) (x : Str) : Bool := match sc.names.lookup x with
  | some .local => true
  | some .cell => true
  | _ => false
def lclB (sc : Scope) (x : Str) : Bool := match sc.names.lookup x with
  | some .local => true
  | _ => false
def celB (sc : Scope) (x : Str) : Bool := match sc.names.lookup x with
  | some .cell => true
  | _ => false
def glB (sc : Scope) (x : Str) : Bool := match sc.names.lookup x with
  | some .globalImplicit => true
  | _ => false
def dbgB (x : Str) : Bool := !(x == ("__debug__" : Str)) && !(x == ("__classdict__" : Str))
def notStar : Expr → Bool
  | .Starred _ _ => false
  | _ => true
def notSet : Expr → Bool
  | .Set _ _ _ => false
  | _ => true
def notSlice : Expr → Bool
  | .Slice _ _ _ _ => false
  | _ => true
def notComp : Expr → Bool
  | .ListComp _ _ _ _ => false
  | .SetComp _ _ _ _ => false
  | .DictComp _ _ _ _ _ => false
  | _ => true
def notTupE : Expr → Bool
  | .Tuple _ _ _ => false
  | _ => true
def isTupE : Expr → Bool
  | .Tuple _ _ _ => true
  | _ => false
def notCall : Expr → Bool
  | .Call _ _ _ _ => false
  | _ => true
def plainT : Expr → Bool
  | .UnaryOp _ _ _ => false
  | .BoolOp _ _ _ => false
  | .IfExp _ _ _ _ => false
  | .Compare _ _ _ _ => false
  | _ => true
def isBoolE : Expr → Bool
  | .BoolOp _ _ _ => true
  | _ => false
def strB (x : Str) : Bool := PyData.strOk x && decide (x.length ≤ sizeLine)
def okC : D → Const → Bool
  | .none, .none => true
  | .bool b, .bool c => b == c
  | .int i, .int j => decide (i = j)
  | .str x, .str y => decide (x = y) && strB x
  | _, _ => false
def slotB (ck : Ck) (i : Nat) (x : Str) : Bool := decide (ck.N[i]? = some x) && locB ck.sc x && (ck.fn x || lclB ck.sc x)
mutual
def okG (ck : Ck) : Tg → Expr → Bool
  | .nm i, .Name x _ => slotB ck i x
  | .nil, .Tuple [] _ _ => true
  | .cons t ts, .Tuple (e :: es) _ _ => notStar e && okG ck t e && okGs ck ts es
  | _, _ => false
def okGs (ck : Ck) : Tg → List Expr → Bool
  | .nil, [] => true
  | .cons t ts, e :: es => notStar e && okG ck t e && okGs ck ts es
  | _, _ => false
end
def isYes : CT → Bool
  | .yes => true
  | _ => false
mutual
def okE (ck : Ck) : CE → Expr → Bool
  | .var i => fun e => match e with
    | .Name x _ => decide (ck.N[i]? = some x) && visB ck.sc x && dbgB x
    | _ => false
  | .cst d => fun e => match e with
    | .Constant c _ _ => okC d c
    | _ => false
  | .glo y => fun e => match e with
    | .Name x _ => decide (x = y) && glB ck.sc x && dbgB x
    | _ => false
  | .bin o a b => fun e => match e with
    | .BinOp x o' y _ => decide (o = o') && okE ck a x && okE ck b y
    | _ => false
  | .neg a => fun e => match e with
    | .UnaryOp .USub x _ => okE ck a x
    | _ => false
  | .cmp o a b => fun e => match e with
    | .Compare x [o'] [y] _ => decide (o = o') && notSet y && okE ck a x && okE ck b y
    | _ => false
  | .chn o p a b c => fun e => match e with
    | .Compare x [o', p'] [y, z] _ => decide (o = o') && decide (p = p') && notSet z && okE ck a x && okE ck b y && okE ck c z
    | _ => false
  | .and a b => fun e => match e with
    | .BoolOp .And [x, y] _ => okE ck a x && okE ck b y
    | .BoolOp .And (x :: y :: z :: r) p => okE ck a x && okE ck b (.BoolOp .And (y :: z :: r) p)
    | _ => false
  | .or a b => fun e => match e with
    | .BoolOp .Or [x, y] _ => okE ck a x && okE ck b y
    | .BoolOp .Or (x :: y :: z :: r) p => okE ck a x && okE ck b (.BoolOp .Or (y :: z :: r) p)
    | _ => false
  | .not a => fun e => match e with
    | .UnaryOp .Not x _ => okE ck a x
    | _ => false
  | .ite c a b => fun e => match e with
    | .IfExp t x y _ => okT ck c t && okE ck a x && okE ck b y
    | _ => false
  | .tup as => fun e => match e with
    | .Tuple es _ _ => decide (es.length ≤ 1000) && okA ck as es
    | _ => false
  | .lst as => fun e => match e with
    | .List es _ => decide (es.length ≤ 1000) && okA ck as es
    | _ => false
  | .dnK => fun e => match e with
    | .Dict [] [] _ => true
    | _ => false
  | .dnT => fun e => match e with
    | .Dict [] [] _ => true
    | _ => false
  | .call f as => fun e => match e with
    | .Call (.Name g _) (e :: es) [] _ => decide (f = g) && glB ck.sc f && dbgB f && decide (ck.ar f = some (es.length + 1)) && okA ck as (e :: es)
    | _ => false
  | .bi f as => fun e => match e with
    | .Call (.Name g _) (e :: es) [] _ => decide (g = f.nm) && glB ck.sc g && okA ck as (e :: es)
    | _ => false
  | .isi a t => fun e => match e with
    | .Call (.Name g _) [x, .Name y _] [] _ => decide (g = ("isinstance" : Str)) && glB ck.sc g && decide (y = Str.ofString t.id) && glB ck.sc y && notStar x && okE ck a x
    | _ => false
  | .me m o as => fun e => match e with
    | .Call (.Attribute x n ap) (e :: es) [] cp => decide (n = m.nm) && notCall x && (ap.endLine == cp.line) && decide (es.length < 28) && okE ck o x && okA ck as (e :: es)
    | _ => false
  | .mu m o as => fun e => match e with
    | .Call (.Attribute x n ap) [] [] cp => decide (n = m.nm) && notCall x && (ap.endLine == cp.line) && okE ck o x && okA ck as []
    | .Call (.Attribute x n ap) (e :: es) [] cp => decide (n = m.nm) && notCall x && (ap.endLine == cp.line) && decide (es.length < 28) && okE ck o x && okA ck as (e :: es)
    | _ => false
  | .idx o i => fun e => match e with
    | .Subscript x y _ => notSlice y && okE ck o x && okE ck i y
    | _ => false
  | .sli o lo hi => fun e => match e with
    | .Subscript x (.Slice l h none _) _ => okE ck o x && okO ck lo l && okO ck hi h
    | _ => false
  | .lc own t it cond elt => fun e => match e with
    | .ListComp x [⟨tg, iter, ifs, 0⟩] scope _ => blkC ck.N ck.sc scope own && (tgNames t).all (fun i => decide (i ∈ own.map (·.2))) && notSet iter && okI ck tg it iter && okG (ck.blk scope) t tg && (match ifs with | [] => isYes cond | [f] => okT (ck.blk scope) cond f | _ => false) && okE (ck.blk scope) elt x
    | _ => false
  | .frz c => fun e => match e with
    | .Name x p => okE ck c (.Name x p)
    | _ => false
  | .lcO own t it elt => fun e => match e with
    | .ListComp x [⟨tg, iter, [], 0⟩] scope _ => blkC ck.N ck.sc scope own && (tgNames t).all (fun i => decide (i ∈ own.map (·.2))) && notSet iter && okI ck tg it iter && okG (ck.blk scope) t tg && okE (ck.blk scope) elt x
    | _ => false
  | .lcR own i c elt => fun e => match e with
    | .ListComp x [⟨tg, iter, [], 0⟩] scope _ => blkC ck.N ck.sc scope own && decide (i ∈ own.map (·.2)) && notSet iter && okE ck c iter && okG (ck.blk scope) (.nm i) tg && okE (ck.blk scope) elt x
    | _ => false
  | .idxO a b => fun e => match e with
    | .Subscript x y _ => notSlice y && okE ck a x && okE ck b y
    | _ => false
  | .revL c => fun e => match e with
    | .Subscript x (.Slice none none (some (.UnaryOp .USub (.Constant (.int 1) _ _) _)) _) _ => okE ck c x
    | _ => false
  | .lenO c => fun e => match e with
    | .Call (.Name g _) [x] [] _ => decide (g = ("len" : Str)) && glB ck.sc g && notStar x && okE ck c x
    | _ => false
  | .cmpL o a b => fun e => match e with
    | .Compare x [o'] [y] _ => decide (o = o') && notSet y && okE ck a x && okE ck b y
    | _ => false
  | .srtS c => fun e => match e with
    | .Call (.Name g _) [.Call (.Name y _) [x] [] _] [] _ => decide (g = ("sorted" : Str)) && glB ck.sc g && decide (y = ("set" : Str)) && glB ck.sc y && notStar x && okE ck c x
    | _ => false
  | .srtK rv c => fun e => match e with
    | .Call (.Name g _) [x] [⟨some n, .Name y _, _⟩] _ => !rv && decide (g = ("sorted" : Str)) && glB ck.sc g && decide (n = Str.ofString "key") && decide (y = ("len" : Str)) && glB ck.sc y && notStar x && okE ck c x
    | .Call (.Name g _) [x] [⟨some n, .Name y _, _⟩, ⟨some m, .Constant (.bool true) _ _, _⟩] _ => rv && decide (g = ("sorted" : Str)) && glB ck.sc g && decide (n = Str.ofString "key") && decide (y = ("len" : Str)) && glB ck.sc y && decide (m = Str.ofString "reverse") && notStar x && okE ck c x
    | _ => false
def okO (ck : Ck) : CO → Option Expr → Bool
  | .non => fun e => match e with
    | none => true
    | _ => false
  | .som c => fun e => match e with
    | some e => okE ck c e
    | _ => false
def okA (ck : Ck) : CA → List Expr → Bool
  | .nil => fun e => match e with
    | [] => true
    | _ => false
  | .cons a as => fun e => match e with
    | e :: es => notStar e && okE ck a e && okA ck as es
    | _ => false
  | .own a as => fun e => match e with
    | e :: es => notStar e && okE ck a e && okA ck as es
    | _ => false
def okT (ck : Ck) : CT → Expr → Bool
  | .val c => fun e => match e with
    | .Compare x [o'] [y] p => okE ck c (.Compare x [o'] [y] p)
    | .Compare x [o', p'] [y, z] p => okE ck c (.Compare x [o', p'] [y, z] p)
    | e => plainT e && okE ck c e
  | .and a b => fun e => match e with
    | .BoolOp .And [x, y] _ => okT ck a x && okT ck b y
    | .BoolOp .And (x :: y :: z :: r) p => okT ck a x && okT ck b (.BoolOp .And (y :: z :: r) p)
    | _ => false
  | .or a b => fun e => match e with
    | .BoolOp .Or [x, y] _ => okT ck a x && okT ck b y
    | .BoolOp .Or (x :: y :: z :: r) p => okT ck a x && okT ck b (.BoolOp .Or (y :: z :: r) p)
    | _ => false
  | .not a => fun e => match e with
    | .UnaryOp .Not x _ => okT ck a x
    | _ => false
  | .yes => fun e => false
def okI (ck : Ck) (tg : Expr) : CI → Expr → Bool
  | .of c => fun e => match e with
    | e => okE ck c e
  | .rng as => fun e => match e with
    | .Call (.Name g _) [e] [] _ => decide (g = ("range" : Str)) && glB ck.sc g && okA ck as [e]
    | .Call (.Name g _) [e, f] [] _ => decide (g = ("range" : Str)) && glB ck.sc g && okA ck as [e, f]
    | _ => false
  | .zip as => fun e => match e with
    | .Call (.Name g _) (x :: xs) [] _ => decide (g = ("zip" : Str)) && glB ck.sc g && isTupE tg && okA ck as (x :: xs)
    | _ => false
  | .enm c => fun e => match e with
    | .Call (.Name g _) [x] [] _ => decide (g = ("enumerate" : Str)) && glB ck.sc g && notStar x && isTupE tg && okE ck c x
    | _ => false
  | .rev c => fun e => match e with
    | .Call (.Name g _) [x] [] _ => decide (g = ("reversed" : Str)) && glB ck.sc g && notStar x && okE ck c x
    | _ => false
end
end Kd

namespace Kd
open PySem PySem.Spec PyProof.Rows L2 RZ
def frees : List Str := ["enumerate", "reversed", "set", "str"]
structure Md (P : Program) (w : World) (K : PySem.W.Frag) (mg : Str → Option Value) (base : Heap) (k : Nat) (Γ : Gv) (ar : Str → Option Nat) (xr : Exn → Value → Option Addr → Prop) : Prop where
  glo : ∀ x d, Γ.glo x = some d → ∃ v u, mg x = some u ∧ RelV v u ∧ ∀ H Z, Rp K H Z v d
  fn : ∀ f n, ar f = some n → ∃ S fa fd ps, Γ.fn f = some S ∧ FnG P w K mg base k fa fd ps (spOf K xr n S) ∧ mg f = some (.ref fa) ∧ PySem.W.keepIn K (.ref fa) = true ∧ Binds K fd ps []
  bi : ∀ f : Bi, mg f.nm = none
  ty : ∀ t : Ty, mg (Str.ofString t.id) = none
  isi : mg "isinstance" = none
  rng : mg "range" = none
  zip : mg "zip" = none
  nb : ∀ x ∈ frees, mg x = none
structure Gd (X : Cx) (ck : Ck) (L : Lc) (Γ : Gv) (k : Nat) : Prop where
  hN : X.N = ck.N
  sc : X.env.scope = ck.sc
  fn : X.fn = ck.fn
  nd : X.N.Nodup
  calm : X.calm = true
  hK : L.K = X.K
  room : Room k X.A
  gd : X.A.guards = some []
  tk : Takes X L.W
  md : Md X.prog X.w X.K X.mg X.base k Γ ck.ar L.xr
section
variable {X : Cx} {ck : Ck} {L : Lc} {Γ : Gv} {k : Nat}
theorem Gd.un (g : Gd X ck L Γ k) : X.A.units + 70 < cLine := by have := g.room.un; omega
theorem Gd.gl (g : Gd X ck L Γ k) {x : Str} (h : glB ck.sc x = true) : Gl X x := by
  unfold glB at h
  show X.env.scope.names.lookup x = _
  rw [g.sc]
  split at h
  · assumption
  · cases h
theorem Gd.vis (g : Gd X ck L Γ k) {x : Str} (h : visB ck.sc x = true) : Vis X.env.scope x := by
  unfold visB at h
  rw [g.sc]
  split at h
  · exact .inl (by assumption)
  · exact .inr (.inl (by assumption))
  · exact .inr (.inr (by assumption))
  · cases h
theorem Gd.loc (g : Gd X ck L Γ k) {x : Str} (h : locB ck.sc x = true) : Loc X.env.scope x := by
  unfold locB at h
  rw [g.sc]
  split at h
  · exact .inl (by assumption)
  · exact .inr (by assumption)
  · cases h
theorem Gd.lcl (g : Gd X ck L Γ k) {x : Str} (h : lclB ck.sc x = true) : X.env.scope.names.lookup x = some .local := by
  unfold lclB at h
  rw [g.sc]
  split at h
  · assumption
  · cases h
theorem Gd.cel (g : Gd X ck L Γ k) {x : Str} (h : celB ck.sc x = true) : X.env.scope.names.lookup x = some .cell := by
  unfold celB at h
  rw [g.sc]
  split at h
  · assumption
  · cases h
theorem dbg1 {x : Str} (h : dbgB x = true) : (x == ("__debug__" : Str)) = false := by simp [dbgB] at h; simpa using h.1
theorem dbg2 {x : Str} (h : dbgB x = true) : (x == ("__classdict__" : Str)) = false := by simp [dbgB] at h; simpa using h.2
theorem star1 {e : Expr} {es : List Expr} {env : Env} (h : notStar e = true) : starEach (e :: es) env = (false, eval e env) :: starEach es env := by
  cases e <;> first | rfl | cases h
theorem okA_star : ∀ {as : CA} {es : List Expr}, okA ck as es = true → es.all notStar = true := by
  intro as es
  induction es generalizing as with
  | nil => intro _; rfl
  | cons e es ih =>
    intro h
    cases as with
    | nil => simp [okA] at h
    | cons a as =>
      simp only [okA, Bool.and_eq_true] at h
      simp only [List.all_cons, h.1.1, Bool.true_and]
      exact ih h.2
    | own a as =>
      simp only [okA, Bool.and_eq_true] at h
      simp only [List.all_cons, h.1.1, Bool.true_and]
      exact ih h.2
theorem star_plain {env : Env} {pos : Pos} : ∀ {es : List Expr}, es.all notStar = true → (backTo pos (starEach es env)).any (·.1) = false
  | [], _ => rfl
  | e :: es, h => by
    simp only [List.all_cons, Bool.and_eq_true] at h
    rw [star1 h.1]
    have := star_plain (env := env) (pos := pos) h.2
    simpa [backTo] using this
theorem star_all {env : Env} {pos : Pos} : ∀ {es : List Expr}, es.all notStar = true → (backTo pos (starEach es env)).all (fun x => !x.1) = true
  | [], _ => rfl
  | e :: es, h => by
    simp only [List.all_cons, Bool.and_eq_true] at h
    rw [star1 h.1]
    have := star_all (env := env) (pos := pos) h.2
    simpa [backTo] using this
theorem few_ok {env : Env} {cpos : Pos} {e : Expr} {es : List Expr} (h : (e :: es).all notStar = true) (hl : es.length < 28) :
    ((backTo cpos (starEach (e :: es) env)).all (fun x => !x.1) && (backToKw cpos (keywordEach [] env)).all (fun x => x.1.isSome)
      && decide ((e :: es).length + ([] : List Keyword).length + (if ([] : List Keyword).isEmpty then 0 else 1) < 30)) = true := by
  rw [star_all h]
  have e1 : (backToKw cpos (keywordEach [] env)).all (fun x => x.1.isSome) = true := rfl
  rw [e1]
  have e2 : (if ([] : List Keyword).isEmpty then 0 else 1) = 0 := rfl
  rw [e2]
  simp
  omega
theorem mark_ok {op : CmpOp} {e : Expr} (h : notSet e = true) : behindInMarks op e = false := by
  cases e <;> first | rfl | cases h
theorem mark2_ok {o p : CmpOp} {y z : Expr} (h : notSet z = true) : lastMarks [o, p] [y, z] = false := by
  show behindInMarks p z = false
  exact mark_ok h
theorem base_ok {o : Expr} {n : Str} {env : Env} {t : Sem Value} (h : notCall o = true) : attributeBase o n env t = t := by
  cases o <;> first | rfl | cases h
theorem ix_ok {e : Expr} (h : notSlice e = true) : PlainIx e := fun o i => by
  cases e <;> first | rfl | cases h
theorem test_ok {e : Expr} {env : Env} (h : plainT e = true) : ∀ whole, isTrue e env whole = (do let v ← whole; standAt e.pos; holding [v] (truthy v)) := fun whole => by
  cases e <;> first | rfl | cases h
theorem set_ok {e : Expr} {env : Env} (h : notSet e = true) : ∀ x, foldedSetIterable e env x = pure x := fun x => by
  cases e <;> first | rfl | cases h
theorem tk_nox {X : Cx} {L : Lc} : Takes X L.nox.W := fun _ _ x => by
  obtain ⟨_, _, _, _, _, _, _, _, _, _, _, _, _, _, _, _, z⟩ := x
  exact z.elim
theorem Gd.blk (g : Gd X ck L Γ k) (s : Shared) (H : Hp) (scope : Scope) (C : Addr) (cl : List (Str × Addr)) (fp : List Addr) : Gd (X.blk s H scope (compEnvC scope cl C X.env) fp) (ck.blk scope) L.nox Γ k where
  hN := g.hN
  sc := by
    show relS scope X.env.scope = relS scope ck.sc
    rw [g.sc]
  fn := rfl
  nd := g.nd
  calm := g.calm
  hK := g.hK
  room := g.room
  gd := g.gd
  tk := tk_nox
  md := g.md
theorem Gd.slot (g : Gd X ck L Γ k) {i : Nat} {x : Str} (h : slotB ck i x = true) : X.N[i]? = some x ∧ Loc X.env.scope x ∧ (X.fn x = true ∨ X.env.scope.names.lookup x = some .local) := by
  simp only [slotB, Bool.and_eq_true, Bool.or_eq_true, decide_eq_true_eq] at h
  refine ⟨by rw [g.hN]; exact h.1.1, g.loc h.1.2, ?_⟩
  rcases h.2 with q | q
  · exact .inl (by rw [g.fn]; exact q)
  · exact .inr (g.lcl q)
theorem asg1 {e : Expr} {es : List Expr} {env : Env} (h : notStar e = true) : assignEach (e :: es) env = (false, assign e env) :: assignEach es env := by
  cases e <;> first | rfl | cases h
theorem okGs_len : ∀ {t : Tg} {es : List Expr} {env : Env}, okGs ck t es = true → (assignEach es env).length = tgLen t ∧ (assignEach es env).findIdx? (·.1) = none := by
  intro t
  induction t with
  | nm i => intro es env h; cases es <;> simp [okGs] at h
  | nil => intro es env h; cases es with
    | nil => exact ⟨rfl, rfl⟩
    | cons => simp [okGs] at h
  | cons t ts _ ih =>
    intro es env h
    cases es with
    | nil => simp [okGs] at h
    | cons e es =>
      simp only [okGs, Bool.and_eq_true] at h
      obtain ⟨h1, h2⟩ := ih (env := env) h.2
      rw [asg1 h.1.1]
      refine ⟨by simp [tgLen, h1], ?_⟩
      rw [List.findIdx?_cons]
      simp [h2]
theorem pg_seq {es : List Expr} {k n : Nat} {t : TGs} {pos : Pos} (hc : X.calm = true) (h : PGs X es t) (hn : (assignEach es X.env).length = n) (hst : (assignEach es X.env).findIdx? (·.1) = none) : PG X (.Tuple es k pos) (gSeq X.K n t) :=
  ⟨fun pins s σ H v u Q I r q => q.elim (fun q => (pg_tup hc h hn hst).run pins s σ H v u Q I r q) (fun q => (pg_lst hc h hn hst).run pins s σ H v u Q I r q)⟩
theorem sG (t : Tg) : ∀ {X : Cx} {ck : Ck} {L : Lc}, Gd X ck L Γ k → (∀ e, okG ck t e = true → PG X e (gT L.K t)) ∧ (∀ es, okGs ck t es = true → PGs X es (gTs L.K t)) := by
  induction t with
  | nm i =>
    intro X ck L g
    refine ⟨fun e h => ?_, fun es h => by cases es <;> simp [okGs] at h⟩
    cases e with
    | Name x p =>
      simp only [okG] at h
      obtain ⟨h1, h2, h3⟩ := g.slot h
      simp only [gT]
      exact pg_name g.nd h1 h2 h3
    | _ => simp [okG] at h
  | nil =>
    intro X ck L g
    refine ⟨fun e h => ?_, fun es h => ?_⟩
    · cases e with
      | Tuple es a b =>
        cases es with
        | nil =>
          simp only [gT]
          rw [g.hK]
          exact pg_tup g.calm pgs_nil rfl rfl
        | cons => simp [okG] at h
      | _ => simp [okG] at h
    · cases es with
      | nil => simp only [gTs]; exact pgs_nil
      | cons => simp [okGs] at h
  | cons t ts ih1 ih2 =>
    intro X ck L g
    refine ⟨fun e h => ?_, fun es h => ?_⟩
    · cases e with
      | Tuple es a b =>
        cases es with
        | nil => simp [okG] at h
        | cons e es =>
          simp only [okG, Bool.and_eq_true] at h
          simp only [gT]
          obtain ⟨h1, h2⟩ := okGs_len (env := X.env) h.2
          rw [g.hK]
          refine pg_seq g.calm (pgs_cons ?_ ?_ ?_) ?_ ?_
          · rw [← g.hK]; exact (ih1 g).1 e h.1.2
          · rw [← g.hK]; exact (ih2 g).2 es h.2
          · rw [asg1 h.1.1]; rfl
          · rw [asg1 h.1.1]; simp [h1]
          · rw [asg1 h.1.1, List.findIdx?_cons]; simp [h2]
      | _ => simp [okG] at h
    · cases es with
      | nil => simp [okGs] at h
      | cons e es =>
        simp only [okGs, Bool.and_eq_true] at h
        simp only [gTs]
        exact pgs_cons ((ih1 g).1 e h.1.2) ((ih2 g).2 es h.2) (by rw [asg1 h.1.1]; rfl)
theorem strB_ok {x : Str} (h : strB x = true) : SOk x := by
  simp only [strB, Bool.and_eq_true, decide_eq_true_eq] at h
  exact ⟨h.1, h.2⟩
theorem sC {d : D} {c : Const} {j : Nat} {pos : Pos} (h : okC d c = true) : PE X (.Constant c j pos) (LE L (wE Γ (.cst d))) := by
  unfold okC at h
  split at h
  · exact ke_con pe_non fun _ _ _ => .non
  · have := eq_of_beq h
    subst this
    exact ke_con pe_bl fun _ _ _ => .bl _
  · have := of_decide_eq_true h
    subst this
    exact ke_con pe_int fun _ _ _ => .int _
  · simp only [Bool.and_eq_true, decide_eq_true_eq] at h
    obtain ⟨rfl, h2⟩ := h
    exact ke_con pe_str fun _ _ _ => .str _ (strB_ok h2)
  · cases h
end
end Kd

namespace Kd
open PySem PySem.Spec PyProof.Rows L2 RZ
theorem le_size {n : Nat} (h : n ≤ 1000) : n ≤ sizeLine := Nat.le_trans h (by decide)
theorem bool_plain {e : Expr} (h : isBoolE e = true) (h2 : plainT e = true) : False := by
  cases e <;> first | (cases h; done) | (cases h2; done)
theorem ke_false {X : Cx} {L : Lc} {w : WEt} {e : Expr} (h : ∀ sl oh Q E, ¬ w sl oh Q E) : PE X e (LE L w) :=
  ⟨fun pins s σ H Q I q => by obtain ⟨ρ, sl, oh, Y, Qd, Ed, n, w, _⟩ := q; exact (h _ _ _ _ w).elim⟩
theorem sIf0 {X : Cx} {ck : Ck} {L : Lc} {Γ : Gv} {cond : CT} {ifs : List Expr} (ht : ∀ f, okT ck cond f = true → PT X f (LT L (wT Γ cond))) (h : (match ifs with | [] => isYes cond | [f] => okT ck cond f | _ => false) = true) : PTs X ifs (LT L (wT Γ cond)) := by
  split at h
  · cases cond with
    | yes =>
      exact ⟨fun pins s σ H Q I q => pts_nil.run pins s σ H Q I (by
        obtain ⟨ρ, sl, oh, Y, Qd, Ed, n, w, hq, _⟩ := q
        simp only [wT] at w
        exact hq _ _ _ _ _ w n.ok Stp.refl rfl)⟩
    | _ => simp [isYes] at h
  · exact pts_one (ht _ h)
  · cases h
mutual
theorem sE (Γ : Gv) (k : Nat) (c : CE) : ∀ (X : Cx) (ck : Ck) (L : Lc) (e : Expr), Gd X ck L Γ k → okE ck c e = true → PE X e (LE L (wE Γ c)) := match c with
  | .var i => fun X ck L e g h => by
    simp only [okE] at h
    split at h
    · simp only [Bool.and_eq_true, decide_eq_true_eq] at h
      exact ke_var (by rw [g.hN]; exact h.1.1) (g.vis h.1.2) (dbg1 h.2) (dbg2 h.2)
    · cases h
  | .cst d => fun X ck L e g h => by
    simp only [okE] at h
    split at h
    · exact sC h
    · cases h
  | .glo y => fun X ck L e g h => by
    simp only [okE] at h
    split at h
    · simp only [Bool.and_eq_true, decide_eq_true_eq] at h
      obtain ⟨⟨rfl, h2⟩, h3⟩ := h
      cases hd : Γ.glo _ with
      | none => exact ke_false fun sl oh Q E q => by simp only [wE] at q; obtain ⟨d, e, _⟩ := q; rw [hd] at e; cases e
      | some d =>
        obtain ⟨v, u, h4, h5, h6⟩ := g.md.glo _ _ hd
        exact ke_glo (pe_glob (g.gl h2) h4 h5 (dbg1 h3)) (fun H Z => by rw [g.hK]; exact h6 H Z) hd
    · cases h
  | .bin o a b => fun X ck L e g h => by
    simp only [okE] at h
    split at h
    · simp only [Bool.and_eq_true, decide_eq_true_eq] at h
      obtain ⟨⟨rfl, h2⟩, h3⟩ := h
      exact ke_bin g.hK (sE Γ k a _ _ _ _ g h2) (sE Γ k b _ _ _ _ g h3)
    · cases h
  | .neg a => fun X ck L e g h => by
    simp only [okE] at h
    split at h
    · exact ke_neg (sE Γ k a _ _ _ _ g h)
    · cases h
  | .cmp o a b => fun X ck L e g h => by
    simp only [okE] at h
    split at h
    · simp only [Bool.and_eq_true, decide_eq_true_eq] at h
      obtain ⟨⟨⟨rfl, h2⟩, h3⟩, h4⟩ := h
      exact ke_cmp g.hK (by have := g.un; omega) (mark_ok h2) (sE Γ k a _ _ _ _ g h3) (sE Γ k b _ _ _ _ g h4)
    · cases h
  | .chn o p a b c => fun X ck L e g h => by
    simp only [okE] at h
    split at h
    · simp only [Bool.and_eq_true, decide_eq_true_eq] at h
      obtain ⟨⟨⟨⟨⟨rfl, rfl⟩, h2⟩, h3⟩, h4⟩, h5⟩ := h
      exact ke_chn g.hK (by have := g.un; omega) (mark2_ok h2) (sE Γ k a _ _ _ _ g h3) (sE Γ k b _ _ _ _ g h4) (sE Γ k c _ _ _ _ g h5)
    · cases h
  | .and a b => fun X ck L e g h => by
    simp only [okE] at h
    split at h
    · simp only [Bool.and_eq_true] at h
      exact ke_and (sE Γ k a _ _ _ _ g h.1) (pe_one (sE Γ k b _ _ _ _ g h.2))
    · simp only [Bool.and_eq_true] at h
      exact ke_and (sE Γ k a _ _ _ _ g h.1) (sE Γ k b _ _ _ _ g h.2)
    · cases h
  | .or a b => fun X ck L e g h => by
    simp only [okE] at h
    split at h
    · simp only [Bool.and_eq_true] at h
      exact ke_or (sE Γ k a _ _ _ _ g h.1) (pe_one (sE Γ k b _ _ _ _ g h.2))
    · simp only [Bool.and_eq_true] at h
      exact ke_or (sE Γ k a _ _ _ _ g h.1) (sE Γ k b _ _ _ _ g h.2)
    · cases h
  | .not a => fun X ck L e g h => by
    simp only [okE] at h
    split at h
    · exact ke_not (sE Γ k a _ _ _ _ g h)
    · cases h
  | .ite c a b => fun X ck L e g h => by
    simp only [okE] at h
    split at h
    · simp only [Bool.and_eq_true] at h
      exact ke_ite (sT Γ k c _ _ _ _ g h.1.1).1 (sE Γ k a _ _ _ _ g h.1.2) (sE Γ k b _ _ _ _ g h.2)
    · cases h
  | .tup as => fun X ck L e g h => by
    simp only [okE] at h
    split at h
    · simp only [Bool.and_eq_true, decide_eq_true_eq] at h
      exact ke_tup (le_size h.1) (sD Γ k as _ _ _ _ g h.2)
    · cases h
  | .lst as => fun X ck L e g h => by
    simp only [okE] at h
    split at h
    · simp only [Bool.and_eq_true, decide_eq_true_eq] at h
      exact ke_lst (le_size h.1) (sD Γ k as _ _ _ _ g h.2)
    · cases h
  | .dnK => fun X ck L e g h => by
    simp only [okE] at h
    split at h
    · exact ke_dnK
    · cases h
  | .dnT => fun X ck L e g h => by
    simp only [okE] at h
    split at h
    · exact ke_dnT
    · cases h
  | .call f as => fun X ck L e g h => by
    simp only [okE] at h
    split at h
    · simp only [Bool.and_eq_true, decide_eq_true_eq] at h
      obtain ⟨⟨⟨⟨rfl, h2⟩, h3⟩, h4⟩, h5⟩ := h
      have hst := okA_star h5
      have hst' := hst
      simp only [List.all_cons, Bool.and_eq_true] at hst
      obtain ⟨S, fa, fd, ps, hS, F, e2, e3, e4⟩ := g.md.fn _ _ h4
      exact ke_call hS (by rw [g.hK]; exact F) g.room g.gd (g.gl h2) e2 e3 e4 g.tk (sN Γ k as _ _ _ _ g h5) (dbg1 h3) (star1 hst.1) (star_plain hst.2)
    · cases h
  | .bi f as => fun X ck L e g h => by
    simp only [okE] at h
    split at h
    · simp only [Bool.and_eq_true, decide_eq_true_eq] at h
      obtain ⟨⟨rfl, h2⟩, h3⟩ := h
      have hst := okA_star h3
      simp only [List.all_cons, Bool.and_eq_true] at hst
      exact ke_bi g.hK g.calm g.gd g.un (g.gl h2) (g.md.bi f) (sN Γ k as _ _ _ _ g h3) (star1 hst.1) (star_plain hst.2)
    · cases h
  | .isi a t => fun X ck L e g h => by
    simp only [okE] at h
    split at h
    · simp only [Bool.and_eq_true, decide_eq_true_eq] at h
      obtain ⟨⟨⟨⟨⟨rfl, h2⟩, rfl⟩, h4⟩, h5⟩, h6⟩ := h
      exact ke_isi g.hK (g.gl h2) g.md.isi (g.gl h4) (g.md.ty t) (sE Γ k a _ _ _ _ g h6) (star1 h5)
    · cases h
  | .me m o as => fun X ck L e g h => by
    simp only [okE] at h
    split at h
    · simp only [Bool.and_eq_true, decide_eq_true_eq] at h
      obtain ⟨⟨⟨⟨⟨rfl, h2⟩, h3⟩, h4⟩, h5⟩, h6⟩ := h
      have hst := okA_star h6
      have hst' := hst
      simp only [List.all_cons, Bool.and_eq_true] at hst
      exact ke_me g.hK (sE Γ k o _ _ _ _ g h5) (sN Γ k as _ _ _ _ g h6) (base_ok h2) (few_ok hst' h4) h3 (star1 hst.1) (star_plain hst.2)
    · cases h
  | .mu m o as => fun X ck L e g h => by
    simp only [okE] at h
    split at h
    · simp only [Bool.and_eq_true, decide_eq_true_eq] at h
      obtain ⟨⟨⟨⟨rfl, h2⟩, h3⟩, h5⟩, h6⟩ := h
      cases as with
      | nil => exact ke_mu0 g.un g.hK (sE Γ k o _ _ _ _ g h5) (base_ok h2) h3
      | cons => simp [okA] at h6
      | own => simp [okA] at h6
    · simp only [Bool.and_eq_true, decide_eq_true_eq] at h
      obtain ⟨⟨⟨⟨⟨rfl, h2⟩, h3⟩, h4⟩, h5⟩, h6⟩ := h
      have hst := okA_star h6
      have hst' := hst
      simp only [List.all_cons, Bool.and_eq_true] at hst
      exact ke_mu g.un g.hK (sE Γ k o _ _ _ _ g h5) (sD Γ k as _ _ _ _ g h6) (base_ok h2) (few_ok hst' h4) h3 (star1 hst.1) (star_plain hst.2)
    · cases h
  | .idx o i => fun X ck L e g h => by
    simp only [okE] at h
    split at h
    · simp only [Bool.and_eq_true] at h
      exact ke_idx g.hK (by have := g.un; omega) (sE Γ k o _ _ _ _ g h.1.2) (sE Γ k i _ _ _ _ g h.2) (ix_ok h.1.1)
    · cases h
  | .sli o lo hi => fun X ck L e g h => by
    simp only [okE] at h
    split at h
    · simp only [Bool.and_eq_true] at h
      exact ke_sli g.hK (sE Γ k o _ _ _ _ g h.1.1) (sO Γ k lo _ _ _ _ g h.1.2) (sO Γ k hi _ _ _ _ g h.2)
    · cases h
  | .lc own t it cond elt => fun X ck L e g h => by
    simp only [okE] at h
    split at h
    · simp only [Bool.and_eq_true] at h
      obtain ⟨⟨⟨⟨⟨⟨h1, h2⟩, h3⟩, h4⟩, h5⟩, h6⟩, h7⟩ := h
      refine ke_lc g.calm g.nd (fun i hi => ?_) (sI Γ k it _ _ _ _ _ g h4) (by rw [g.hN, g.sc]; exact blkOk_by h1) (fun s H C cl fp => (sG t (g.blk s H _ C cl fp)).1 _ h5) (fun s H C cl fp => ?_) (fun s H C cl fp => sE Γ k elt _ _ _ _ (g.blk s H _ C cl fp) h7) (set_ok h3)
      · have := List.all_eq_true.mp h2 i hi
        simpa using this
      · exact sIf0 (fun f hf => (sT Γ k cond _ _ _ _ (g.blk s H _ C cl fp) hf).1) h6
    · cases h
  | .frz c => fun X ck L e g h => by
    simp only [okE] at h
    split at h
    · exact ke_frz (sE Γ k c _ _ _ _ g h)
    · cases h
  | .lcO own t it elt => fun X ck L e g h => by
    simp only [okE] at h
    split at h
    · simp only [Bool.and_eq_true] at h
      obtain ⟨⟨⟨⟨⟨h1, h2⟩, h3⟩, h4⟩, h5⟩, h7⟩ := h
      refine ke_lcO g.calm g.nd (fun i hi => ?_) (sI Γ k it _ _ _ _ _ g h4) (by rw [g.hN, g.sc]; exact blkOk_by h1) (fun s H C cl fp => (sG t (g.blk s H _ C cl fp)).1 _ h5) (fun s H C cl fp => ?_) (fun s H C cl fp => sE Γ k elt _ _ _ _ (g.blk s H _ C cl fp) h7) (set_ok h3)
      · have := List.all_eq_true.mp h2 i hi
        simpa using this
      · exact sIf0 (ck := ck) (cond := .yes) (ifs := []) (fun f hf => by simp [okT] at hf) rfl
    · cases h
  | .lcR own i c elt => fun X ck L e g h => by
    simp only [okE] at h
    split at h
    · simp only [Bool.and_eq_true, decide_eq_true_eq] at h
      obtain ⟨⟨⟨⟨⟨h1, h2⟩, h3⟩, h4⟩, h5⟩, h7⟩ := h
      refine ke_lcR g.hK g.calm g.nd h2 (sE Γ k c _ _ _ _ g h4) (by rw [g.hN, g.sc]; exact blkOk_by h1) (fun s H C cl fp => ?_) (fun s H C cl fp => ?_) (fun s H C cl fp => sE Γ k elt _ _ _ _ (g.blk s H _ C cl fp) h7) (set_ok h3)
      · have := (sG (.nm i) (g.blk s H _ C cl fp)).1 _ h5
        simpa only [gT] using this
      · exact sIf0 (ck := ck) (cond := .yes) (ifs := []) (fun f hf => by simp [okT] at hf) rfl
    · cases h
  | .idxO a b => fun X ck L e g h => by
    simp only [okE] at h
    split at h
    · simp only [Bool.and_eq_true] at h
      exact ke_idxO g.hK (sE Γ k a _ _ _ _ g h.1.2) (sE Γ k b _ _ _ _ g h.2) (ix_ok h.1.1)
    · cases h
  | .revL c => fun X ck L e g h => by
    simp only [okE] at h
    split at h
    · exact ke_revL g.hK (sE Γ k c _ _ _ _ g h)
    · cases h
  | .lenO c => fun X ck L e g h => by
    simp only [okE] at h
    split at h
    · simp only [Bool.and_eq_true, decide_eq_true_eq] at h
      obtain ⟨⟨⟨rfl, h2⟩, h3⟩, h4⟩ := h
      exact ke_lenO g.hK g.calm g.gd g.un (g.gl h2) (g.md.bi .len) (sE Γ k c _ _ _ _ g h4) (star1 h3)
    · cases h
  | .cmpL o a b => fun X ck L e g h => by
    simp only [okE] at h
    split at h
    · simp only [Bool.and_eq_true, decide_eq_true_eq] at h
      obtain ⟨⟨⟨rfl, h2⟩, h3⟩, h4⟩ := h
      exact ke_cmpL g.hK (by have := g.un; omega) (mark_ok h2) (sE Γ k a _ _ _ _ g h3) (sE Γ k b _ _ _ _ g h4)
    · cases h
  | .srtS c => fun X ck L e g h => by
    simp only [okE] at h
    split at h
    · simp only [Bool.and_eq_true, decide_eq_true_eq] at h
      obtain ⟨⟨⟨⟨⟨rfl, h2⟩, rfl⟩, h3⟩, h4⟩, h5⟩ := h
      exact ke_srtS g.hK g.calm g.un (g.gl h2) (g.md.bi .sorted) (g.gl h3) (g.md.nb _ (by simp [frees])) (sE Γ k c _ _ _ _ g h5) (star1 h4)
    · cases h
  | .srtK rv c => fun X ck L e g h => by
    simp only [okE] at h
    split at h
    · simp only [Bool.and_eq_true, decide_eq_true_eq, Bool.not_eq_true'] at h
      obtain ⟨⟨⟨⟨⟨⟨⟨rfl, rfl⟩, h2⟩, rfl⟩, rfl⟩, h3⟩, h4⟩, h5⟩ := h
      exact ke_srtK (k2 := default) (p2 := default) (j := 0) false g.hK g.calm g.un (g.gl h2) (g.md.bi .sorted) (g.gl h3) (g.md.bi .len) (sE Γ k c _ _ _ _ g h5) (star1 h4)
    · simp only [Bool.and_eq_true, decide_eq_true_eq] at h
      obtain ⟨⟨⟨⟨⟨⟨⟨⟨rfl, rfl⟩, h2⟩, rfl⟩, rfl⟩, h3⟩, rfl⟩, h4⟩, h5⟩ := h
      exact ke_srtK true g.hK g.calm g.un (g.gl h2) (g.md.bi .sorted) (g.gl h3) (g.md.bi .len) (sE Γ k c _ _ _ _ g h5) (star1 h4)
    · cases h
theorem sO (Γ : Gv) (k : Nat) (c : CO) : ∀ (X : Cx) (ck : Ck) (L : Lc) (e : Option Expr), Gd X ck L Γ k → okO ck c e = true → PO X e (Lf L rO (wP Γ c)) := match c with
  | .non => fun X ck L e g h => by
    simp only [okO] at h
    split at h
    · exact ko_none
    · cases h
  | .som c => fun X ck L e g h => by
    simp only [okO] at h
    split at h
    · exact ko_some (sE Γ k c _ _ _ _ g h)
    · cases h
theorem sN (Γ : Gv) (k : Nat) (c : CA) : ∀ (X : Cx) (ck : Ck) (L : Lc) (e : List Expr), Gd X ck L Γ k → okA ck c e = true → PA X e (LNs L e.length (wNs Γ c)) := match c with
  | .nil => fun X ck L e g h => by
    simp only [okA] at h
    split at h
    · exact ka_nil
    · cases h
  | .cons a as => fun X ck L e g h => by
    simp only [okA] at h
    split at h
    · simp only [Bool.and_eq_true] at h
      exact ka_cons (star1 h.1.1) (sE Γ k a _ _ _ _ g h.1.2) (sN Γ k as _ _ _ _ g h.2)
    · cases h
  | .own a as => fun X ck L e g h => by
    simp only [okA] at h
    split at h
    · simp only [Bool.and_eq_true] at h
      exact ka_own (star1 h.1.1) (sE Γ k a _ _ _ _ g h.1.2) (sN Γ k as _ _ _ _ g h.2)
    · cases h
theorem sD (Γ : Gv) (k : Nat) (c : CA) : ∀ (X : Cx) (ck : Ck) (L : Lc) (e : List Expr), Gd X ck L Γ k → okA ck c e = true → PA X e (LAs L e.length (wAs Γ c)) := match c with
  | .nil => fun X ck L e g h => by
    simp only [okA] at h
    split at h
    · exact kd_nil
    · cases h
  | .cons a as => fun X ck L e g h => by
    simp only [okA] at h
    split at h
    · simp only [Bool.and_eq_true] at h
      exact kd_cons (star1 h.1.1) (sE Γ k a _ _ _ _ g h.1.2) (sD Γ k as _ _ _ _ g h.2)
    · cases h
  | .own a as => fun X ck L e g h => ⟨fun pos pins s σ H Q I q => by obtain ⟨ρ, sl, oh, Y, Qd, Ed, n, w, _⟩ := q; simp only [wAs] at w⟩
theorem sT (Γ : Gv) (k : Nat) (c : CT) : ∀ (X : Cx) (ck : Ck) (L : Lc) (e : Expr), Gd X ck L Γ k → okT ck c e = true → PT X e (LT L (wT Γ c)) ∧ (isBoolE e = true → PW X e (LT L (wT Γ c))) := match c with
  | .yes => fun X ck L e g h => by simp [okT] at h
  | .val c => fun X ck L e g h => by
    simp only [okT] at h
    split at h
    · cases c with
      | cmp o a b =>
        simp only [okE, Bool.and_eq_true, decide_eq_true_eq] at h
        obtain ⟨⟨⟨rfl, h2⟩, h3⟩, h4⟩ := h
        exact ⟨kt_cmp g.hK (by have := g.un; omega) (mark_ok h2) (sE Γ k a _ _ _ _ g h3) (sE Γ k b _ _ _ _ g h4), fun q => by cases q⟩
      | cmpL o a b =>
        simp only [okE, Bool.and_eq_true, decide_eq_true_eq] at h
        obtain ⟨⟨⟨rfl, h2⟩, h3⟩, h4⟩ := h
        exact ⟨kt_cmpL g.hK (by have := g.un; omega) (mark_ok h2) (sE Γ k a _ _ _ _ g h3) (sE Γ k b _ _ _ _ g h4), fun q => by cases q⟩
      | _ => simp [okE] at h
    · cases c with
      | chn o p a b c =>
        simp only [okE, Bool.and_eq_true, decide_eq_true_eq] at h
        obtain ⟨⟨⟨⟨⟨rfl, rfl⟩, h2⟩, h3⟩, h4⟩, h5⟩ := h
        exact ⟨kt_chn g.hK (by have := g.un; omega) (mark2_ok h2) (sE Γ k a _ _ _ _ g h3) (sE Γ k b _ _ _ _ g h4) (sE Γ k c _ _ _ _ g h5), fun q => by cases q⟩
      | _ => simp [okE] at h
    · simp only [Bool.and_eq_true] at h
      refine ⟨kt_val g.hK (sE Γ k c _ _ _ _ g h.2) (test_ok h.1), fun q => ?_⟩
      exact (bool_plain q h.1).elim
  | .and a b => fun X ck L e g h => by
    simp only [okT] at h
    split at h
    · simp only [Bool.and_eq_true] at h
      exact ⟨(kw_and (sT Γ k a _ _ _ _ g h.1).1 (pw_and1 (sT Γ k b _ _ _ _ g h.2).1)).pt, fun _ => kw_and (sT Γ k a _ _ _ _ g h.1).1 (pw_and1 (sT Γ k b _ _ _ _ g h.2).1)⟩
    · simp only [Bool.and_eq_true] at h
      have := kw_and (sT Γ k a _ _ _ _ g h.1).1 ((sT Γ k b _ _ _ _ g h.2).2 rfl)
      exact ⟨this.pt, fun _ => this⟩
    · cases h
  | .or a b => fun X ck L e g h => by
    simp only [okT] at h
    split at h
    · simp only [Bool.and_eq_true] at h
      exact ⟨(kw_or (sT Γ k a _ _ _ _ g h.1).1 (pw_or1 (sT Γ k b _ _ _ _ g h.2).1)).pt, fun _ => kw_or (sT Γ k a _ _ _ _ g h.1).1 (pw_or1 (sT Γ k b _ _ _ _ g h.2).1)⟩
    · simp only [Bool.and_eq_true] at h
      have := kw_or (sT Γ k a _ _ _ _ g h.1).1 ((sT Γ k b _ _ _ _ g h.2).2 rfl)
      exact ⟨this.pt, fun _ => this⟩
    · cases h
  | .not a => fun X ck L e g h => by
    simp only [okT] at h
    split at h
    · exact ⟨kt_not (sT Γ k a _ _ _ _ g h).1, fun q => by cases q⟩
    · cases h
theorem sI (Γ : Gv) (k : Nat) (c : CI) : ∀ (X : Cx) (ck : Ck) (L : Lc) (tg e : Expr), Gd X ck L Γ k → okI ck tg c e = true → PI X tg e (LI L (wI Γ c)) := match c with
  | .of c => fun X ck L tg e g h => by
    simp only [okI] at h
    exact ki_of g.hK (sE Γ k c _ _ _ _ g h)
  | .rng as => fun X ck L tg e g h => by
    simp only [okI] at h
    split at h
    · simp only [Bool.and_eq_true, decide_eq_true_eq] at h
      obtain ⟨⟨rfl, h2⟩, h3⟩ := h
      have hst := okA_star h3
      simp only [List.all_cons, Bool.and_eq_true] at hst
      exact ki_rng1 (g.gl h2) g.md.rng (sN Γ k as _ _ _ _ g h3) (star1 hst.1)
    · simp only [Bool.and_eq_true, decide_eq_true_eq] at h
      obtain ⟨⟨rfl, h2⟩, h3⟩ := h
      have hst := okA_star h3
      simp only [List.all_cons, Bool.and_eq_true] at hst
      exact ki_rng2 (g.gl h2) g.md.rng (sN Γ k as _ _ _ _ g h3) (by rw [star1 hst.1, star1 hst.2.1]; rfl) (star1 hst.2.1)
    · cases h
  | .zip as => fun X ck L tg e g h => by
    simp only [okI] at h
    split at h
    · simp only [Bool.and_eq_true, decide_eq_true_eq] at h
      obtain ⟨⟨⟨rfl, h2⟩, h5⟩, h6⟩ := h
      have hst := okA_star h6
      simp only [List.all_cons, Bool.and_eq_true] at hst
      cases tg with
      | Tuple es kk tp => exact ki_zip g.hK (g.gl h2) g.md.zip (sN Γ k as _ _ _ _ g h6) (star1 hst.1) (star_plain hst.2)
      | _ => simp [isTupE] at h5
    · cases h
  | .enm c => fun X ck L tg e g h => by
    simp only [okI] at h
    split at h
    · simp only [Bool.and_eq_true, decide_eq_true_eq] at h
      obtain ⟨⟨⟨⟨rfl, h2⟩, h3⟩, h4⟩, h5⟩ := h
      cases tg with
      | Tuple es kk tp => exact ki_enm g.hK (g.gl h2) (g.md.nb _ (by simp [frees])) (sE Γ k c _ _ _ _ g h5) (star1 h3)
      | _ => simp [isTupE] at h4
    · cases h
  | .rev c => fun X ck L tg e g h => by
    simp only [okI] at h
    split at h
    · simp only [Bool.and_eq_true, decide_eq_true_eq] at h
      obtain ⟨⟨⟨rfl, h2⟩, h3⟩, h5⟩ := h
      exact ki_rev g.hK (g.gl h2) (g.md.nb _ (by simp [frees])) (sE Γ k c _ _ _ _ g h5) (star1 h3)
    · cases h
end
theorem sIf (Γ : Gv) (k : Nat) (cond : CT) (X : Cx) (ck : Ck) (L : Lc) (ifs : List Expr) (g : Gd X ck L Γ k) (h : (match ifs with | [] => isYes cond | [f] => okT ck cond f | _ => false) = true) : PTs X ifs (LT L (wT Γ cond)) :=
  sIf0 (fun f hf => (sT Γ k cond _ _ _ _ g hf).1) h
end Kd

namespace Kd
open PySem PySem.Spec PyProof.Rows L2 RZ
def funB (sc : Scope) : Bool := match sc.kind with
  | .function => true
  | _ => false
def ownIn (scope : Scope) (x : Str) : Bool := scope.names.any fun (n, k) => n == x && (k == .local || k == .cell)
def asgB (ck : Ck) (x : Str) (px : Pos) : Expr → Bool
  | .ListComp _ _ scope p => (lclB ck.sc x && (px.line == p.line) && !ownIn scope x && funB ck.sc) || celB ck.sc x
  | .SetComp _ _ _ _ => false
  | .DictComp _ _ _ _ _ => false
  | _ => true
def celE (sc : Scope) : Expr → Bool
  | .Name x _ => celB sc x
  | .Subscript _ _ _ => true
  | _ => false
def tupNo (sc : Scope) : Expr → Expr → Bool
  | .Tuple ts _ _, .Tuple vs _ _ => ts.any (celE sc) || vs.all (foldedForSure 8)
  | _, _ => false
mutual
def okS (ck : Ck) : CS → Stmt → Bool
  | .asg own i c => fun s => match s with
    | .Assign [.Name x px] e pos => slotB ck i x && asgB ck x px e && okE ck c e
    | _ => false
  | .unp t c => fun s => match s with
    | .Assign [tg] e pos => isTupE tg && notComp e && (notTupE e || tupNo ck.sc tg e) && okG ck t tg && okE ck c e
    | _ => false
  | .par is as => fun s => match s with
    | .Assign [.Tuple [.Name x px, .Name y py] kt pt] (.Tuple [a, b] k2 p2) pos => funB ck.sc && (match is with | [i, j] => slotB ck i x && slotB ck j y && decide (i ≠ j) | _ => false) && lclB ck.sc x && lclB ck.sc y && (py.line == px.line) && decide (x ≠ y) &&
        !(foldedForSure 8 a && foldedForSure 8 b) && !(constantsAlone 8 a && constantsAlone 8 b) && okA ck as [a, b]
    | .Assign [.Tuple [.Name x px, .Name y py, .Name z pz] kt pt] (.Tuple [a, b, c] k2 p2) pos => funB ck.sc && (match is with | [i, j, k] => slotB ck i x && slotB ck j y && slotB ck k z && decide (i ≠ j) && decide (i ≠ k) && decide (j ≠ k) | _ => false) &&
        lclB ck.sc x && lclB ck.sc y && lclB ck.sc z && (py.line == px.line) && (pz.line == px.line) && decide (x ≠ y) && decide (x ≠ z) && decide (y ≠ z) && !(foldedForSure 8 a && foldedForSure 8 b && foldedForSure 8 c) && !(constantsAlone 8 a && constantsAlone 8 b && constantsAlone 8 c) && okA ck as [a, b, c]
    | _ => false
  | .parc is as => fun s => match s with
    | .Assign [.Tuple ts k1 p1] (.Tuple vs k2 p2) pos => tupNo ck.sc (.Tuple ts k1 p1) (.Tuple vs k2 p2) && okG ck (tgOf is) (.Tuple ts k1 p1) && okA ck as vs && decide (vs.length ≤ 1000) && (match is with | [] => false | _ => true)
    | _ => false
  | .sset o i e => fun s => match s with
    | .Assign [.Subscript x y p] z pos => notSlice y && notComp z && okE ck e z && okE ck o x && okE ck i y
    | _ => false
  | .sps o i j as => fun s => match s with
    | .Assign [.Tuple [.Subscript x y p, .Name z pz] k1 p1] (.Tuple [a, b] k2 p2) pos => slotB ck j z && notSlice y && okE ck o x && okE ck i y && okA ck as [a, b]
    | _ => false
  | .exp c => fun s => match s with
    | .Expr e pos => notComp e && okE ck c e
    | _ => false
  | .ret c => fun s => match s with
    | .Return (some e) _ => okE ck c e
    | _ => false
  | .retN => fun s => match s with
    | .Return none _ => true
    | _ => false
  | .ife c a b => fun s => match s with
    | .If t x y _ => okT ck c t && okB ck a x && okB ck b y
    | _ => false
  | .whl c b => fun s => match s with
    | .While t x [] _ => okT ck c t && okB ck b x
    | _ => false
  | .for_ t it b => fun s => match s with
    | .For tg iter body [] _ => notSet iter && okI ck tg it iter && okG ck t tg && okB ck b body
    | _ => false
  | .forO i c b => fun s => match s with
    | .For tg iter body [] _ => notSet iter && okE ck c iter && okG ck (.nm i) tg && okB ck b body
    | _ => false
  | .pas => fun s => match s with
    | .Pass _ => true
    | .Expr (.Constant (.str _) _ _) _ => true
    | _ => false
  | .brk => fun s => match s with
    | .Break _ => true
    | _ => false
  | .cnt => fun s => match s with
    | .Continue _ => true
    | _ => false
  | .nev => fun _ => true
def okB (ck : Ck) : CB → List Stmt → Bool
  | .nil => fun s => match s with
    | [] => true
    | _ => false
  | .cons c cs => fun s => match s with
    | x :: xs => okS ck c x && okB ck cs xs
    | _ => false
end
section
variable {X : Cx} {ck : Ck} {L : Lc} {Γ : Gv} {k : Nat}
theorem Gd.fun (g : Gd X ck L Γ k) (h : funB ck.sc = true) : X.env.scope.kind = .function := by
  unfold funB at h
  rw [g.sc]
  split at h
  · assumption
  · cases h
theorem swap_no {e : Expr} {t : Option Expr} {l : Nat} {env : Env} (h : notComp e = true) : swapsWith e t l env = pure false := by
  cases e <;> first | rfl | cases h
theorem asg_no {x : Str} {px : Pos} {e : Expr} {l : Nat} (g : Gd X ck L Γ k) (h : asgB ck x px e = true) : swapsWith e (some (.Name x px)) l X.env = pure false ∨
    ∃ el gs scope p, e = .ListComp el gs scope p ∧ lclB ck.sc x = true ∧ swapsWith e (some (.Name x px)) l X.env = pure true := by
  cases e with
  | ListComp el gs scope p =>
    simp only [asgB, Bool.or_eq_true, Bool.and_eq_true] at h
    rcases h with h | h
    · obtain ⟨⟨⟨h1, h2⟩, h3⟩, h4⟩ := h
      exact .inr ⟨el, gs, scope, p, rfl, h1, sw_true (g.fun h4) (g.lcl h1) h2 (by simpa [ownIn] using h3)⟩
    · have := g.cel h
      have ky : X.env.kindOf x = some .cell := this
      left
      unfold swapsWith
      simp only [ky]
      show (pure _ : Sem Bool) = pure false
      have e1 : ((some NameKind.cell : Option NameKind) == some NameKind.local) = false := by decide
      rw [e1]
      simp
  | SetComp => cases h
  | DictComp => cases h
  | _ => exact .inl rfl
theorem blk_fun {env : Env} (hk : env.scope.kind = .function) : env.blockKind = .function := by unfold Env.blockKind; rw [hk]; rfl
theorem star_no {a : Expr} (h : notStar a = true) : (match a with | .Starred .. => true | _ => false) = false := by
  cases a <;> first | rfl | (cases h; done)
def isStarE : Expr → Bool
  | .Starred _ _ => true
  | _ => false
theorem star_abs {a : Expr} (h : notStar a = true) (q : isStarE a = true) : False := by
  cases a <;> first | (cases q; done) | (cases h; done)
theorem swap_sole {t e : Expr} {l : Nat} {env : Env} (h : notComp e = true) : swapsWithSole [t] e l env = pure false := swap_no h
theorem sub_asg {o i : Expr} {pos : Pos} {env : Env} (h : notSlice i = true) (v : Value) : assign (.Subscript o i pos) env v = (do
      let ov ← holding [v] (eval o env)
      let iv ← holding [v, ov] (eval i env)
      standAt pos
      holding [v, ov, iv] (setItem ov iv v)
      release [v, ov, iv] []) := by
  cases i <;> first | rfl | cases h
theorem sub_none {o i p : Expr} {pos : Pos} {env : Env} : swappedStores [.Subscript o i pos] p env = pure none := by
  cases p <;> rfl
theorem sw2 {x y : Str} {px py pt p2 : Pos} {kt k2 : Nat} {a b : Expr} {env : Env} (hk : env.scope.kind = .function) (hx : env.scope.names.lookup x = some .local) (hy : env.scope.names.lookup y = some .local) (hl : (py.line == px.line) = true) (hne : x ≠ y)
    (ha : notStar a = true) (hb : notStar b = true) (hf : (foldedForSure 8 a && foldedForSure 8 b) = false) (hc : (constantsAlone 8 a && constantsAlone 8 b) = false) :
    swappedStores [.Tuple [.Name x px, .Name y py] kt pt] (.Tuple [a, b] k2 p2) env = pure (some [x, y]) := by
  have hl' := eq_of_beq hl
  have kx : env.kindOf x = some .local := hx
  have ky : env.kindOf y = some .local := hy
  have hed : ([x, y] : List Str).eraseDups = [x, y] := by
    simp [List.eraseDups_cons, hne, Ne.symm hne]
  unfold swappedStores
  simp only [blk_fun hk, kx, ky, Expr.pos, hl', List.filterMap_cons, List.filterMap_nil, List.head?_cons, Option.map_some, Option.getD_some, List.length_cons, List.length_nil, List.all_cons, List.all_nil, Bool.and_true, hf, hc, pure_bind, List.any_cons, List.any_nil, star_no ha, star_no hb]
  simp [hf, hc, hed, hne, star_no ha, star_no hb]
  rintro (q | q)
  · exact (star_abs ha q).elim
  · exact (star_abs hb q).elim
theorem sw3 {x y z : Str} {px py pz pt p2 : Pos} {kt k2 : Nat} {a b c : Expr} {env : Env} (hk : env.scope.kind = .function) (hx : env.scope.names.lookup x = some .local) (hy : env.scope.names.lookup y = some .local) (hz : env.scope.names.lookup z = some .local)
    (hl : (py.line == px.line) = true) (hl2 : (pz.line == px.line) = true) (hxy : x ≠ y) (hxz : x ≠ z) (hyz : y ≠ z)
    (ha : notStar a = true) (hb : notStar b = true) (hc : notStar c = true) (hf : (foldedForSure 8 a && foldedForSure 8 b && foldedForSure 8 c) = false) (hcc : (constantsAlone 8 a && constantsAlone 8 b && constantsAlone 8 c) = false) :
    swappedStores [.Tuple [.Name x px, .Name y py, .Name z pz] kt pt] (.Tuple [a, b, c] k2 p2) env = pure (some [x, y, z]) := by
  have hl' := eq_of_beq hl
  have hl2' := eq_of_beq hl2
  have kx : env.kindOf x = some .local := hx
  have ky : env.kindOf y = some .local := hy
  have kz : env.kindOf z = some .local := hz
  have hed : ([x, y, z] : List Str).eraseDups = [x, y, z] := by
    simp [List.eraseDups_cons, hxy, hxz, hyz, Ne.symm hxy, Ne.symm hxz, Ne.symm hyz]
  rw [Bool.and_assoc] at hf hcc
  unfold swappedStores
  simp only [blk_fun hk, kx, ky, kz, Expr.pos, hl', hl2', List.filterMap_cons, List.filterMap_nil, List.head?_cons, Option.map_some, Option.getD_some, List.length_cons, List.length_nil, List.all_cons, List.all_nil, Bool.and_true, hf, hcc, pure_bind, List.any_cons, List.any_nil, star_no ha, star_no hb, star_no hc]
  simp [hf, hcc, hed, hxy, hxz, hyz, star_no ha, star_no hb, star_no hc]
  rintro (q | q | q)
  · exact (star_abs ha q).elim
  · exact (star_abs hb q).elim
  · exact (star_abs hc q).elim
theorem tup_none {tg e : Expr} {env : Env} (h : notTupE e = true) : swappedStores [tg] e env = pure none := by
  cases e with
  | Tuple => cases h
  | _ => cases tg <;> rfl
theorem len_fm {α β : Type} (f : α → Option β) : ∀ l : List α, (∃ x ∈ l, f x = none) → (l.filterMap f).length < l.length
  | [], h => by obtain ⟨x, hx, _⟩ := h; cases hx
  | a :: l, h => by
    obtain ⟨x, hx, e⟩ := h
    cases fa : f a with
    | none =>
      rw [List.filterMap_cons_none fa]
      have := List.length_filterMap_le f l
      simp only [List.length_cons]; omega
    | some b =>
      rw [List.filterMap_cons_some fa]
      rcases List.mem_cons.mp hx with q | q
      · subst q; rw [fa] at e; cases e
      · have := len_fm f l ⟨x, q, e⟩
        simp only [List.length_cons]; omega
theorem tup_no {sc : Scope} {tg e : Expr} {env : Env} (hs : env.scope = sc) (h : tupNo sc tg e = true) : swappedStores [tg] e env = pure none := by
  unfold tupNo at h
  split at h
  · rename_i ts _ _ vs _ _
    simp only [Bool.or_eq_true] at h
    unfold swappedStores
    dsimp only
    split
    · rfl
    · split
      · rfl
      · rcases h with h | h
        · obtain ⟨t, ht, hc⟩ := List.any_eq_true.mp h
          rw [if_pos]
          refine Bool.or_eq_true_iff.mpr (.inl (bne_iff_ne.mpr (Nat.ne_of_lt (len_fm _ ts ⟨t, ht, ?_⟩))))
          cases t with
          | Name x p =>
            simp only [celE, celB] at hc
            have hx : env.kindOf x = some .cell := by
              show env.scope.names.lookup x = _
              rw [hs]
              split at hc
              · assumption
              · cases hc
            simp only [hx]
            rfl
          | _ => rfl
        · split
          · rfl
          · rfl
  · cases h
theorem tAsg_mono {te te' : TE} {g : TG} (h : ∀ σ H Q, te' σ H Q → te σ H Q) {D : Ends} {σ : L2.St} {H : Hp} (q : tAsg te' g D σ H) : tAsg te g D σ H := h _ _ _ q
mutual
theorem sS (Γ : Gv) (k : Nat) (c : CS) : ∀ (X : Cx) (ck : Ck) (L : Lc) (s : Stmt), Gd X ck L Γ k → PassesOwn (model X.prog X.w) X.A X.env X.xe → okS ck c s = true → PS X s (LSt L (wS Γ c)) := match c with
  | .asg own i c => fun X ck L s g po h => by
    simp only [okS] at h
    split at h
    · simp only [Bool.and_eq_true] at h
      obtain ⟨⟨h1, h2⟩, h3⟩ := h
      obtain ⟨n1, n2, n3⟩ := g.slot h1
      rename_i x px e pos
      rcases asg_no (l := pos.line) g h2 with q | ⟨el, gs, scope, p, rfl, q1, q2⟩
      · exact (ps_set g.nd n1 n2 (sE Γ k c _ _ _ _ g h3) q n3).imp fun D σ H h => ls_asg h
      · cases c with
        | lc own' t it cond elt =>
          simp only [okE] at h3
          split at h3
          · rename_i heq
            cases heq
            simp only [Bool.and_eq_true] at h3
            obtain ⟨⟨⟨⟨⟨⟨h1, h2⟩, h3⟩, h4⟩, h5⟩, h6⟩, h7⟩ := h3
            have hn : ∀ i ∈ tgNames t, i ∈ own'.map (·.2) := fun i hi => by
              have := List.all_eq_true.mp h2 i hi
              simpa using this
            refine (ps_setLc g.calm g.nd n1 (g.lcl q1) q2 (sI Γ k it _ _ _ _ _ g h4) (by rw [g.hN, g.sc]; exact blkOk_by h1) (fun s H C cl fp => (sG t (g.blk s H _ C cl fp)).1 _ h5) (fun s H C cl fp => sIf Γ k cond _ _ _ _ (g.blk s H _ C cl fp) h6)
              (fun s H C cl fp => sE Γ k elt _ _ _ _ (g.blk s H _ C cl fp) h7) (set_ok h3)).imp fun D σ H h => tAsg_mono (fun σ H Q h => lc_imp hn h) (ls_asg h)
          · cases h3
        | lcO own' t it elt =>
          simp only [okE] at h3
          split at h3
          · rename_i heq
            cases heq
            simp only [Bool.and_eq_true] at h3
            obtain ⟨⟨⟨⟨⟨h1, h2⟩, h3⟩, h4⟩, h5⟩, h7⟩ := h3
            have hn : ∀ i ∈ tgNames t, i ∈ own'.map (·.2) := fun i hi => by
              have := List.all_eq_true.mp h2 i hi
              simpa using this
            refine (ps_setLc g.calm g.nd n1 (g.lcl q1) q2 (sI Γ k it _ _ _ _ _ g h4) (by rw [g.hN, g.sc]; exact blkOk_by h1) (fun s H C cl fp => (sG t (g.blk s H _ C cl fp)).1 _ h5) (fun s H C cl fp => sIf0 (ck := ck) (cond := .yes) (ifs := []) (fun f hf => by simp [okT] at hf) rfl)
              (fun s H C cl fp => sE Γ k elt _ _ _ _ (g.blk s H _ C cl fp) h7) (set_ok h3)).imp fun D σ H h => tAsg_mono (fun σ H Q h => lcO_imp hn h) (ls_asg h)
          · cases h3
        | lcR own' i' c' elt =>
          simp only [okE] at h3
          split at h3
          · rename_i heq
            cases heq
            simp only [Bool.and_eq_true, decide_eq_true_eq] at h3
            obtain ⟨⟨⟨⟨⟨h1, h2⟩, h3⟩, h4⟩, h5⟩, h7⟩ := h3
            have pg : ∀ (s : Shared) (H : Hp) (C : Addr) (cl : List (Str × Addr)) (fp : List Addr), PG (X.blk s H _ (compEnvC _ cl C X.env) fp) _ (gName i') := fun s H C cl fp => by
              have := (sG (.nm i') (g.blk s H _ C cl fp)).1 _ h5
              simpa only [gT] using this
            refine (ps_setLc g.calm g.nd n1 (g.lcl q1) q2 (pi_list (sE Γ k c' _ _ _ _ g h4)) (by rw [g.hN, g.sc]; exact blkOk_by h1) pg (fun s H C cl fp => sIf0 (ck := ck) (cond := .yes) (ifs := []) (fun f hf => by simp [okT] at hf) rfl)
              (fun s H C cl fp => sE Γ k elt _ _ _ _ (g.blk s H _ C cl fp) h7) (set_ok h3)).imp fun D σ H h => tAsg_mono (fun σ H Q h => by rw [← g.hK]; exact lcR_imp h2 h) (ls_asg h)
          · cases h3
        | _ => simp [okE] at h3
    · cases h
  | .unp t c => fun X ck L s g po h => by
    simp only [okS] at h
    split at h
    · simp only [Bool.and_eq_true] at h
      obtain ⟨⟨⟨⟨h1, h2⟩, h3⟩, h4⟩, h5⟩ := h
      rename_i tg e pos
      have h3' : swappedStores [tg] e X.env = pure none := by
        simp only [Bool.or_eq_true] at h3
        rcases h3 with h3 | h3
        · exact tup_none h3
        · exact tup_no g.sc h3
      exact (ps_asg (sE Γ k c _ _ _ _ g h5) ((sG t g).1 _ h4) (swap_no h2) h3' (by cases tg <;> first | rfl | cases h1)).imp fun D σ H h => ls_unp h
    · cases h
  | .par is as => fun X ck L s g po h => by
    simp only [okS] at h
    split at h
    · simp only [Bool.and_eq_true, decide_eq_true_eq, Bool.not_eq_true'] at h
      obtain ⟨⟨⟨⟨⟨⟨⟨⟨h0, h1⟩, h2⟩, h3⟩, h4⟩, h5⟩, h6⟩, h7⟩, h8⟩ := h
      split at h1
      · simp only [Bool.and_eq_true, decide_eq_true_eq] at h1
        have hst := okA_star h8
        simp only [List.all_cons, Bool.and_eq_true] at hst
        obtain ⟨⟨s1, s2⟩, s3⟩ := h1
        exact (ps_par g.calm g.nd (g.slot s1).1 (g.slot s2).1 s3 (g.lcl h2) (g.lcl h3) (sN Γ k as _ _ _ _ g h8) (sw2 (g.fun h0) (g.lcl h2) (g.lcl h3) h4 h5 hst.1 hst.2.1 h6 h7) rfl).imp fun D σ H h => ls_par2 h
      · cases h1
    · simp only [Bool.and_eq_true, decide_eq_true_eq, Bool.not_eq_true'] at h
      obtain ⟨⟨⟨⟨⟨⟨⟨⟨⟨⟨⟨⟨h0, h1⟩, h2⟩, h3⟩, h4⟩, h5⟩, h6⟩, h7⟩, h8⟩, h9⟩, h10⟩, h11⟩, h12⟩ := h
      split at h1
      · simp only [Bool.and_eq_true, decide_eq_true_eq] at h1
        have hst := okA_star h12
        simp only [List.all_cons, Bool.and_eq_true] at hst
        obtain ⟨⟨⟨⟨⟨s1, s2⟩, s3⟩, s4⟩, s5⟩, s6⟩ := h1
        exact (ps_par3 g.calm g.nd (g.slot s1).1 (g.slot s2).1 (g.slot s3).1 s4 s5 s6 (g.lcl h2) (g.lcl h3) (g.lcl h4) (sN Γ k as _ _ _ _ g h12) (sw3 (g.fun h0) (g.lcl h2) (g.lcl h3) (g.lcl h4) h5 h6 h7 h8 h9 hst.1 hst.2.1 hst.2.2.1 h10 h11) rfl).imp fun D σ H h => ls_par3 h
      · cases h1
    · cases h
  | .parc is as => fun X ck L s g po h => by
    simp only [okS] at h
    split at h
    · simp only [Bool.and_eq_true, decide_eq_true_eq] at h
      obtain ⟨⟨⟨⟨h1, h2⟩, h3⟩, h4⟩, h5⟩ := h
      cases is with
      | nil => cases h5
      | cons i is => exact (ps_asg (pe_tup (sN Γ k as _ _ _ _ g h3)) ((sG (tgOf (i :: is)) g).1 _ h2) (swap_sole (by rfl)) (tup_no g.sc h1) rfl).imp fun D σ H h => ls_parc (le_size h4) h
    · cases h
  | .sset o i e => fun X ck L s g po h => by
    simp only [okS] at h
    split at h
    · simp only [Bool.and_eq_true] at h
      obtain ⟨⟨⟨⟨h1, h2⟩, h3⟩, h4⟩, h5⟩ := h
      have hu : X.A.units + 1 < cLine := by have := g.un; omega
      have hset := set_D (X := X) hu
      rw [← g.hK] at hset
      exact (ps_asg (ke_store (sE Γ k e _ _ _ _ g h3)) (pg_sub (sE Γ k o _ _ _ _ g h4) (ke_norm (sE Γ k i _ _ _ _ g h5)) hset (sub_asg h1)) (swap_sole h2) sub_none rfl).imp fun D σ H h => ls_sset h
    · cases h
  | .sps o i j as => fun X ck L s g po h => by
    simp only [okS] at h
    split at h
    · simp only [Bool.and_eq_true] at h
      obtain ⟨⟨⟨⟨h0, h1⟩, h3⟩, h4⟩, h5⟩ := h
      obtain ⟨n1, n2, n3⟩ := g.slot h0
      have hu : X.A.units + 1 < cLine := by have := g.un; omega
      have hset := set_D (X := X) hu
      rw [← g.hK] at hset
      rename_i x y p z pz k1 p1 a b k2 p2 pos
      have pg : PG X (.Tuple [.Subscript x y p, .Name z pz] k1 p1) (gTup X.K 2 (gCons (gSub (LE L (wE Γ o)) (LE L (wN (wE Γ i))) (rSetD L.K)) (gCons (gName j) gNil))) := pg_tup g.calm (pgs_cons (pg_sub (sE Γ k o _ _ _ _ g h3) (ke_norm (sE Γ k i _ _ _ _ g h4)) hset (sub_asg h1)) (pgs_cons (pg_name g.nd n1 n2 n3) pgs_nil rfl) rfl) rfl rfl
      rw [← g.hK] at pg
      exact (ps_asg (pe_tup (sD Γ k as _ _ _ _ g h5)) pg (swap_sole (by rfl)) (tup_no g.sc (by rfl)) rfl).imp fun D σ H h => ls_sps h
    · cases h
  | .exp c => fun X ck L s g po h => by
    simp only [okS] at h
    split at h
    · simp only [Bool.and_eq_true] at h
      exact (ps_expr (sE Γ k c _ _ _ _ g h.2) (swap_no h.1)).imp fun D σ H h => ls_exp h
    · cases h
  | .ret c => fun X ck L s g po h => by
    simp only [okS] at h
    split at h
    · exact (ps_ret (sE Γ k c _ _ _ _ g h)).imp fun D σ H h => ls_ret h
    · cases h
  | .retN => fun X ck L s g po h => by
    simp only [okS] at h
    split at h
    · exact ps_retN.imp fun D σ H h => ls_retN h
    · cases h
  | .ife c a b => fun X ck L s g po h => by
    simp only [okS] at h
    split at h
    · simp only [Bool.and_eq_true] at h
      exact (ps_if (sT Γ k c _ _ _ _ g h.1.1).1 (sB Γ k a _ _ _ _ g po h.1.2) (sB Γ k b _ _ _ _ g po h.2)).imp fun D σ H h => ls_ife h
    · cases h
  | .whl c b => fun X ck L s g po h => by
    simp only [okS] at h
    split at h
    · simp only [Bool.and_eq_true] at h
      exact (ps_while po (sT Γ k c _ _ _ _ g h.1).1 (sB Γ k b _ _ _ _ g po h.2)).imp fun D σ H h => ls_whl h
    · cases h
  | .for_ t it b => fun X ck L s g po h => by
    simp only [okS] at h
    split at h
    · simp only [Bool.and_eq_true] at h
      exact (ps_for po g.calm (sI Γ k it _ _ _ _ _ g h.1.1.2) ((sG t g).1 _ h.1.2) (sB Γ k b _ _ _ _ g po h.2) (set_ok h.1.1.1)).imp fun D σ H h => ls_for h
    · cases h
  | .forO i c b => fun X ck L s g po h => by
    simp only [okS] at h
    split at h
    · simp only [Bool.and_eq_true] at h
      have pg := (sG (.nm i) g).1 _ h.1.2
      simp only [gT] at pg
      exact (ps_for po g.calm (pi_list (sE Γ k c _ _ _ _ g h.1.1.2)) pg (sB Γ k b _ _ _ _ g po h.2) (set_ok h.1.1.1)).imp fun D σ H h => by rw [← g.hK]; exact ls_forO h
    · cases h
  | .pas => fun X ck L s g po h => by
    simp only [okS] at h
    split at h
    · exact ps_pass.imp fun D σ H h => ls_pas h
    · exact ps_doc.imp fun D σ H h => ls_pas h
    · cases h
  | .brk => fun X ck L s g po h => by
    simp only [okS] at h
    split at h
    · exact ps_break.imp fun D σ H h => ls_brk h
    · cases h
  | .cnt => fun X ck L s g po h => by
    simp only [okS] at h
    split at h
    · exact ps_continue.imp fun D σ H h => ls_cnt h
    · cases h
  | .nev => fun X ck L s g po h => ps_never.imp fun D σ H h => ls_nev h
theorem sB (Γ : Gv) (k : Nat) (c : CB) : ∀ (X : Cx) (ck : Ck) (L : Lc) (s : List Stmt), Gd X ck L Γ k → PassesOwn (model X.prog X.w) X.A X.env X.xe → okB ck c s = true → PSs X s (LSt L (wB Γ c)) := match c with
  | .nil => fun X ck L s g po h => by
    simp only [okB] at h
    split at h
    · exact pss_nil.imp fun D σ H h => ls_nil h
    · cases h
  | .cons c cs => fun X ck L s g po h => by
    simp only [okB] at h
    split at h
    · simp only [Bool.and_eq_true] at h
      exact (pss_cons (sS Γ k c _ _ _ _ g po h.1) (sB Γ k cs _ _ _ _ g po h.2)).imp fun D σ H h => ls_cons h
    · cases h
end
end
end Kd

namespace Kd
open PySem PySem.Spec PyProof.Rows L2 RZ
section
variable {K : PySem.W.Frag} {H H1 : Hp} {ρ ρ1 : List Addr} {oh oh1 : OH} {Y : ZS}
theorem Ok.pick (ok : Ok K H ρ oh Y) {b n : Nat} {a : Addr} {ob : OO} (hb : b ≤ n) (e : oh[n]? = some ob) (ea : ρ[n]? = some a) (hlive : ob.live = true) : Ok K H (ρ.take b ++ [a]) (oh.take b ++ [ob]) Y := by
  have hlen : (ρ.take b).length = (oh.take b).length := by simp [ok.len]
  have hbl : b < oh.length := Nat.lt_of_le_of_lt hb (lt_get e)
  have hbo : (oh.take b).length = b := by simp; omega
  have key : ∀ (c : Addr) (k : Nat) (o : OO), (oh.take b ++ [ob])[k]? = some o → (ρ.take b ++ [a])[k]? = some c → (k < b ∧ oh[k]? = some o ∧ ρ[k]? = some c) ∨ (k = b ∧ c = a ∧ o = ob) := by
    intro c k o h1 h2
    rcases Nat.lt_or_ge k b with q | q
    · rw [List.getElem?_append_left (by omega), List.getElem?_take, if_pos q] at h1
      rw [List.getElem?_append_left (by omega), List.getElem?_take, if_pos q] at h2
      exact .inl ⟨q, h1, h2⟩
    · rw [List.getElem?_append_right (by omega), hbo] at h1
      rw [List.getElem?_append_right (by omega), hlen, hbo] at h2
      have : k - b = 0 := by
        have := lt_get h1
        simp at this; omega
      rw [this] at h1 h2
      simp at h1 h2
      exact .inr ⟨by omega, h2.symm, h1.symm⟩
  have zle : ∀ c, Zn (ρ.take b ++ [a]) (oh.take b ++ [ob]) Y c → Zn ρ oh Y c := fun c => by
    rintro (l | y)
    · rcases liv_snoc hlen l with q | ⟨q, _⟩
      · exact .inl (liv_take q)
      · subst q; exact .inl ⟨n, ob, e, hlive, ea⟩
    · exact .inr y
  refine ⟨by simp [ok.len], fun i j c oi oj e1 l1 e2 l2 r1 r2 => ?_, fun i o c e1 e2 => ?_, fun c y l => ?_, ok.yh⟩
  · rcases key c i oi e1 r1 with ⟨q1, a1, b1⟩ | ⟨q1, b1, c1⟩ <;> rcases key c j oj e2 r2 with ⟨q2, a2, b2⟩ | ⟨q2, b2, c2⟩
    · exact ok.nd i j c oi oj a1 l1 a2 l2 b1 b2
    · subst b2
      have := ok.nd i n c oi ob a1 l1 e hlive b1 ea
      omega
    · subst b1
      have := ok.nd j n c oj ob a2 l2 e hlive b2 ea
      omega
    · omega
  · rcases key c i o e1 e2 with ⟨q1, a1, b1⟩ | ⟨q1, b1, c1⟩
    · exact (ok.at_ i o c a1 b1).mono zle
    · subst b1 c1
      exact (ok.at_ n o c e ea).mono zle
  · rcases zle c (.inl l) with q | q
    · exact ok.yl c y q
    · rcases liv_snoc hlen l with z | ⟨z, _⟩
      · exact ok.yl c y (liv_take z)
      · subst z; exact ok.yl c y ⟨n, ob, e, hlive, ea⟩
theorem retv_ok {v : V} {r : Vl} {Q : QV} (hl : ρ.length = oh.length) (st : Stp H ρ oh H1 ρ1 oh1) (ok1 : Ok K H1 ρ1 oh1 Y) (vr : VR K H1 ρ1 oh1 Y v r) (h : retv oh.length r oh1 Q) :
    ∃ ρ2 r2 oh2, Ok K H1 ρ2 oh2 Y ∧ Stp H ρ oh H1 ρ2 oh2 ∧ VR K H1 ρ2 oh2 Y v r2 ∧ Q r2 oh2 := by
  have zt : ∀ b c, Zn (ρ1.take b) (oh1.take b) Y c → Zn ρ1 oh1 Y c := fun b c => by
    rintro (l | y)
    · exact .inl (liv_take l)
    · exact .inr y
  unfold retv at h
  split at h
  · rename_i d
    exact ⟨_, .d d, _, ok1.take oh.length, st.take (by omega), Rp.mono (zt _) vr, h⟩
  · rename_i n
    obtain ⟨a, rfl, ea⟩ := vr
    split at h
    · rename_i q
      exact ⟨_, .o n, _, ok1.take oh.length, st.take (by omega), ⟨a, rfl, by rw [List.getElem?_take, if_pos q]; exact ea⟩, h⟩
    · rename_i q
      obtain ⟨ob, e1, h⟩ := h
      split at h
      · rename_i hlive
        have hbn : oh.length ≤ n := by omega
        have hlen : (ρ1.take oh.length).length = (oh1.take oh.length).length := by simp [ok1.len]
        have hbo : (ρ1.take oh.length).length = oh.length := by
          have := lt_get ea
          simp; omega
        refine ⟨_, .o oh.length, _, ok1.pick hbn e1 ea hlive, ⟨st.ext, fun c l => ?_, fun k c e => ?_, st.dom⟩, ⟨a, rfl, ?_⟩, h⟩
        · rcases liv_snoc hlen l with z | ⟨z, _⟩
          · exact st.zz c (liv_take z)
          · subst z; exact st.zz c ⟨n, ob, e1, hlive, ea⟩
        · rw [List.getElem?_append_left (by have := lt_get e; omega), List.getElem?_take, if_pos (by have := lt_get e; omega)]
          exact st.pre k c e
        · rw [List.getElem?_append_right (by omega), hbo]; simp
      · rename_i hlive
        refine ⟨_, .d ob.dat, _, ok1.take oh.length, st.take (by omega), ?_, h⟩
        have := ok1.at_ n ob a e1 ea
        cases ob with
        | frz d => exact Rp.mono (zt _) this
        | _ => exact absurd rfl hlive
  · exact ⟨ρ1, _, oh1, ok1, st, vr, h⟩
theorem slr_start {N : List Str} {vs : List V} {rs : List Vl} (h : VRs K H ρ oh Y vs rs) : SlR K H ρ oh Y (start N vs) (rs.map some ++ List.replicate (N.length - rs.length) none) := by
  have hl := h.length
  refine ⟨by simp [L2.start, hl], fun i r e => ?_⟩
  have get : ∀ {vs : List V} {rs : List Vl} {i : Nat} {r : Vl}, VRs K H ρ oh Y vs rs → rs[i]? = some r → ∃ v, vs[i]? = some v ∧ VR K H ρ oh Y v r := by
    intro vs rs i r h
    induction h generalizing i with
    | nil => intro e; simp at e
    | cons a _ ih =>
      intro e
      cases i with
      | zero => simp at e; subst e; exact ⟨_, rfl, a⟩
      | succ i => simpa using ih (by simpa using e)
  rcases Nat.lt_or_ge i rs.length with q | q
  · rw [List.getElem?_append_left (by simpa using q), List.getElem?_map] at e
    cases e1 : rs[i]? with
    | none => rw [e1] at e; cases e
    | some r' =>
      rw [e1] at e
      cases e
      obtain ⟨v, e2, vr⟩ := get h e1
      refine ⟨v, ?_, vr⟩
      unfold L2.start
      rw [List.getElem?_append_left (by simp; omega), List.getElem?_map, e2]; rfl
  · rw [List.getElem?_append_right (by simpa using q)] at e
    have := List.mem_of_getElem? e
    simp at this
end
section
variable {P : Program} {w : World} {K : PySem.W.Frag} {mg : Str → Option Value} {base : Heap} {k : Nat} {Γ : Gv} {xr : Exn → Value → Option Addr → Prop}
def arOf (l : List (Str × Nat)) : Str → Option Nat := fun f => l.lookup f
/-- a def by its core text -/
theorem fn_ok {f : Addr} {name qual : Str} {params : Arguments} {body : List Stmt} {scope : Scope} {fd : FuncData} {N ps : List Str} {S : FSpec} {core : CB} {ar : Str → Option Nat}
    (F : FunD K name qual params body scope [] [] f fd) (Sc : FnScope N ps scope) (md : Md P w K mg base k Γ ar xr) (h : okB ⟨N, scope, fun _ => true, ar⟩ core body = true)
    (hS : ∀ rs oh Q E, rs.length = ps.length → S rs oh Q E → fnW Γ N.length core rs oh Q E) : FnG P w K mg base (k + 1) f fd ps (spOf K xr ps.length S) := by
  refine FnG.of F Sc (fun vs H Q E h => h.1) fun cdv A outer s H vs Q E hr hg hsp => ?_
  let X : Cx := cxOf (L2.CX P w) P w K mg base N qual scope f cdv A outer s H E
  let L : Lc := ⟨K, fun cls d _ H' => E cls d H', xr⟩
  have g : Gd X ⟨N, scope, fun _ => true, ar⟩ L Γ k :=
    { hN := rfl, sc := rfl, fn := rfl, nd := Sc.nd, calm := rfl, hK := rfl, room := hr, gd := hg, tk := takes_of rfl rfl rfl rfl, md := md }
  refine ⟨LSt L (wB Γ core), sB Γ k core X _ L body g (passes_of rfl) h, ?_⟩
  obtain ⟨hl, ρ, oh, Y, rs, Qd, Ed, ok, vr, q, hq, hx⟩ := hsp
  have hln := vr.length
  have w0 := hS rs oh Qd Ed (by omega) q
  refine ⟨ρ, _, oh, Y, _, _, ⟨ok, slr_start vr⟩, w0, ⟨fun st σ' H' ρ' q n t => ?_, fun r oh' v H' ρ' q ok' t vr' => ?_, fun st σ' H' ρ' q => q.elim, fun st σ' H' ρ' q => q.elim⟩, fun x oh' cls d σ' H' ρ' q ok' t r => ?_⟩
  · exact hq _ _ _ _ _ q (n.ok.take oh.length) (t.take (by have := ok.len; omega)) Rp.non
  · obtain ⟨ρ2, r2, oh2, ok2, st2, vr2, q2⟩ := retv_ok ok.len t ok' vr' q
    exact hq _ _ _ _ _ q2 ok2 st2 vr2
  · exact hx x _ cls d H' _ q (ok'.take oh.length) (t.take (by have := ok.len; omega)) r
theorem Md.add {l : List (Str × Nat)} {f : Str} {n : Nat} {S : FSpec} {fa : Addr} {fd : FuncData} {ps : List Str} (md : Md P w K mg base k Γ (arOf l) xr) (hS : Γ.fn f = some S) (F : FnG P w K mg base (k + 1) fa fd ps (spOf K xr n S)) (hm : mg f = some (.ref fa))
    (hk : PySem.W.keepIn K (.ref fa) = true) (hb : Binds K fd ps []) : Md P w K mg base (k + 1) Γ (arOf ((f, n) :: l)) xr where
  glo := md.glo
  fn := fun g m h => by
    simp only [arOf, List.lookup_cons] at h
    split at h
    · rename_i e
      have := eq_of_beq e
      subst this
      cases h
      exact ⟨S, fa, fd, ps, hS, F, hm, hk, hb⟩
    · obtain ⟨S', fa', fd', ps', a, b, c⟩ := md.fn g m h
      exact ⟨S', fa', fd', ps', a, b.mono (Nat.le_succ k), c⟩
  bi := md.bi
  ty := md.ty
  isi := md.isi
  rng := md.rng
  zip := md.zip
  nb := md.nb
theorem Md.step {l : List (Str × Nat)} {f : Str} {S : FSpec} {fa : Addr} {fd : FuncData} {ps : List Str} {name qual : Str} {params : Arguments} {body : List Stmt} {scope : Scope} {N : List Str} {core : CB} (md : Md P w K mg base k Γ (arOf l) xr) (F : FunD K name qual params body scope [] [] fa fd) (hm : mg f = some (.ref fa))
    (hS : Γ.fn f = some S) (Sc : FnScope N ps scope) (hb : Binds K fd ps []) (h : okB ⟨N, scope, fun _ => true, arOf l⟩ core body = true)
    (hw : ∀ rs oh Q E, rs.length = ps.length → S rs oh Q E → fnW Γ N.length core rs oh Q E) : Md P w K mg base (k + 1) Γ (arOf ((f, ps.length) :: l)) xr :=
  md.add hS (fn_ok F Sc md h hw) hm F.kp hb
/-- the script as the law's argument -/
theorem law_spec {S : FSpec} {n : Nat} (hS : ∀ ns : List Int, ns.length ≤ n → S [.d (scrD (ns.map .int))] [] (fun r _ => r = .d (.bool true)) fun _ _ => False) (hn : n ≤ sizeLine)
    (H : Hp) (a : Addr) (ns : List Int) (hl : ns.length ≤ n) (hs : SqL K H a (ns.map V.int)) : spOf K xr 1 S [.ref a] H (fun v _ => v = .bl true) fun _ _ _ => False := by
  have rall : ∀ (Z : ZS) (ns : List Int), RpAll K H Z (ns.map V.int) (ns.map (.int : Int → D)) := fun Z ns => by
    induction ns with
    | nil => exact .nil
    | cons i ns ih => exact .cons (.int i) ih
  refine ⟨rfl, [], [], fun _ => False, [.d (scrD (ns.map .int))], _, _, ⟨rfl, fun i j a oi oj e => by simp at e, fun i ob a e => by simp at e, fun a y => y.elim, fun a y => y.elim⟩, .cons ?_ .nil, hS ns hl, fun r oh' v H' ρ' q ok st vr => ?_, fun x oh' cls d H' ρ' q => q.elim⟩
  · refine Rp.scr ?_ (by simp; omega) (rall _ ns)
    rcases hs with hs | hs
    · exact .inl ⟨fun z => by rcases z with ⟨i, ob, e, _⟩ | z; simp at e; exact z, hs⟩
    · exact .inr (.inr hs)
  · subst q
    cases vr
    rfl
end
end Kd

namespace Kd
open PySem PySem.Spec PyProof.Rows L2
/-- a text by its signs -/
def T (l : List Nat) : D := .str ⟨l.toArray⟩
theorem T_inj {a b : List Nat} (h : T a = T b) : a = b := by
  unfold T at h
  injection h with h
  injection h with h
  exact List.toArray_inj h
theorem signs_T (l : List Nat) : signs ⟨l.toArray⟩ = l.map fun c => T [c] := by simp [signs, T]
section
variable {oh : OH} {Q : QV} {d : D} {n b : Nat}
theorem norm_d : norm b (.d d) oh Q = Q (.d d) oh := rfl
theorem norm_o (h : n < b) : norm b (.o n) oh Q = Q (.o n) oh := by simp [norm, h]
theorem norm_new {ob : OO} : norm oh.length (.o oh.length) (oh ++ [ob]) Q = Q (.d ob.dat) oh := by
  simp [norm]
theorem store_d {R : D → OH → Prop} : store b (.d d) oh R = R d oh := rfl
theorem store_new {ob : OO} {R : D → OH → Prop} : store oh.length (.o oh.length) (oh ++ [ob]) R = R ob.dat oh := by
  simp [store]
theorem vdat_d : vdat oh (.d d) = some d := rfl
theorem vdat_o {ob : OO} (h : oh[n]? = some ob) : vdat oh (.o n) = some ob.dat := by simp [vdat, h]
theorem fin_sh : fin (.sh d) oh Q = Q (.d d) oh := rfl
theorem fin_fr {ob : OO} (h : ob.live = true) : fin (.fr ob) oh Q = Q (.o oh.length) (oh ++ [ob]) := by simp [fin, h]
theorem fin_lst {ds : List D} : fin (.fr (.lst ds)) oh Q = Q (.o oh.length) (oh ++ [.lst ds]) := by simp [fin, OO.live]
theorem fresh_lst {ob : OO} : fresh oh ob Q = Q (.o oh.length) (oh ++ [ob]) := rfl
theorem walk_d {R : QI} : walkOf (.d d) oh R = ∃ items, itemsD d = some items ∧ R items (fun _ => True) oh := rfl
end
/-- a comprehension whose turns change nothing -/
theorem lc_pure {step : D → OH → (Option D → OH → Prop) → Prop} {still : OH → Prop} {Q : List D → OH → Prop} {oh : OH} (f : D → Option D) (hs : still oh) :
    ∀ (items acc : List D), (∀ d ∈ items, ∀ k : Option D → OH → Prop, k (f d) oh → step d oh k) → Q (acc ++ items.filterMap f) oh → lcGo step still items acc oh Q
  | [], acc, _, q => ⟨hs, by simpa using q⟩
  | d :: ds, acc, h, q => by
    refine ⟨hs, h d List.mem_cons_self _ ?_⟩
    refine lc_pure f hs ds _ (fun x hx => h x (List.mem_cons_of_mem _ hx)) ?_
    cases e : f d with
    | none => simpa [List.filterMap_cons, e] using q
    | some y => simpa [List.filterMap_cons, e] using q
theorem seq_T (l : List Nat) : seqD (T l) = some (l.map fun c => T [c]) := by
  show some (signs _) = _
  rw [signs_T]
theorem it_T (l : List Nat) : itemsD (T l) = some (l.map fun c => T [c]) := seq_T l
theorem it_list (l : List D) : itemsD (.list l) = some l := rfl
theorem it_tuple (l : List D) : itemsD (.tuple l) = some l := rfl
theorem zipN2 (a b : List D) : zipN [a, b] = some (zip2 a b) := rfl
theorem zipN3 (a b c : List D) : zipN [a, b, c] = some (zip3 a b c) := rfl
theorem seq_list (l : List D) : seqD (.list l) = some l := rfl
theorem seq_tuple (l : List D) : seqD (.tuple l) = some l := rfl
def Small (l : List Nat) : Prop := l.length ≤ 1000
theorem line_1000 : (100000 : Nat) ≤ sizeLine := by decide
theorem in_T (c : Nat) (l : List Nat) : inD (T [c]) (T l) = some (decide (c ∈ l)) := by
  simp [inD, T, strIn]
theorem strs_T : ∀ l : List (List Nat), strsOf (l.map T) = some (l.map fun x => ⟨x.toArray⟩)
  | [] => rfl
  | x :: l => by simp [strsOf, T, strs_T l]
theorem join_flat : ∀ l : List (List Nat), Str.join "" (l.map fun x => (⟨x.toArray⟩ : Str)) = ⟨l.flatten.toArray⟩
  | [] => rfl
  | [x] => by simp [Str.join]
  | x :: y :: l => by
    have ih := join_flat (y :: l)
    have e : Str.join "" ((x :: y :: l).map fun x => (⟨x.toArray⟩ : Str)) = (⟨x.toArray⟩ : Str) ++ ("" : Str) ++ Str.join "" ((y :: l).map fun x => (⟨x.toArray⟩ : Str)) := rfl
    rw [e, ih]
    show (⟨(x.toArray ++ (Str.cps ("" : Str))) ++ _⟩ : Str) = _
    have e0 : Str.cps ("" : Str) = #[] := by kernel_rfl
    rw [e0]
    simp
theorem strsIn_map (l : List (List Nat)) : strsIn (.list (l.map T)) = some (l.map fun x => ⟨x.toArray⟩) := strs_T l
theorem len_T (l : List Nat) : (⟨l.toArray⟩ : Str).length = l.length := by simp [Str.length]
theorem sum_len (l : List (List Nat)) : ((l.map fun x => (⟨x.toArray⟩ : Str)).map (·.length)).sum = l.flatten.length := by
  induction l with
  | nil => rfl
  | cons x l ih => simp only [List.map_cons, List.sum_cons, List.flatten_cons, List.length_append, ih, len_T]
/-- ''.join of a list of texts -/
theorem me_join (l : List (List Nat)) (h : l.flatten.length ≤ 100000) : meD .join (.str "") [.list (l.map T)] = some (.sh (T l.flatten)) := by
  simp only [meD, strsIn_map]
  have e0 : Str.length ("" : Str) = 0 := by kernel_rfl
  simp only [sum_len, e0, Nat.mul_zero, Nat.add_zero]
  rw [if_pos (Nat.le_trans h line_1000), join_flat]
  rfl
theorem map_sing (l : List Nat) : (l.map fun c => T [c]) = (l.map fun c => [c]).map T := by simp
theorem flat_sing (l : List Nat) : (l.map fun c => [c]).flatten = l := by
  induction l with
  | nil => rfl
  | cons x l ih => simp [ih]
theorem me_join1 (l : List Nat) (h : l.length ≤ 100000) : meD .join (.str "") [.list (l.map fun c => T [c])] = some (.sh (T l)) := by
  rw [map_sing, me_join _ (by rw [flat_sing]; exact h), flat_sing]
/-- a comprehension over a mapped list, a filter, a map -/
theorem lc_fm {α : Type} {step : D → OH → (Option D → OH → Prop) → Prop} {still : OH → Prop} {Q : List D → OH → Prop} {oh : OH} {g : α → D} {l : List α} (p : α → Bool) (f : α → D) (hs : still oh)
    (h : ∀ a ∈ l, ∀ k : Option D → OH → Prop, (if p a = true then k (some (f a)) oh else k none oh) → step (g a) oh k) (q : Q ((l.filter p).map f) oh) : lcGo step still (l.map g) [] oh Q := by
  have main : ∀ (l : List α) (acc : List D), (∀ a ∈ l, ∀ k : Option D → OH → Prop, (if p a = true then k (some (f a)) oh else k none oh) → step (g a) oh k) → Q (acc ++ (l.filter p).map f) oh → lcGo step still (l.map g) acc oh Q := by
    intro l
    induction l with
    | nil => intro acc _ q; exact ⟨hs, by simpa using q⟩
    | cons a l ih =>
      intro acc h q
      refine ⟨hs, h a List.mem_cons_self _ ?_⟩
      by_cases e : p a = true
      · rw [if_pos e]
        refine ih _ (fun x hx => h x (List.mem_cons_of_mem _ hx)) ?_
        simpa [List.filter_cons, e] using q
      · rw [if_neg e]
        refine ih _ (fun x hx => h x (List.mem_cons_of_mem _ hx)) ?_
        simpa [List.filter_cons, e] using q
  exact main l [] h (by simpa using q)
theorem lc_map {α : Type} {step : D → OH → (Option D → OH → Prop) → Prop} {still : OH → Prop} {Q : List D → OH → Prop} {oh : OH} {g : α → D} {l : List α} (f : α → D) (hs : still oh)
    (h : ∀ a ∈ l, ∀ k : Option D → OH → Prop, k (some (f a)) oh → step (g a) oh k) (q : Q (l.map f) oh) : lcGo step still (l.map g) [] oh Q :=
  lc_fm (fun _ => true) f hs (fun a ha k hk => h a ha k (by simpa using hk)) (by rw [List.filter_eq_self.mpr fun _ _ => rfl]; exact q)
theorem cmp_in (c : Nat) (l : List Nat) : cmpD .In (T [c]) (T l) = some (decide (c ∈ l)) := in_T c l
theorem cmp_notin (c : Nat) (l : List Nat) : cmpD .NotIn (T [c]) (T l) = some (!decide (c ∈ l)) := by
  simp only [cmpD, in_T, Option.map_some]
theorem tru_bool (b : Bool) : truD (.bool b) = some b := by cases b <;> rfl
theorem retv_d {oh oh' : OH} {b : Nat} {d : D} {Q : QV} : retv b (.d d) oh Q = Q (.d d) (oh.take b) := rfl
theorem retv_new {oh : OH} {ob : OO} {Q : QV} (h : ob.live = true) : retv oh.length (.o oh.length) (oh ++ [ob]) Q = Q (.o oh.length) (oh ++ [ob]) := by
  simp [retv, h]
theorem take_all {oh : OH} : oh.take oh.length = oh := List.take_length
theorem ex_some {α : Type} {a : α} {P : α → Prop} : (∃ x, some a = some x ∧ P x) = P a := by simp
theorem set_at {oh : OH} {ob : OO} : (oh ++ [ob])[oh.length]? = some ob := by simp
theorem bind1 {i : Nat} {d : D} {sl : Sl} : bindT (.nm i) d sl = some (sl.set i (some (.d d))) := rfl
theorem bind2 {i j : Nat} {a b : D} {sl : Sl} : bindT (.cons (.nm i) (.cons (.nm j) .nil)) (.tuple [a, b]) sl = some ((sl.set i (some (.d a))).set j (some (.d b))) := rfl
theorem bind3 {i j k : Nat} {a b c : D} {sl : Sl} : bindT (.cons (.nm i) (.cons (.nm j) (.cons (.nm k) .nil))) (.tuple [a, b, c]) sl = some (((sl.set i (some (.d a))).set j (some (.d b))).set k (some (.d c))) := rfl
theorem cut_1 (ds : List D) : cutD ds (some 1) none = ds.drop 1 := by
  have e : HT.sIx ds.length 0 (some 1) = min 1 ds.length := HT.sIx_nat _ _ 1
  unfold cutD
  rw [e, HT.sIx_none]
  cases ds with
  | nil => rfl
  | cons d ds =>
    have : min 1 (d :: ds).length = 1 := by simp
    rw [this]
    simp
/-! ints compared -/
theorem canLt_int (i j : Int) : canLt (.int i) (.int j) = true := by simp [canLt, flatDict, notNone, PyData.depth, PySem.W.alike]
theorem canEq_int (i j : Int) : canEq (.int i) (.int j) = true := by simp [canEq, flatDict, PyData.depth]
theorem cmp_lt (i j : Int) : cmpD .Lt (.int i) (.int j) = some (decide (i < j)) := by simp only [cmpD, canLt_int, if_true, PySem.W.dataLt_int]
theorem cmp_gt (i j : Int) : cmpD .Gt (.int i) (.int j) = some (decide (j < i)) := by simp only [cmpD, canLt_int, if_true, PySem.W.dataLt_int]
theorem cmp_le (i j : Int) : cmpD .LtE (.int i) (.int j) = some (!decide (j < i)) := by simp only [cmpD, canLt_int, if_true, PySem.W.dataLt_int]
theorem cmp_ge (i j : Int) : cmpD .GtE (.int i) (.int j) = some (!decide (i < j)) := by simp only [cmpD, canLt_int, if_true, PySem.W.dataLt_int]
theorem cmp_eq (i j : Int) : cmpD .Eq (.int i) (.int j) = some (decide (i = j)) := by
  simp only [cmpD, canEq_int, if_true, PyData.eqv, Option.some.injEq]
  rfl
theorem cmp_ne (i j : Int) : cmpD .NotEq (.int i) (.int j) = some (!decide (i = j)) := by
  simp only [cmpD, canEq_int, if_true, PyData.eqv, Option.some.injEq]
  rfl
theorem len_tup (l : List D) : biD .len [.tuple l] = some (.sh (.int (l.length : Nat))) := rfl
theorem len_lst (l : List D) : biD .len [.list l] = some (.sh (.int (l.length : Nat))) := rfl
theorem len_txt (l : List Nat) : biD .len [T l] = some (.sh (.int (l.length : Nat))) := by
  show some (Rs.sh (.int ((Str.length ⟨l.toArray⟩ : Nat) : Int))) = _
  rw [len_T]
theorem at_nat {α : Type} {xs : List α} {n : Nat} {x : α} (h : xs[n]? = some x) : atI xs (n : Int) = some x := by
  have hn := lt_get h
  unfold atI ixN
  rw [if_pos (by omega), if_pos (by omega)]
  simpa using h
theorem ix_0 (d : D) (ds : List D) : ixD (.tuple (d :: ds)) (.int 0) = some d := at_nat (n := 0) rfl
theorem ix_1 (d e : D) (ds : List D) : ixD (.tuple (d :: e :: ds)) (.int 1) = some e := at_nat (n := 1) rfl
theorem ix_l0 (d : D) (ds : List D) : ixD (.list (d :: ds)) (.int 0) = some d := at_nat (n := 0) rfl
theorem ix_l1 (d e : D) (ds : List D) : ixD (.list (d :: e :: ds)) (.int 1) = some e := at_nat (n := 1) rfl
theorem ix_l2 (d e f : D) (ds : List D) : ixD (.list (d :: e :: f :: ds)) (.int 2) = some f := at_nat (n := 2) rfl
/-! ### a def's ends, folded -/
def fnD (oh : OH) (Q : QV) : DE := { nx := fun st => Q (.d .none) (st.oh.take oh.length), rt := fun r oh' => retv oh.length r oh' Q, bk := fun _ => False, ct := fun _ => False }
def fnE (oh : OH) (E : QX) : QX := fun x oh' => E x (oh'.take oh.length)
theorem fnW_eq {Γ : Gv} {N : Nat} {b : CB} {rs : List Vl} {oh : OH} {Q : QV} {E : QX} : fnW Γ N b rs oh Q E = wB Γ b ⟨rs.map some ++ List.replicate (N - rs.length) none, oh⟩ (fnD oh Q) (fnE oh E) := rfl
theorem fnD_nx {oh : OH} {Q : QV} {st : DS} : (fnD oh Q).nx st = Q (.d .none) (st.oh.take oh.length) := rfl
theorem fnD_rt {oh oh' : OH} {Q : QV} {r : Vl} : (fnD oh Q).rt r oh' = retv oh.length r oh' Q := rfl
def DE.seq (D : DE) (n : DS → Prop) : DE := { D with nx := n }
def DE.loop (D : DE) (n : DS → Prop) : DE := { D with nx := n, ct := n, bk := D.nx }
section
variable {Γ : Gv} {D : DE} {E : QX} {n m : DS → Prop} {st : DS} {r : Vl} {oh : OH}
theorem seq_nx : (D.seq n).nx st = n st := rfl
theorem seq_rt : (D.seq n).rt r oh = D.rt r oh := rfl
theorem seq_rtF : (D.seq n).rt = D.rt := rfl
theorem loop_rtF : (D.loop n).rt = D.rt := rfl
theorem seq_bk : (D.seq n).bk st = D.bk st := rfl
theorem seq_ct : (D.seq n).ct st = D.ct st := rfl
theorem loop_nx : (D.loop n).nx st = n st := rfl
theorem loop_rt : (D.loop n).rt r oh = D.rt r oh := rfl
theorem loop_bk : (D.loop n).bk st = D.nx st := rfl
theorem loop_ct : (D.loop n).ct st = n st := rfl
theorem wB_cons {s : CS} {b : CB} : wB Γ (.cons s b) st D E = wS Γ s st (D.seq fun st' => wB Γ b st' D E) E := rfl
theorem wB_nil : wB Γ .nil st D E = D.nx st := rfl
theorem wS_asgO {i : Nat} {c : CE} : wS Γ (.asg true i c) st D E = wE Γ c st.sl st.oh (fun r oh1 => D.nx ⟨st.sl.set i (some r), oh1⟩) E := by simp [wS]
theorem wS_asg {i : Nat} {c : CE} : wS Γ (.asg false i c) st D E = wE Γ c st.sl st.oh (fun r oh1 => norm st.oh.length r oh1 fun r oh1 => D.nx ⟨st.sl.set i (some r), oh1⟩) E := by simp [wS]
theorem wS_unp {t : Tg} {c : CE} : wS Γ (.unp t c) st D E = wE Γ c st.sl st.oh (fun r oh1 => norm st.oh.length r oh1 fun r oh1 => ∃ d sl', r = .d d ∧ bindT t d st.sl = some sl' ∧ D.nx ⟨sl', oh1⟩) E := rfl
theorem wS_par {is : List Nat} {as : CA} : wS Γ (.par is as) st D E = wNs Γ as st.sl st.oh (fun rs oh1 => ∃ sl', setAll is rs st.sl = some sl' ∧ D.nx ⟨sl', oh1⟩) E := rfl
theorem wS_parc {is : List Nat} {as : CA} : wS Γ (.parc is as) st D E = wNs Γ as st.sl st.oh (fun rs oh1 => ∃ sl', setAll is rs st.sl = some sl' ∧ D.nx ⟨sl', oh1⟩) E := rfl
theorem wS_sset {o i e : CE} : wS Γ (.sset o i e) st D E = wE Γ e st.sl st.oh (fun r oh1 => store st.oh.length r oh1 fun d oh1 => wE Γ o st.sl oh1 (fun r oh2 => ∃ n, r = .o n ∧ wE Γ i st.sl oh2 (fun r oh3 => norm oh2.length r oh3 fun ri oh3 =>
      ∃ ob ob' di, oh3[n]? = some ob ∧ ob.live = true ∧ ri = .d di ∧ setD ob di d = some ob' ∧ ob'.live = true ∧ D.nx ⟨st.sl, oh3.set n ob'⟩) E) E) E := rfl
theorem wS_sps {o i : CE} {j : Nat} {as : CA} : wS Γ (.sps o i j as) st D E = wAs Γ as st.sl st.oh (fun ds oh1 => ∃ d e, ds = [d, e] ∧ wE Γ o st.sl oh1 (fun r oh2 => ∃ n, r = .o n ∧ wE Γ i st.sl oh2 (fun r oh3 => norm oh2.length r oh3 fun ri oh3 =>
      ∃ ob ob' di, oh3[n]? = some ob ∧ ob.live = true ∧ ri = .d di ∧ setD ob di d = some ob' ∧ ob'.live = true ∧ D.nx ⟨st.sl.set j (some (.d e)), oh3.set n ob'⟩) E) E) E := rfl
theorem wS_exp {c : CE} : wS Γ (.exp c) st D E = wE Γ c st.sl st.oh (fun r oh1 => norm st.oh.length r oh1 fun _ oh1 => D.nx ⟨st.sl, oh1⟩) E := rfl
theorem wS_ret {c : CE} : wS Γ (.ret c) st D E = wE Γ c st.sl st.oh D.rt E := rfl
theorem wS_retN : wS Γ .retN st D E = D.rt (.d .none) st.oh := rfl
theorem wS_ife {c : CT} {a b : CB} : wS Γ (.ife c a b) st D E = wT Γ c st.sl st.oh (fun k oh1 => if k = true then wB Γ a ⟨st.sl, oh1⟩ D E else wB Γ b ⟨st.sl, oh1⟩ D E) E := rfl
theorem wS_whl {c : CT} {b : CB} {st0 : DS} : wS Γ (.whl c b) st0 D E = ∃ W : Nat → DS → Prop, (∃ m, W m st0) ∧ ∀ m st, W m st → wT Γ c st.sl st.oh (fun k oh1 => if k = true then
      wB Γ b ⟨st.sl, oh1⟩ (D.loop fun st' => ∃ m' st2, m' < m ∧ Wk st0.oh.length st' st2 ∧ W m' st2) E else D.nx ⟨st.sl, oh1⟩) E := rfl
theorem wS_for {t : Tg} {it : CI} {b : CB} : wS Γ (.for_ t it b) st D E = wI Γ it st.sl st.oh (fun items still oh1 => ∃ Pv : Nat → DS → Prop, Pv 0 ⟨st.sl, oh1⟩ ∧ (∀ i st, i ≤ items.length → Pv i st → still st.oh) ∧
      (∀ (i : Nat) d st, items[i]? = some d → Pv i st → ∃ sl', bindT t d st.sl = some sl' ∧ wB Γ b ⟨sl', st.oh⟩ (D.loop fun st' => ∃ st2, Wk oh1.length st' st2 ∧ Pv (i + 1) st2) E) ∧ ∀ st, Pv items.length st → D.nx st) E := rfl
theorem wS_forO {i : Nat} {c : CE} {b : CB} : wS Γ (.forO i c b) st D E = wE Γ c st.sl st.oh (fun r oh1 => ∃ ns, r = .l ns ∧ ∃ Pv : Nat → DS → Prop, Pv 0 ⟨st.sl, oh1⟩ ∧
      (∀ (j n : Nat) st, ns[j]? = some n → Pv j st → wB Γ b ⟨st.sl.set i (some (.o n)), st.oh⟩ (D.loop fun st' => ∃ st2, Wk oh1.length st' st2 ∧ Pv (j + 1) st2) E) ∧ ∀ st, Pv ns.length st → D.nx st) E := rfl
theorem wS_pas : wS Γ .pas st D E = D.nx st := rfl
theorem wS_brk : wS Γ .brk st D E = D.bk st := rfl
theorem wS_cnt : wS Γ .cnt st D E = D.ct st := rfl
end
theorem ns_bound : ∀ ns : List Nat, ∃ B, ∀ n ∈ ns, n < B
  | [] => ⟨0, fun n h => by simp at h⟩
  | m :: ns => by
    obtain ⟨B, h⟩ := ns_bound ns
    refine ⟨B + m + 1, fun n hn => ?_⟩
    rcases List.mem_cons.mp hn with q | q
    · omega
    · have := h n q; omega
theorem sl_boundL : ∀ sl : Sl, ∃ B, ∀ (i : Nat) (ns : List Nat), sl[i]? = some (some (.l ns)) → ∀ n ∈ ns, n < B
  | [] => ⟨0, fun i n h => by simp at h⟩
  | x :: sl => by
    obtain ⟨B, h⟩ := sl_boundL sl
    have old : ∀ C, B ≤ C → ∀ (i : Nat) (ns : List Nat), (x :: sl)[i + 1]? = some (some (.l ns)) → ∀ n ∈ ns, n < C := fun C hC i ns e n hn => Nat.lt_of_lt_of_le (h i ns (by simpa using e) n hn) hC
    by_cases hx : ∃ ns, x = some (.l ns)
    · obtain ⟨ms, rfl⟩ := hx
      obtain ⟨C, hC⟩ := ns_bound ms
      refine ⟨B + C, fun i ns e => ?_⟩
      cases i with
      | zero =>
        have : ms = ns := by simpa using e
        subst this
        intro n hn
        have := hC n hn
        omega
      | succ i => exact old _ (by omega) i ns e
    · refine ⟨B, fun i ns e => ?_⟩
      cases i with
      | zero => exact absurd ⟨ns, by simpa using e⟩ hx
      | succ i => exact old _ (Nat.le_refl _) i ns e
theorem sl_bound : ∀ sl : Sl, ∃ B, ∀ (i n : Nat), sl[i]? = some (some (.o n)) → n < B
  | [] => ⟨0, fun i n h => by simp at h⟩
  | x :: sl => by
    obtain ⟨B, h⟩ := sl_bound sl
    cases x with
    | none =>
      refine ⟨B, fun i n e => ?_⟩
      cases i with
      | zero => simp at e
      | succ i => exact h i n (by simpa using e)
    | some r =>
      cases r with
      | d d =>
        refine ⟨B, fun i n e => ?_⟩
        cases i with
        | zero => simp at e
        | succ i => exact h i n (by simpa using e)
      | o k =>
        refine ⟨B + k + 1, fun i n e => ?_⟩
        cases i with
        | zero => simp at e; omega
        | succ i => have := h i n (by simpa using e); omega
      | l ns =>
        refine ⟨B, fun i n e => ?_⟩
        cases i with
        | zero => simp at e
        | succ i => exact h i n (by simpa using e)
theorem wk_self {base : Nat} {st : DS} : Wk base st st := by
  obtain ⟨B, h⟩ := sl_bound st.sl
  obtain ⟨C, h2⟩ := sl_boundL st.sl
  refine ⟨rfl, base + st.oh.length + B + C, by omega, by rw [List.take_of_length_le (by omega)], fun i r e => ⟨e, fun n en => ?_, fun ns en n hn => ?_⟩⟩
  · subst en
    have := h i n e
    omega
  · subst en
    have := h2 i ns e n hn
    omega
/-- behind a turn: the object list is cut back, slots are forgotten -/
theorem wk_cut {base : Nat} {sl sl2 : Sl} {oh : OH} (b : Nat) (hb : base ≤ b) (hl : sl2.length = sl.length) (h : ∀ (i : Nat) (r : Vl), sl2[i]? = some (some r) → sl[i]? = some (some r) ∧ (∀ n, r = .o n → n < b) ∧ ∀ ns, r = .l ns → ∀ n ∈ ns, n < b) : Wk base ⟨sl, oh⟩ ⟨sl2, oh.take b⟩ :=
  ⟨hl, b, hb, rfl, h⟩
/-! ints -/
theorem bin_add (i j : Int) : binD .Add (.int i) (.int j) = some (.sh (.int (i + j))) := rfl
theorem bin_sub (i j : Int) : binD .Sub (.int i) (.int j) = some (.sh (.int (i - j))) := rfl
theorem bin_mulR (i j : Int) (h : -(2 ^ 64) < j ∧ j < 2 ^ 64) : binD .Mult (.int i) (.int j) = some (.sh (.int (i * j))) := if_pos (.inr h)
theorem bin_mulL (i j : Int) (h : -(2 ^ 64) < i ∧ i < 2 ^ 64) : binD .Mult (.int i) (.int j) = some (.sh (.int (i * j))) := if_pos (.inl h)
theorem bin_mod (i j : Int) (h : 0 < j) : binD .Mod (.int i) (.int j) = some (.sh (.int (i.fmod j))) := if_pos (by omega)
theorem bin_div (i j : Int) (h : 0 < j ∧ j < 1073741824) : binD .FloorDiv (.int i) (.int j) = some (.sh (.int (i.fdiv j))) := if_pos (by omega)
theorem bin_pow (i j : Int) (h : 0 ≤ j ∧ j ≤ 1000000 ∧ i.natAbs < 2 ^ 64) : binD .Pow (.int i) (.int j) = some (.sh (.int (i ^ j.toNat))) := if_pos h
theorem fmod_nn (i : Int) {j : Int} (h : 0 < j) : 0 ≤ i.fmod j := Int.fmod_nonneg_of_pos i h
theorem fmod_lt (i : Int) {j : Int} (h : 0 < j) : i.fmod j < j := Int.fmod_lt_of_pos i h
theorem fdiv_nn {i j : Int} (hi : 0 ≤ i) (h : 0 < j) : 0 ≤ i.fdiv j := Int.fdiv_nonneg hi (by omega)
theorem set_i {ds : List D} {n : Nat} (h : n < ds.length) (d : D) : setD (.lst ds) (.int (n : Int)) d = some (.lst (ds.set n d)) := by
  simp only [setD, ixN]
  rw [if_pos (by omega), if_pos (by omega)]
  simp
theorem set_l0 (x d : D) (xs : List D) : setD (.lst (x :: xs)) (.int 0) d = some (.lst (d :: xs)) := set_i (n := 0) (by simp) d
theorem set_l1 (x y d : D) (xs : List D) : setD (.lst (x :: y :: xs)) (.int 1) d = some (.lst (x :: d :: xs)) := set_i (n := 1) (by simp) d
theorem set_l2 (x y z d : D) (xs : List D) : setD (.lst (x :: y :: z :: xs)) (.int 2) d = some (.lst (x :: y :: d :: xs)) := set_i (n := 2) (by simp) d
theorem live_lst (ds : List D) : (OO.lst ds).live = true := rfl
theorem max_int (i j : Int) : biD .max [.int i, .int j] = some (.sh (.int (if j > i then j else i))) := rfl
theorem min_int (i j : Int) : biD .min [.int i, .int j] = some (.sh (.int (if j < i then j else i))) := rfl
theorem take_set {oh : OH} {n : Nat} {ob : OO} : (oh.set n ob).take oh.length = oh.set n ob := List.take_of_length_le (by simp)
theorem take_snoc {oh : OH} {ob : OO} : (oh ++ [ob]).take oh.length = oh := by simp
/-! the law's state of three ints -/
def StOk (ob : OO) : Prop := ∃ a b c : Int, ob = .lst [.int a, .int b, .int c] ∧ 0 ≤ a ∧ 0 ≤ b ∧ b < 2147483648
/-- an object of the list's own -/
structure StAt (oh : OH) (n : Nat) : Prop where
  ex : ∃ ob, oh[n]? = some ob ∧ StOk ob
theorem StAt.lt {oh : OH} {n : Nat} (h : StAt oh n) : n < oh.length := let ⟨_, e, _⟩ := h.ex; lt_get e
theorem StAt.set {oh : OH} {n : Nat} (h : n < oh.length) {ob : OO} (hs : StOk ob) : StAt (oh.set n ob) n := ⟨ob, by simp [h], hs⟩
theorem get_set {oh : OH} {n : Nat} (h : n < oh.length) (ob : OO) : (oh.set n ob)[n]? = some ob := by simp [h]
theorem vdat_set {oh : OH} {n : Nat} (h : n < oh.length) (ob : OO) : vdat (oh.set n ob) (.o n) = some ob.dat := vdat_o (get_set h ob)
theorem norm_set {oh : OH} {n : Nat} (h : n < oh.length) {Q : QV} (ob : OO) {oh' : OH} : norm (oh.set n ob).length (.o n) oh' Q = Q (.o n) oh' := norm_o (by simpa using h)
theorem norm_newS {oh : OH} {n : Nat} {ob ob' : OO} {Q : QV} : norm oh.length (.o oh.length) (oh.set n ob ++ [ob']) Q = Q (.d ob'.dat) (oh.set n ob) := by
  have := @norm_new (oh.set n ob) Q ob'
  rwa [List.length_set] at this
theorem store_newS {oh : OH} {n : Nat} {ob ob' : OO} {R : D → OH → Prop} : store oh.length (.o oh.length) (oh.set n ob ++ [ob']) R = R ob'.dat (oh.set n ob) := by
  have := @store_new (oh.set n ob) ob' R
  rwa [List.length_set] at this
theorem retv_lst {oh : OH} {ds : List D} {Q : QV} : retv oh.length (.o oh.length) (oh ++ [.lst ds]) Q = Q (.o oh.length) (oh ++ [.lst ds]) := retv_new rfl
theorem retv_two {oh : OH} {ds : List D} {x : OO} {Q : QV} : retv oh.length (.o (oh ++ [x]).length) (oh ++ [x] ++ [.lst ds]) Q = Q (.o oh.length) (oh ++ [.lst ds]) := by
  simp [retv, OO.live]
  intro h
  omega
theorem get_last {oh : OH} {x : OO} : (oh ++ [x])[oh.length]? = some x := by simp
theorem set_last {oh : OH} {x y : OO} : (oh ++ [x]).set oh.length y = oh ++ [y] := by
  rw [List.set_append_right _ _ (Nat.le_refl _)]; simp
theorem norm_last {oh oh' : OH} {x : OO} {Q : QV} : norm (oh ++ [x]).length (.o oh.length) oh' Q = Q (.o oh.length) oh' := norm_o (by simp)
theorem vdat_last {oh : OH} {x : OO} : vdat (oh ++ [x]) (.o oh.length) = some x.dat := vdat_o get_last
end Kd

namespace Kd
def c_is_rising : CB := (.cons (.ret (.bi .all (.cons (.lc [("one", 1), ("other", 2)] (.cons (.nm 1) (.cons (.nm 2) .nil)) (.zip (.cons (.var 0) (.cons (.sli (.var 0) (.som (.cst (.int 1))) .non) .nil))) .yes (.cmp .Lt (.var 1) (.var 2))) .nil))) .nil)
def c_is_set : CB := (.cons (.ret (.and (.isi (.var 0) .str) (.cmp .Eq (.var 0) (.me .join (.cst (.str "")) (.cons (.lc [("column", 1)] (.nm 1) (.of (.glo "COLUMNS")) (.val (.cmp .In (.var 1) (.var 0))) (.var 1)) .nil))))) .nil)
def c_put_to : CB := (.cons (.ret (.me .join (.cst (.str "")) (.cons (.lc [("column", 2)] (.nm 2) (.of (.glo "COLUMNS")) (.or (.val (.cmp .In (.var 2) (.var 0))) (.val (.cmp .In (.var 2) (.var 1)))) (.var 2)) .nil))) .nil)
def c_out_of : CB := (.cons (.ret (.me .join (.cst (.str "")) (.cons (.lc [("column", 2)] (.nm 2) (.of (.var 0)) (.val (.cmp .NotIn (.var 2) (.var 1))) (.var 2)) .nil))) .nil)
def c_inside : CB := (.cons (.ret (.cmp .Eq (.call "out_of" (.cons (.var 0) (.cons (.var 1) .nil))) (.cst (.str "")))) .nil)
def c_sets_in_2 : CB := .cons (.ret (.bi .sorted (.cons (.var 1) .nil))) .nil
def c_sets_in_1 : CB := .cons (.for_ (.nm 2) (.of (.var 0)) (.cons (.exp (.mu .extend (.var 1) (.cons (.lc [("one", 3)] (.nm 3) (.of (.var 1)) .yes (.bin .Add (.var 3) (.var 2))) .nil))) .nil)) c_sets_in_2
def c_sets_in : CB := .cons (.asg true 1 (.lst (.cons (.cst (.str "")) .nil))) c_sets_in_1
def c_is_head : CB := (.cons (.ret (.and (.call "is_set" (.cons (.var 0) .nil)) (.cmp .NotEq (.var 0) (.cst (.str ""))))) .nil)
def c_hangs_1 : CB := .cons (.ret (.bi .all (.cons (.lc [("some", 2)] (.nm 2) (.of (.var 1)) .yes (.and (.call "is_set" (.cons (.var 2) .nil)) (.call "inside" (.cons (.var 2) (.cons (.var 0) .nil))))) .nil))) .nil
def c_hangs : CB := .cons (.ife (.or (.not (.val (.isi (.var 1) .tuple))) (.val (.cmp .NotEq (.bi .len (.cons (.var 1) .nil)) (.cst (.int 2))))) (.cons (.ret (.cst (.bool false))) .nil) .nil) c_hangs_1
def c_is_book_3 : CB := .cons (.ret (.and (.bi .all (.cons (.lc [("one", 3)] (.nm 3) (.of (.var 2)) .yes (.call "hangs" (.cons (.var 1) (.cons (.var 3) .nil)))) .nil)) (.call "is_rising" (.cons (.var 2) .nil)))) .nil
def c_is_book_2 : CB := .cons (.ife (.or (.not (.val (.isi (.var 2) .tuple))) (.val (.cmp .Gt (.bi .len (.cons (.var 2) .nil)) (.glo "MOST_HANGINGS")))) (.cons (.ret (.cst (.bool false))) .nil) .nil) c_is_book_3
def c_is_book_1 : CB := .cons (.unp (.cons (.nm 1) (.cons (.nm 2) .nil)) (.var 0)) c_is_book_2
def c_is_book : CB := .cons (.ife (.or (.not (.val (.isi (.var 0) .tuple))) (.or (.val (.cmp .NotEq (.bi .len (.cons (.var 0) .nil)) (.cst (.int 2)))) (.not (.val (.call "is_head" (.cons (.idx (.var 0) (.cst (.int 0))) .nil)))))) (.cons (.ret (.cst (.bool false))) .nil) .nil) c_is_book_1
def c_need_book : CB := .cons (.ife (.not (.val (.call "is_book" (.cons (.var 0) .nil)))) (.cons .nev .nil) .nil) .nil
def c_need_inner : CB := .cons (.ife (.or (.not (.val (.call "is_set" (.cons (.var 1) .nil)))) (.not (.val (.call "inside" (.cons (.var 1) (.cons (.var 0) .nil)))))) (.cons .nev .nil) .nil) .nil
def c_grown_2 : CB := .cons (.ret (.var 2)) .nil
def c_grown_5 : CB := .cons (.ife (.and (.val (.call "inside" (.cons (.var 4) (.cons (.var 2) .nil)))) (.not (.val (.call "inside" (.cons (.var 5) (.cons (.var 2) .nil)))))) (.cons (.par [2, 3] (.cons (.call "put_to" (.cons (.var 2) (.cons (.var 5) .nil))) (.cons (.cst (.bool true)) .nil))) .nil) .nil) .nil
def c_grown_4 : CB := .cons (.for_ (.cons (.nm 4) (.cons (.nm 5) .nil)) (.of (.var 0)) c_grown_5) .nil
def c_grown_3 : CB := .cons (.asg false 3 (.cst (.bool false))) c_grown_4
def c_grown_1 : CB := .cons (.whl (.val (.var 3)) c_grown_3) c_grown_2
def c_grown : CB := .cons (.par [2, 3] (.cons (.var 1) (.cons (.cst (.bool true)) .nil))) c_grown_1
def c_cover_2 : CB := .cons (.ret (.call "grown" (.cons (.idx (.var 0) (.cst (.int 1))) (.cons (.var 1) .nil)))) .nil
def c_cover_1 : CB := .cons (.exp (.call "need_inner" (.cons (.idx (.var 0) (.cst (.int 0))) (.cons (.var 1) .nil)))) c_cover_2
def c_cover : CB := .cons (.exp (.call "need_book" (.cons (.var 0) .nil))) c_cover_1
def c_shut_sets_1 : CB := .cons (.ret (.lc [("some", 1)] (.nm 1) (.of (.call "sets_in" (.cons (.idx (.var 0) (.cst (.int 0))) .nil))) (.val (.cmp .Eq (.call "grown" (.cons (.idx (.var 0) (.cst (.int 1))) (.cons (.var 1) .nil))) (.var 1))) (.var 1))) .nil
def c_shut_sets : CB := .cons (.exp (.call "need_book" (.cons (.var 0) .nil))) c_shut_sets_1
def c__law_cell_at_1 : CB := .cons (.ret (.cst (.int 0))) .nil
def c__law_cell_at : CB := .cons (.ife (.val (.cmp .Lt (.var 1) (.bi .len (.cons (.var 0) .nil)))) (.cons (.ret (.idx (.var 0) (.var 1))) .nil) .nil) c__law_cell_at_1
def c__law_state_1 : CB := .cons (.ret (.lst (.cons (.bi .max (.cons (.cst (.int 0)) (.cons (.bin .Sub (.var 2) (.bin .Pow (.cst (.int 10)) (.cst (.int 18)))) .nil))) (.cons (.bin .Add (.bin .Mod (.var 2) (.cst (.int 2147483629))) (.cst (.int 1))) (.cons (.cst (.int 0)) .nil))))) .nil
def c__law_state : CB := .cons (.asg false 2 (.call "_law_cell_at" (.cons (.var 0) (.cons (.var 1) .nil)))) c__law_state_1
def c__law_choice_5 : CB := .cons (.ret (.bin .Mod (.bin .FloorDiv (.var 2) (.cst (.int 8))) (.var 1))) .nil
def c__law_choice_4 : CB := .cons (.asg false 2 (.bin .Mod (.bin .Add (.bin .Mult (.var 2) (.var 2)) (.bin .Mult (.cst (.int 50021)) (.var 2))) (.cst (.int 2147483587)))) c__law_choice_5
def c__law_choice_3 : CB := .cons (.asg false 2 (.bin .Mod (.bin .Add (.bin .Add (.bin .Mult (.idx (.var 0) (.cst (.int 1))) (.idx (.var 0) (.cst (.int 1)))) (.bin .Mult (.cst (.int 39373)) (.idx (.var 0) (.cst (.int 1))))) (.cst (.int 7))) (.cst (.int 2147483629)))) c__law_choice_4
def c__law_choice_2 : CB := .cons (.sset (.var 0) (.cst (.int 1)) (.bin .Mod (.bin .Add (.bin .Add (.bin .Mult (.idx (.var 0) (.cst (.int 1))) (.cst (.int 48271))) (.cst (.int 29))) (.idx (.var 0) (.cst (.int 2)))) (.cst (.int 2147483647)))) c__law_choice_3
def c__law_choice_1 : CB := .cons (.sset (.var 0) (.cst (.int 2)) (.bin .Add (.idx (.var 0) (.cst (.int 2))) (.cst (.int 1)))) c__law_choice_2
def c__law_choice_8 : CB := .cons (.ret (.var 3)) .nil
def c__law_choice_7 : CB := .cons (.sset (.var 0) (.cst (.int 0)) (.bin .FloorDiv (.idx (.var 0) (.cst (.int 0))) (.var 1))) c__law_choice_8
def c__law_choice_6 : CB := .cons (.asg false 3 (.bin .Mod (.idx (.var 0) (.cst (.int 0))) (.var 1))) c__law_choice_7
def c__law_choice : CB := .cons (.ife (.val (.cmp .Gt (.idx (.var 0) (.cst (.int 0))) (.cst (.int 0)))) c__law_choice_6 .nil) c__law_choice_1
def c__law_same : CB := (.cons (.ret (.cmp .Eq (.bi .repr (.cons (.var 0) .nil)) (.bi .repr (.cons (.var 1) .nil)))) .nil)
def c__law_bits_2 : CB := .cons (.ret (.var 2)) .nil
def c__law_bits_4 : CB := .cons (.asg false 1 (.bin .FloorDiv (.var 1) (.cst (.int 2)))) .nil
def c__law_bits_3 : CB := .cons (.ife (.val (.cmp .Eq (.bin .Mod (.var 1) (.cst (.int 2))) (.cst (.int 1)))) (.cons (.asg false 2 (.bin .Add (.var 2) (.var 3))) .nil) .nil) c__law_bits_4
def c__law_bits_1 : CB := .cons (.for_ (.nm 3) (.of (.var 0)) c__law_bits_3) c__law_bits_2
def c__law_bits : CB := .cons (.asg false 2 (.cst (.str ""))) c__law_bits_1
def c__law_head_2 : CB := .cons (.ret (.call "_law_bits" (.cons (.cst (.str "abcdefgh")) (.cons (.bin .Add (.cst (.int 1)) (.call "_law_choice" (.cons (.var 0) (.cons (.cst (.int 255)) .nil)))) .nil)))) .nil
def c__law_head_1 : CB := .cons (.ife (.val (.cmp .Eq (.var 1) (.cst (.int 0)))) (.cons (.ret (.cst (.str "abcdefgh"))) .nil) .nil) c__law_head_2
def c__law_head : CB := .cons (.asg false 1 (.call "_law_choice" (.cons (.var 0) (.cons (.cst (.int 4)) .nil)))) c__law_head_1
def c__law_pick_2 : CB := .cons (.ret (.me .join (.cst (.str "")) (.cons (.lc [("_law_column", 4)] (.nm 4) (.of (.var 1)) (.val (.cmp .In (.var 4) (.var 2))) (.var 4)) .nil))) .nil
def c__law_pick_1 : CB := .cons (.asg false 2 (.lc [("_law_turn", 3)] (.nm 3) (.rng (.cons (.call "_law_choice" (.cons (.var 0) (.cons (.cst (.int 3)) .nil))) .nil)) .yes (.idx (.var 1) (.call "_law_choice" (.cons (.var 0) (.cons (.bi .len (.cons (.var 1) .nil)) .nil)))))) c__law_pick_2
def c__law_pick : CB := .cons (.ife (.val (.cmp .Eq (.call "_law_choice" (.cons (.var 0) (.cons (.cst (.int 3)) .nil))) (.cst (.int 0)))) (.cons (.ret (.call "_law_bits" (.cons (.var 1) (.cons (.call "_law_choice" (.cons (.var 0) (.cons (.cst (.int 256)) .nil))) .nil)))) .nil) .nil) c__law_pick_1
def c__law_hangings_2 : CB := .cons (.ret (.bi .tuple (.cons (.bi .sorted (.cons (.var 3) .nil)) .nil))) .nil
def c__law_hangings_1 : CB := .cons (.for_ (.nm 4) (.rng (.cons (.var 2) .nil)) (.cons (.sset (.var 3) (.tup (.cons (.call "_law_pick" (.cons (.var 0) (.cons (.var 1) .nil))) (.cons (.call "_law_pick" (.cons (.var 0) (.cons (.var 1) .nil))) .nil))) (.cst (.bool true))) .nil)) c__law_hangings_2
def c__law_hangings : CB := .cons (.asg true 3 .dnT) c__law_hangings_1
def c__law_book_2 : CB := .cons (.ret (.tup (.cons (.var 1) (.cons (.call "_law_hangings" (.cons (.var 0) (.cons (.var 1) (.cons (.call "_law_choice" (.cons (.var 0) (.cons (.bin .Add (.var 2) (.cst (.int 1))) .nil))) .nil)))) .nil)))) .nil
def c__law_book_1 : CB := .cons (.asg false 2 (.idx (.lst (.cons (.cst (.int 12)) (.cons (.cst (.int 4)) (.cons (.cst (.int 2)) (.cons (.cst (.int 7)) (.cons (.cst (.int 5)) (.cons (.cst (.int 3)) .nil))))))) (.call "_law_choice" (.cons (.var 0) (.cons (.cst (.int 6)) .nil))))) c__law_book_2
def c__law_book : CB := .cons (.asg false 1 (.call "_law_head" (.cons (.var 0) .nil))) c__law_book_1
def c__law_lies : CB := (.cons (.ret (.cmp .Eq (.lc [("_law_column", 2)] (.nm 2) (.of (.var 0)) (.val (.cmp .NotIn (.var 2) (.var 1))) (.var 2)) (.lst .nil))) .nil)
def c__law_cover_2 : CB := .cons (.ret (.me .join (.cst (.str "")) (.cons (.bi .sorted (.cons (.var 2) .nil)) .nil))) .nil
def c__law_cover_5 : CB := .cons (.ife (.val (.call "_law_lies" (.cons (.var 4) (.cons (.var 2) .nil)))) (.cons (.asg false 2 (.bin .Add (.var 2) (.me .join (.cst (.str "")) (.cons (.lc [("_law_column", 6)] (.nm 6) (.of (.var 5)) (.val (.cmp .NotIn (.var 6) (.var 2))) (.var 6)) .nil)))) .nil) .nil) .nil
def c__law_cover_4 : CB := .cons (.for_ (.cons (.nm 4) (.cons (.nm 5) .nil)) (.of (.var 0)) c__law_cover_5) .nil
def c__law_cover_3 : CB := .cons (.asg false 3 (.var 2)) c__law_cover_4
def c__law_cover_1 : CB := .cons (.whl (.val (.cmp .NotEq (.var 2) (.var 3))) c__law_cover_3) c__law_cover_2
def c__law_cover : CB := .cons (.unp (.cons (.nm 2) (.cons (.nm 3) .nil)) (.tup (.cons (.var 1) (.cons (.cst .none) .nil)))) c__law_cover_1
def c__law_sets_2 : CB := .cons (.ret (.bi .sorted (.cons (.var 1) .nil))) .nil
def c__law_sets_1 : CB := .cons (.for_ (.nm 2) (.of (.var 0)) (.cons (.asg false 1 (.bin .Add (.var 1) (.lc [("_law_some", 3)] (.nm 3) (.of (.var 1)) .yes (.bin .Add (.var 3) (.var 2))))) .nil)) c__law_sets_2
def c__law_sets : CB := .cons (.asg false 1 (.lst (.cons (.cst (.str "")) .nil))) c__law_sets_1
def c__law_common_2 : CB := .cons (.ret (.var 2)) .nil
def c__law_common_5 : CB := .cons (.asg false 2 (.me .join (.cst (.str "")) (.cons (.lc [("_law_column", 4)] (.nm 4) (.of (.var 2)) (.val (.cmp .In (.var 4) (.var 3))) (.var 4)) .nil))) .nil
def c__law_common_4 : CB := .cons (.ife (.val (.cmp .Is (.var 2) (.cst .none))) (.cons (.asg false 2 (.var 3)) .nil) .nil) c__law_common_5
def c__law_common_3 : CB := .cons (.ife (.val (.call "_law_lies" (.cons (.var 1) (.cons (.var 3) .nil)))) c__law_common_4 .nil) .nil
def c__law_common_1 : CB := .cons (.for_ (.nm 3) (.of (.var 0)) c__law_common_3) c__law_common_2
def c__law_common : CB := .cons (.asg false 2 (.cst .none)) c__law_common_1
def c_met : CB := (.cons (.ret (.me .join (.cst (.str "")) (.cons (.lc [("column", 2)] (.nm 2) (.of (.var 0)) (.val (.cmp .In (.var 2) (.var 1))) (.var 2)) .nil))) .nil)
def c_need_part_1 : CB := .cons (.ife (.val (.cmp .Eq (.var 1) (.cst (.str "")))) (.cons .nev .nil) .nil) .nil
def c_need_part : CB := .cons (.exp (.call "need_inner" (.cons (.var 0) (.cons (.var 1) .nil)))) c_need_part_1
def c_own_covers : CB := (.cons (.ret (.bi .dict (.cons (.lc [("some", 2)] (.nm 2) (.of (.call "sets_in" (.cons (.var 1) .nil))) .yes (.tup (.cons (.var 2) (.cons (.call "met" (.cons (.call "grown" (.cons (.idx (.var 0) (.cst (.int 1))) (.cons (.var 2) .nil))) (.cons (.var 1) .nil))) .nil)))) .nil))) .nil)
def c_rough_2 : CB := .cons (.ret (.cst .none)) .nil
def c_rough_3 : CB := .cons (.ife (.and (.val (.cmp .NotEq (.idx (.var 2) (.var 3)) (.var 3))) (.val (.cmp .NotEq (.idx (.var 2) (.var 3)) (.var 1)))) (.cons (.ret (.var 3)) .nil) .nil) .nil
def c_rough_1 : CB := .cons (.for_ (.nm 3) (.of (.var 2)) c_rough_3) c_rough_2
def c_rough : CB := .cons (.asg false 2 (.call "own_covers" (.cons (.var 0) (.cons (.var 1) .nil)))) c_rough_1
def c_first_rough_2 : CB := .cons (.ret (.call "rough" (.cons (.var 0) (.cons (.var 1) .nil)))) .nil
def c_first_rough_1 : CB := .cons (.exp (.call "need_part" (.cons (.idx (.var 0) (.cst (.int 0))) (.cons (.var 1) .nil)))) c_first_rough_2
def c_first_rough : CB := .cons (.exp (.call "need_book" (.cons (.var 0) .nil))) c_first_rough_1
def c_key_columns_by_3 : CB := .cons (.ret (.var 3)) .nil
def c_key_columns_by_4 : CB := .cons (.ife (.not (.val (.bi .any (.cons (.lc [("column", 5)] (.nm 5) (.of (.var 4)) .yes (.cmp .In (.call "out_of" (.cons (.var 4) (.cons (.var 5) .nil))) (.var 2))) .nil)))) (.cons (.asg false 3 (.call "put_to" (.cons (.var 3) (.cons (.var 4) .nil)))) .nil) .nil) .nil
def c_key_columns_by_2 : CB := .cons (.for_ (.nm 4) (.of (.var 2)) c_key_columns_by_4) c_key_columns_by_3
def c_key_columns_by_1 : CB := .cons (.asg false 3 (.cst (.str ""))) c_key_columns_by_2
def c_key_columns_by : CB := .cons (.asg false 2 (.lc [("some", 4)] (.nm 4) (.of (.var 0)) (.val (.cmp .Eq (.idx (.var 0) (.var 4)) (.var 1))) (.var 4))) c_key_columns_by_1
def c_is_fair_5 : CB := .cons (.ret (.cst (.bool true))) .nil
def c_is_fair_6 : CB := .cons (.ife (.and (.val (.cmp .NotEq (.idx (.var 2) (.var 4)) (.var 1))) (.not (.val (.call "inside" (.cons (.call "out_of" (.cons (.idx (.var 2) (.var 4)) (.cons (.var 4) .nil))) (.cons (.var 3) .nil)))))) (.cons (.ret (.cst (.bool false))) .nil) .nil) .nil
def c_is_fair_4 : CB := .cons (.for_ (.nm 4) (.of (.var 2)) c_is_fair_6) c_is_fair_5
def c_is_fair_3 : CB := .cons (.asg false 3 (.call "key_columns_by" (.cons (.var 2) (.cons (.var 1) .nil)))) c_is_fair_4
def c_is_fair_2 : CB := .cons (.asg false 2 (.call "own_covers" (.cons (.var 0) (.cons (.var 1) .nil)))) c_is_fair_3
def c_is_fair_1 : CB := .cons (.exp (.call "need_part" (.cons (.idx (.var 0) (.cst (.int 0))) (.cons (.var 1) .nil)))) c_is_fair_2
def c_is_fair : CB := .cons (.exp (.call "need_book" (.cons (.var 0) .nil))) c_is_fair_1
def c__law_small_book_2 : CB := .cons (.ret (.tup (.cons (.var 2) (.cons (.call "_law_hangings" (.cons (.var 0) (.cons (.var 2) (.cons (.idx (.lst (.cons (.cst (.int 12)) (.cons (.cst (.int 3)) (.cons (.cst (.int 6)) (.cons (.cst (.int 4)) .nil))))) (.call "_law_choice" (.cons (.var 0) (.cons (.cst (.int 4)) .nil)))) .nil)))) .nil)))) .nil
def c__law_small_book_1 : CB := .cons (.asg false 2 (.ite (.val (.cmp .Gt (.bi .len (.cons (.var 2) .nil)) (.cst (.int 1)))) (.sli (.sli (.var 2) (.som (.call "_law_choice" (.cons (.var 0) (.cons (.cst (.int 2)) .nil)))) .non) .non (.som (.var 1))) (.var 2))) c__law_small_book_2
def c__law_small_book : CB := .cons (.asg false 2 (.call "_law_head" (.cons (.var 0) .nil))) c__law_small_book_1
def c__law_own_1 : CB := .cons (.ret (.lc [("_law_some", 3), ("_law_reach", 4)] (.cons (.nm 3) (.cons (.nm 4) .nil)) (.of (.var 2)) .yes (.tup (.cons (.var 3) (.cons (.me .join (.cst (.str "")) (.cons (.lc [("_law_column", 5)] (.nm 5) (.of (.var 4)) (.val (.cmp .In (.var 5) (.var 1))) (.var 5)) .nil)) .nil))))) .nil
def c__law_own : CB := .cons (.asg false 2 (.lc [("_law_some", 3)] (.nm 3) (.of (.call "_law_sets" (.cons (.var 1) .nil))) .yes (.tup (.cons (.var 3) (.cons (.call "_law_cover" (.cons (.var 0) (.cons (.var 3) .nil))) .nil))))) c__law_own_1
def c__law_rough_1 : CB := .cons (.ret (.cst .none)) .nil
def c__law_rough_2 : CB := .cons (.ife (.and (.val (.cmp .NotEq (.var 3) (.var 2))) (.val (.cmp .NotEq (.var 3) (.var 1)))) (.cons (.ret (.var 2)) .nil) .nil) .nil
def c__law_rough : CB := .cons (.for_ (.cons (.nm 2) (.cons (.nm 3) .nil)) (.of (.var 0)) c__law_rough_2) c__law_rough_1
def c__law_is_fair_3 : CB := .cons (.ret (.cst (.bool true))) .nil
def c__law_is_fair_4 : CB := .cons (.ife (.and (.val (.cmp .NotEq (.var 5) (.var 1))) (.not (.val (.call "_law_lies" (.cons (.var 5) (.cons (.bin .Add (.var 2) (.var 4)) .nil)))))) (.cons (.ret (.cst (.bool false))) .nil) .nil) .nil
def c__law_is_fair_2 : CB := .cons (.for_ (.cons (.nm 2) (.cons (.nm 5) .nil)) (.of (.var 0)) c__law_is_fair_4) c__law_is_fair_3
def c__law_is_fair_5 : CB := .cons (.ife (.val (.cmp .Eq (.lc [("_law_one", 6)] (.nm 6) (.of (.var 3)) (.and (.val (.cmp .NotEq (.var 6) (.var 2))) (.val (.call "_law_lies" (.cons (.var 6) (.cons (.var 2) .nil))))) (.var 6)) (.lst .nil))) (.cons (.asg false 4 (.bin .Add (.var 4) (.var 2))) .nil) .nil) .nil
def c__law_is_fair_1 : CB := .cons (.for_ (.nm 2) (.of (.var 3)) c__law_is_fair_5) c__law_is_fair_2
def c__law_is_fair : CB := .cons (.par [3, 4] (.cons (.lc [("_law_some", 2), ("_law_own_here", 5)] (.cons (.nm 2) (.cons (.nm 5) .nil)) (.of (.var 0)) (.val (.cmp .Eq (.var 5) (.var 1))) (.var 2)) (.cons (.cst (.str "")) .nil))) c__law_is_fair_1
def c_need_hanging : CB := .cons (.ife (.not (.val (.call "hangs" (.cons (.var 0) (.cons (.var 1) .nil))))) (.cons .nev .nil) .nil) .nil
def c_follows_2 : CB := .cons (.ret (.call "inside" (.cons (.idx (.var 1) (.cst (.int 1))) (.cons (.call "grown" (.cons (.idx (.var 0) (.cst (.int 1))) (.cons (.idx (.var 1) (.cst (.int 0))) .nil))) .nil)))) .nil
def c_follows_1 : CB := .cons (.exp (.call "need_hanging" (.cons (.idx (.var 0) (.cst (.int 0))) (.cons (.var 1) .nil)))) c_follows_2
def c_follows : CB := .cons (.exp (.call "need_book" (.cons (.var 0) .nil))) c_follows_1
def c_covers_of : CB := (.cons (.ret (.bi .dict (.cons (.lc [("some", 1)] (.nm 1) (.of (.call "sets_in" (.cons (.idx (.var 0) (.cst (.int 0))) .nil))) .yes (.tup (.cons (.var 1) (.cons (.call "grown" (.cons (.idx (.var 0) (.cst (.int 1))) (.cons (.var 1) .nil))) .nil)))) .nil))) .nil)
def c_is_least_1 : CB := .cons (.ret (.not (.bi .any (.cons (.lc [("one", 3)] (.nm 3) (.of (.var 1)) .yes (.cmp .In (.var 2) (.idx (.var 0) (.call "out_of" (.cons (.var 1) (.cons (.var 3) .nil)))))) .nil)))) .nil
def c_is_least : CB := .cons (.ife (.or (.val (.cmp .In (.var 2) (.var 1))) (.val (.cmp .NotIn (.var 2) (.idx (.var 0) (.var 1))))) (.cons (.ret (.cst (.bool false))) .nil) .nil) c_is_least_1
def c_direct_4 : CB := .cons (.ret (.var 2)) .nil
def c_direct_3 : CB := .cons (.for_ (.nm 3) (.of (.var 1)) (.cons (.exp (.mu .extend (.var 2) (.cons (.lc [("column", 4)] (.nm 4) (.of (.idx (.var 0) (.cst (.int 0)))) (.val (.call "is_least" (.cons (.var 1) (.cons (.var 3) (.cons (.var 4) .nil))))) (.tup (.cons (.var 3) (.cons (.var 4) .nil)))) .nil))) .nil)) c_direct_4
def c_direct_2 : CB := .cons (.asg true 2 (.lst .nil)) c_direct_3
def c_direct_1 : CB := .cons (.asg false 1 (.call "covers_of" (.cons (.var 0) .nil))) c_direct_2
def c_direct : CB := .cons (.exp (.call "need_book" (.cons (.var 0) .nil))) c_direct_1
def c_is_spare : CB := (.cons (.ret (.call "inside" (.cons (.idx (.var 1) (.cst (.int 1))) (.cons (.call "grown" (.cons (.lc [("one", 2)] (.nm 2) (.of (.var 0)) (.val (.cmp .NotEq (.var 2) (.var 1))) (.var 2)) (.cons (.idx (.var 1) (.cst (.int 0))) .nil))) .nil)))) .nil)
def c_idle_1 : CB := .cons (.ret (.lc [("k", 1)] (.nm 1) (.rng (.cons (.bi .len (.cons (.idx (.var 0) (.cst (.int 1))) .nil)) .nil)) (.val (.call "is_spare" (.cons (.idx (.var 0) (.cst (.int 1))) (.cons (.idx (.idx (.var 0) (.cst (.int 1))) (.var 1)) .nil)))) (.var 1))) .nil
def c_idle : CB := .cons (.exp (.call "need_book" (.cons (.var 0) .nil))) c_idle_1
def c_slimmed_3 : CB := .cons (.ret (.tup (.cons (.idx (.var 0) (.cst (.int 0))) (.cons (.bi .tuple (.cons (.var 1) .nil)) .nil)))) .nil
def c_slimmed_4 : CB := .cons (.ife (.val (.call "is_spare" (.cons (.var 1) (.cons (.var 2) .nil)))) (.cons (.exp (.mu .remove (.var 1) (.cons (.var 2) .nil))) .nil) .nil) .nil
def c_slimmed_2 : CB := .cons (.for_ (.nm 2) (.rev (.idx (.var 0) (.cst (.int 1)))) c_slimmed_4) c_slimmed_3
def c_slimmed_1 : CB := .cons (.asg true 1 (.bi .list (.cons (.idx (.var 0) (.cst (.int 1))) .nil))) c_slimmed_2
def c_slimmed : CB := .cons (.exp (.call "need_book" (.cons (.var 0) .nil))) c_slimmed_1
def c_alike_4 : CB := .cons (.ret (.cst (.bool true))) .nil
def c_alike_5 : CB := .cons (.ife (.not (.val (.bi .all (.cons (.lc [("left", 4), ("right", 5)] (.cons (.nm 4) (.cons (.nm 5) .nil)) (.of (.idx (.var 2) (.cst (.int 1)))) .yes (.call "inside" (.cons (.var 5) (.cons (.call "grown" (.cons (.idx (.var 3) (.cst (.int 1))) (.cons (.var 4) .nil))) .nil)))) .nil)))) (.cons (.ret (.cst (.bool false))) .nil) .nil) .nil
def c_alike_3 : CB := .cons (.for_ (.cons (.nm 2) (.cons (.nm 3) .nil)) (.of (.tup (.cons (.tup (.cons (.var 0) (.cons (.var 1) .nil))) (.cons (.tup (.cons (.var 1) (.cons (.var 0) .nil))) .nil)))) c_alike_5) c_alike_4
def c_alike_2 : CB := .cons (.ife (.val (.cmp .NotEq (.idx (.var 0) (.cst (.int 0))) (.idx (.var 1) (.cst (.int 0))))) (.cons (.ret (.cst (.bool false))) .nil) .nil) c_alike_3
def c_alike_1 : CB := .cons (.exp (.call "need_book" (.cons (.var 1) .nil))) c_alike_2
def c_alike : CB := .cons (.exp (.call "need_book" (.cons (.var 0) .nil))) c_alike_1
def c_stems_by_2 : CB := .cons (.ret (.bi .sorted (.cons (.var 1) .nil))) .nil
def c_stems_by_4 : CB := .cons (.ife (.and (.val (.cmp .NotEq (.idx (.var 0) (.var 2)) (.var 2))) (.val (.bi .all (.cons (.lc [("one", 4)] (.nm 4) (.of (.var 3)) .yes (.call "inside" (.cons (.idx (.var 4) (.cst (.int 1))) (.cons (.var 2) .nil)))) .nil)))) (.cons (.exp (.mu .append (.var 1) (.cons (.tup (.cons (.var 2) (.cons (.idx (.var 0) (.var 2)) .nil))) .nil))) .nil) .nil) .nil
def c_stems_by_3 : CB := .cons (.asg false 3 (.lc [("one", 4)] (.nm 4) (.of (.var 1)) (.val (.call "inside" (.cons (.idx (.var 4) (.cst (.int 0))) (.cons (.var 2) .nil)))) (.var 4))) c_stems_by_4
def c_stems_by_1 : CB := .cons (.for_ (.nm 2) (.of (.srtK false (.var 0))) c_stems_by_3) c_stems_by_2
def c_stems_by : CB := .cons (.asg true 1 (.lst .nil)) c_stems_by_1
def c_stem_book_1 : CB := .cons (.ret (.tup (.cons (.idx (.var 0) (.cst (.int 0))) (.cons (.bi .tuple (.cons (.call "stems_by" (.cons (.call "covers_of" (.cons (.var 0) .nil)) .nil)) .nil)) .nil)))) .nil
def c_stem_book : CB := .cons (.exp (.call "need_book" (.cons (.var 0) .nil))) c_stem_book_1
def c_narrowed_2 : CB := .cons (.ret (.call "stems_by" (.cons (.bi .dict (.cons (.lc [("one", 2)] (.nm 2) (.of (.call "sets_in" (.cons (.var 1) .nil))) .yes (.tup (.cons (.var 2) (.cons (.call "met" (.cons (.call "grown" (.cons (.idx (.var 0) (.cst (.int 1))) (.cons (.var 2) .nil))) (.cons (.var 1) .nil))) .nil)))) .nil)) .nil))) .nil
def c_narrowed_1 : CB := .cons (.exp (.call "need_part" (.cons (.idx (.var 0) (.cst (.int 0))) (.cons (.var 1) .nil)))) c_narrowed_2
def c_narrowed : CB := .cons (.exp (.call "need_book" (.cons (.var 0) .nil))) c_narrowed_1
def c_first_unlike_5 : CB := .cons (.ret (.cst .none)) .nil
def c_first_unlike_7 : CB := .cons (.ife (.val (.cmp .NotEq (.var 5) (.cst (.str "")))) (.cons (.ret (.tup (.cons (.var 2) (.cons (.bi .min (.cons (.var 5) .nil)) .nil)))) .nil) .nil) .nil
def c_first_unlike_6 : CB := .cons (.asg false 5 (.bin .Add (.call "out_of" (.cons (.idx (.var 3) (.var 2)) (.cons (.idx (.var 4) (.var 2)) .nil))) (.call "out_of" (.cons (.idx (.var 4) (.var 2)) (.cons (.idx (.var 3) (.var 2)) .nil))))) c_first_unlike_7
def c_first_unlike_4 : CB := .cons (.for_ (.nm 2) (.of (.var 3)) c_first_unlike_6) c_first_unlike_5
def c_first_unlike_3 : CB := .cons (.par [3, 4] (.cons (.call "covers_of" (.cons (.var 0) .nil)) (.cons (.call "covers_of" (.cons (.var 1) .nil)) .nil))) c_first_unlike_4
def c_first_unlike_2 : CB := .cons (.ife (.val (.cmp .NotEq (.idx (.var 0) (.cst (.int 0))) (.idx (.var 1) (.cst (.int 0))))) (.cons .nev .nil) .nil) c_first_unlike_3
def c_first_unlike_1 : CB := .cons (.exp (.call "need_book" (.cons (.var 1) .nil))) c_first_unlike_2
def c_first_unlike : CB := .cons (.exp (.call "need_book" (.cons (.var 0) .nil))) c_first_unlike_1
def c__law_due_k08 : CB := (.cons (.ret (.cmp .Eq (.lc [("_law_some", 2)] (.nm 2) (.of (.var 0)) (.and (.val (.call "_law_lies" (.cons (.idx (.var 1) (.cst (.int 0))) (.cons (.var 2) .nil)))) (.not (.val (.call "_law_lies" (.cons (.idx (.var 1) (.cst (.int 1))) (.cons (.var 2) .nil)))))) (.var 2)) (.lst .nil))) .nil)
def c_is_whole : CB := (.cons (.ret (.and (.isi (.var 0) .int) (.not (.isi (.var 0) .bool)))) .nil)
def c_is_between : CB := (.cons (.ret (.and (.call "is_whole" (.cons (.var 0) .nil)) (.chn .LtE .LtE (.var 1) (.var 0) (.var 2)))) .nil)
def c_is_given : CB := (.cons (.ret (.and (.call "is_between" (.cons (.idx (.var 2) (.cst (.int 1))) (.cons (.cst (.int 0)) (.cons (.bin .Sub (.bi .len (.cons (.idx (.var 0) (.cst (.int 1))) .nil)) (.cst (.int 1))) .nil)))) (.cmp .Eq (.idx (.idx (.var 0) (.cst (.int 1))) (.idx (.var 2) (.cst (.int 1)))) (.var 1)))) .nil)
def c_is_more_2 : CB := .cons (.ret (.cmp .Eq (.idx (.idx (.var 1) (.var 2)) (.cst (.int 0))) (.tup (.cons (.call "put_to" (.cons (.var 4) (.cons (.idx (.var 3) (.cst (.int 2))) .nil))) (.cons (.call "put_to" (.cons (.var 5) (.cons (.idx (.var 3) (.cst (.int 2))) .nil))) .nil))))) .nil
def c_is_more_1 : CB := .cons (.unp (.cons (.nm 4) (.cons (.nm 5) .nil)) (.idx (.idx (.var 1) (.idx (.var 3) (.cst (.int 1)))) (.cst (.int 0)))) c_is_more_2
def c_is_more : CB := .cons (.ife (.or (.not (.val (.call "is_between" (.cons (.idx (.var 3) (.cst (.int 1))) (.cons (.cst (.int 0)) (.cons (.bin .Sub (.var 2) (.cst (.int 1))) .nil)))))) (.or (.not (.val (.call "is_set" (.cons (.idx (.var 3) (.cst (.int 2))) .nil)))) (.not (.val (.call "inside" (.cons (.idx (.var 3) (.cst (.int 2))) (.cons (.idx (.var 0) (.cst (.int 0))) .nil))))))) (.cons (.ret (.cst (.bool false))) .nil) .nil) c_is_more_1
def c_is_on_2 : CB := .cons (.ret (.and (.cmp .Eq (.idx (.var 3) (.cst (.int 1))) (.idx (.var 4) (.cst (.int 0)))) (.cmp .Eq (.idx (.idx (.var 0) (.var 1)) (.cst (.int 0))) (.tup (.cons (.idx (.var 3) (.cst (.int 0))) (.cons (.idx (.var 4) (.cst (.int 1))) .nil)))))) .nil
def c_is_on_1 : CB := .cons (.par [3, 4] (.cons (.idx (.idx (.var 0) (.idx (.var 2) (.cst (.int 1)))) (.cst (.int 0))) (.cons (.idx (.idx (.var 0) (.idx (.var 2) (.cst (.int 2)))) (.cst (.int 0))) .nil))) c_is_on_2
def c_is_on : CB := .cons (.ife (.or (.not (.val (.call "is_between" (.cons (.idx (.var 2) (.cst (.int 1))) (.cons (.cst (.int 0)) (.cons (.bin .Sub (.var 1) (.cst (.int 1))) .nil)))))) (.not (.val (.call "is_between" (.cons (.idx (.var 2) (.cst (.int 2))) (.cons (.cst (.int 0)) (.cons (.bin .Sub (.var 1) (.cst (.int 1))) .nil))))))) (.cons (.ret (.cst (.bool false))) .nil) .nil) c_is_on_1
def c_is_right_7 : CB := .cons (.ret (.and (.cmp .Eq (.idx (.var 5) (.cst (.int 0))) (.cst (.str "on"))) (.and (.cmp .Eq (.bi .len (.cons (.var 5) .nil)) (.cst (.int 3))) (.call "is_on" (.cons (.var 1) (.cons (.var 2) (.cons (.var 5) .nil))))))) .nil
def c_is_right_6 : CB := .cons (.ife (.val (.cmp .Eq (.idx (.var 5) (.cst (.int 0))) (.cst (.str "more")))) (.cons (.ret (.and (.cmp .Eq (.bi .len (.cons (.var 5) .nil)) (.cst (.int 3))) (.call "is_more" (.cons (.var 0) (.cons (.var 1) (.cons (.var 2) (.cons (.var 5) .nil))))))) .nil) .nil) c_is_right_7
def c_is_right_5 : CB := .cons (.ife (.val (.cmp .Eq (.idx (.var 5) (.cst (.int 0))) (.cst (.str "given")))) (.cons (.ret (.and (.cmp .Eq (.bi .len (.cons (.var 5) .nil)) (.cst (.int 2))) (.call "is_given" (.cons (.var 0) (.cons (.var 4) (.cons (.var 5) .nil)))))) .nil) .nil) c_is_right_6
def c_is_right_4 : CB := .cons (.ife (.val (.cmp .Eq (.idx (.var 5) (.cst (.int 0))) (.cst (.str "own")))) (.cons (.ret (.and (.cmp .Eq (.bi .len (.cons (.var 5) .nil)) (.cst (.int 1))) (.call "inside" (.cons (.idx (.var 4) (.cst (.int 1))) (.cons (.idx (.var 4) (.cst (.int 0))) .nil))))) .nil) .nil) c_is_right_5
def c_is_right_3 : CB := .cons (.ife (.or (.not (.val (.isi (.var 5) .tuple))) (.val (.cmp .Eq (.bi .len (.cons (.var 5) .nil)) (.cst (.int 0))))) (.cons (.ret (.cst (.bool false))) .nil) .nil) c_is_right_4
def c_is_right_2 : CB := .cons (.unp (.cons (.nm 4) (.cons (.nm 5) .nil)) (.var 3)) c_is_right_3
def c_is_right_1 : CB := .cons (.ife (.or (.not (.val (.isi (.var 3) .tuple))) (.or (.val (.cmp .NotEq (.bi .len (.cons (.var 3) .nil)) (.cst (.int 2)))) (.not (.val (.call "hangs" (.cons (.idx (.var 0) (.cst (.int 0))) (.cons (.idx (.var 3) (.cst (.int 0))) .nil))))))) (.cons (.ret (.cst (.bool false))) .nil) .nil) c_is_right_2
def c_is_right : CB := .cons (.asg false 3 (.idx (.var 1) (.var 2))) c_is_right_1
def c_is_paper_3 : CB := .cons (.ret (.cst (.bool true))) .nil
def c_is_paper_4 : CB := .cons (.ife (.not (.val (.call "is_right" (.cons (.var 0) (.cons (.var 1) (.cons (.var 2) .nil)))))) (.cons (.ret (.cst (.bool false))) .nil) .nil) .nil
def c_is_paper_2 : CB := .cons (.for_ (.nm 2) (.rng (.cons (.bi .len (.cons (.var 1) .nil)) .nil)) c_is_paper_4) c_is_paper_3
def c_is_paper_1 : CB := .cons (.ife (.or (.not (.val (.isi (.var 1) .tuple))) (.not (.val (.chn .LtE .LtE (.cst (.int 1)) (.bi .len (.cons (.var 1) .nil)) (.glo "MOST_STEPS"))))) (.cons (.ret (.cst (.bool false))) .nil) .nil) c_is_paper_2
def c_is_paper : CB := .cons (.exp (.call "need_book" (.cons (.var 0) .nil))) c_is_paper_1
def c_paper_of_8 : CB := .cons (.ret (.bi .tuple (.cons (.var 4) .nil))) .nil
def c_paper_of_7 : CB := .cons (.exp (.mu .append (.var 4) (.cons (.tup (.cons (.var 1) (.cons (.tup (.cons (.cst (.str "on")) (.cons (.var 6) (.cons (.bin .Sub (.bi .len (.cons (.var 4) .nil)) (.cst (.int 1))) .nil)))) .nil))) .nil))) c_paper_of_8
def c_paper_of_6 : CB := .cons (.exp (.mu .append (.var 4) (.cons (.tup (.cons (.tup (.cons (.var 5) (.cons (.var 3) .nil))) (.cons (.tup (.cons (.cst (.str "own")) .nil)) .nil))) .nil))) c_paper_of_7
def c_paper_of_14 : CB := .cons (.unp (.cons (.nm 5) (.cons (.nm 6) .nil)) (.tup (.cons (.var 8) (.cons (.bin .Sub (.bi .len (.cons (.var 4) .nil)) (.cst (.int 1))) .nil)))) .nil
def c_paper_of_13 : CB := .cons (.exp (.mu .append (.var 4) (.cons (.tup (.cons (.tup (.cons (.var 2) (.cons (.var 8) .nil))) (.cons (.tup (.cons (.cst (.str "on")) (.cons (.var 6) (.cons (.bin .Sub (.bi .len (.cons (.var 4) .nil)) (.cst (.int 1))) .nil)))) .nil))) .nil))) c_paper_of_14
def c_paper_of_12 : CB := .cons (.exp (.mu .append (.var 4) (.cons (.tup (.cons (.tup (.cons (.var 5) (.cons (.var 8) .nil))) (.cons (.tup (.cons (.cst (.str "more")) (.cons (.bin .Sub (.bi .len (.cons (.var 4) .nil)) (.cst (.int 1))) (.cons (.var 5) .nil)))) .nil))) .nil))) c_paper_of_13
def c_paper_of_11 : CB := .cons (.exp (.mu .append (.var 4) (.cons (.tup (.cons (.idx (.idx (.var 0) (.cst (.int 1))) (.idx (.var 7) (.cst (.int 0)))) (.cons (.tup (.cons (.cst (.str "given")) (.cons (.idx (.var 7) (.cst (.int 0))) .nil))) .nil))) .nil))) c_paper_of_12
def c_paper_of_10 : CB := .cons (.asg false 8 (.call "put_to" (.cons (.var 5) (.cons (.idx (.idx (.idx (.var 0) (.cst (.int 1))) (.idx (.var 7) (.cst (.int 0)))) (.cst (.int 1))) .nil)))) c_paper_of_11
def c_paper_of_9 : CB := .cons (.asg false 7 (.lc [("k", 9), ("one", 10), ("other", 11)] (.cons (.nm 9) (.cons (.cons (.nm 10) (.cons (.nm 11) .nil)) .nil)) (.enm (.idx (.var 0) (.cst (.int 1)))) (.and (.val (.call "inside" (.cons (.var 10) (.cons (.var 5) .nil)))) (.not (.val (.call "inside" (.cons (.var 11) (.cons (.var 5) .nil)))))) (.var 9))) c_paper_of_10
def c_paper_of_5 : CB := .cons (.whl (.not (.val (.call "inside" (.cons (.var 3) (.cons (.var 5) .nil))))) c_paper_of_9) c_paper_of_6
def c_paper_of_4 : CB := .cons (.parc [4, 5, 6] (.own (.lst (.cons (.tup (.cons (.tup (.cons (.var 2) (.cons (.var 2) .nil))) (.cons (.tup (.cons (.cst (.str "own")) .nil)) .nil))) .nil)) (.cons (.var 2) (.cons (.cst (.int 0)) .nil)))) c_paper_of_5
def c_paper_of_3 : CB := .cons (.ife (.not (.val (.call "inside" (.cons (.var 3) (.cons (.call "grown" (.cons (.idx (.var 0) (.cst (.int 1))) (.cons (.var 2) .nil))) .nil))))) (.cons (.ret (.cst .none)) .nil) .nil) c_paper_of_4
def c_paper_of_2 : CB := .cons (.unp (.cons (.nm 2) (.cons (.nm 3) .nil)) (.var 1)) c_paper_of_3
def c_paper_of_1 : CB := .cons (.exp (.call "need_hanging" (.cons (.idx (.var 0) (.cst (.int 0))) (.cons (.var 1) .nil)))) c_paper_of_2
def c_paper_of : CB := .cons (.exp (.call "need_book" (.cons (.var 0) .nil))) c_paper_of_1
def c_two_rows_5 : CB := .cons (.ret (.tup (.cons (.idx (.var 0) (.cst (.int 0))) (.cons (.tup (.cons (.bin .Mult (.tup (.cons (.cst (.int 0)) .nil)) (.bi .len (.cons (.idx (.var 0) (.cst (.int 0))) .nil))) (.cons (.var 3) .nil))) .nil)))) .nil
def c_two_rows_4 : CB := .cons (.asg false 3 (.bi .tuple (.cons (.lc [("column", 4)] (.nm 4) (.of (.idx (.var 0) (.cst (.int 0)))) .yes (.bi .int (.cons (.cmp .NotIn (.var 4) (.var 2)) .nil))) .nil))) c_two_rows_5
def c_two_rows_3 : CB := .cons (.ife (.val (.call "inside" (.cons (.idx (.var 1) (.cst (.int 1))) (.cons (.var 2) .nil)))) (.cons (.ret (.cst .none)) .nil) .nil) c_two_rows_4
def c_two_rows_2 : CB := .cons (.asg false 2 (.call "grown" (.cons (.idx (.var 0) (.cst (.int 1))) (.cons (.idx (.var 1) (.cst (.int 0))) .nil)))) c_two_rows_3
def c_two_rows_1 : CB := .cons (.exp (.call "need_hanging" (.cons (.idx (.var 0) (.cst (.int 0))) (.cons (.var 1) .nil)))) c_two_rows_2
def c_two_rows : CB := .cons (.exp (.call "need_book" (.cons (.var 0) .nil))) c_two_rows_1
def c__law_is_set_1 : CB := .cons (.ret (.and (.cmp .Eq (.lc [("_law_sign", 2)] (.nm 2) (.of (.var 0)) (.val (.cmp .NotIn (.var 2) (.var 1))) (.var 2)) (.lst .nil)) (.cmp .Eq (.srtS (.var 0)) (.bi .list (.cons (.var 0) .nil))))) .nil
def c__law_is_set : CB := .cons (.ife (.not (.val (.isi (.var 0) .str))) (.cons (.ret (.cst (.bool false))) .nil) .nil) c__law_is_set_1
def c__law_is_hanging_1 : CB := .cons (.ret (.and (.call "_law_is_set" (.cons (.idx (.var 0) (.cst (.int 0))) (.cons (.var 1) .nil))) (.call "_law_is_set" (.cons (.idx (.var 0) (.cst (.int 1))) (.cons (.var 1) .nil))))) .nil
def c__law_is_hanging : CB := .cons (.ife (.or (.not (.val (.isi (.var 0) .tuple))) (.val (.cmp .NotEq (.bi .len (.cons (.var 0) .nil)) (.cst (.int 2))))) (.cons (.ret (.cst (.bool false))) .nil) .nil) c__law_is_hanging_1
def c__law_whole : CB := (.cons (.ret (.and (.isi (.var 0) .int) (.and (.not (.isi (.var 0) .bool)) (.chn .LtE .Lt (.cst (.int 0)) (.var 0) (.var 1))))) .nil)
def c__law_joined : CB := (.cons (.ret (.me .join (.cst (.str "")) (.cons (.srtS (.bin .Add (.var 0) (.var 1))) .nil))) .nil)
def c__law_why_right_8 : CB := .cons (.ret (.and (.cmp .Eq (.idx (.idx (.idx (.var 1) (.idx (.var 4) (.cst (.int 2)))) (.cst (.int 0))) (.cst (.int 0))) (.var 6)) (.cmp .Eq (.var 3) (.tup (.cons (.var 5) (.cons (.idx (.idx (.idx (.var 1) (.idx (.var 4) (.cst (.int 2)))) (.cst (.int 0))) (.cst (.int 1))) .nil)))))) .nil
def c__law_why_right_7 : CB := .cons (.ife (.or (.val (.cmp .NotEq (.idx (.var 4) (.cst (.int 0))) (.cst (.str "on")))) (.not (.val (.call "_law_whole" (.cons (.idx (.var 4) (.cst (.int 2))) (.cons (.var 2) .nil)))))) (.cons (.ret (.cst (.bool false))) .nil) .nil) c__law_why_right_8
def c__law_why_right_10 : CB := .cons (.ret (.cmp .Eq (.var 3) (.tup (.cons (.call "_law_joined" (.cons (.var 5) (.cons (.idx (.var 4) (.cst (.int 2))) .nil))) (.cons (.call "_law_joined" (.cons (.var 6) (.cons (.idx (.var 4) (.cst (.int 2))) .nil))) .nil))))) .nil
def c__law_why_right_9 : CB := .cons (.ife (.not (.val (.call "_law_is_set" (.cons (.idx (.var 4) (.cst (.int 2))) (.cons (.idx (.var 0) (.cst (.int 0))) .nil))))) (.cons (.ret (.cst (.bool false))) .nil) .nil) c__law_why_right_10
def c__law_why_right_6 : CB := .cons (.ife (.val (.cmp .Eq (.idx (.var 4) (.cst (.int 0))) (.cst (.str "more")))) c__law_why_right_9 .nil) c__law_why_right_7
def c__law_why_right_5 : CB := .cons (.unp (.cons (.nm 5) (.cons (.nm 6) .nil)) (.idx (.idx (.var 1) (.idx (.var 4) (.cst (.int 1)))) (.cst (.int 0)))) c__law_why_right_6
def c__law_why_right_4 : CB := .cons (.ife (.or (.val (.cmp .NotEq (.bi .len (.cons (.var 4) .nil)) (.cst (.int 3)))) (.not (.val (.call "_law_whole" (.cons (.idx (.var 4) (.cst (.int 1))) (.cons (.var 2) .nil)))))) (.cons (.ret (.cst (.bool false))) .nil) .nil) c__law_why_right_5
def c__law_why_right_3 : CB := .cons (.ife (.and (.val (.cmp .Eq (.idx (.var 4) (.cst (.int 0))) (.cst (.str "given")))) (.val (.cmp .Eq (.bi .len (.cons (.var 4) .nil)) (.cst (.int 2))))) (.cons (.ret (.and (.call "_law_whole" (.cons (.idx (.var 4) (.cst (.int 1))) (.cons (.bi .len (.cons (.idx (.var 0) (.cst (.int 1))) .nil)) .nil))) (.cmp .Eq (.idx (.idx (.var 0) (.cst (.int 1))) (.idx (.var 4) (.cst (.int 1)))) (.var 3)))) .nil) .nil) c__law_why_right_4
def c__law_why_right_2 : CB := .cons (.ife (.and (.val (.cmp .Eq (.idx (.var 4) (.cst (.int 0))) (.cst (.str "own")))) (.val (.cmp .Eq (.bi .len (.cons (.var 4) .nil)) (.cst (.int 1))))) (.cons (.ret (.call "_law_lies" (.cons (.idx (.var 3) (.cst (.int 1))) (.cons (.idx (.var 3) (.cst (.int 0))) .nil)))) .nil) .nil) c__law_why_right_3
def c__law_why_right_1 : CB := .cons (.ife (.or (.not (.val (.isi (.var 4) .tuple))) (.val (.cmp .Eq (.bi .len (.cons (.var 4) .nil)) (.cst (.int 0))))) (.cons (.ret (.cst (.bool false))) .nil) .nil) c__law_why_right_2
def c__law_why_right : CB := .cons (.unp (.cons (.nm 3) (.cons (.nm 4) .nil)) (.idx (.var 1) (.var 2))) c__law_why_right_1
def c__law_is_paper_2 : CB := .cons (.ret (.cst (.bool true))) .nil
def c__law_is_paper_4 : CB := .cons (.ife (.not (.val (.call "_law_why_right" (.cons (.var 0) (.cons (.var 1) (.cons (.var 2) .nil)))))) (.cons (.ret (.cst (.bool false))) .nil) .nil) .nil
def c__law_is_paper_3 : CB := .cons (.ife (.or (.not (.val (.isi (.var 3) .tuple))) (.or (.val (.cmp .NotEq (.bi .len (.cons (.var 3) .nil)) (.cst (.int 2)))) (.not (.val (.call "_law_is_hanging" (.cons (.idx (.var 3) (.cst (.int 0))) (.cons (.idx (.var 0) (.cst (.int 0))) .nil))))))) (.cons (.ret (.cst (.bool false))) .nil) .nil) c__law_is_paper_4
def c__law_is_paper_1 : CB := .cons (.for_ (.cons (.nm 2) (.cons (.nm 3) .nil)) (.enm (.var 1)) c__law_is_paper_3) c__law_is_paper_2
def c__law_is_paper : CB := .cons (.ife (.or (.not (.val (.isi (.var 1) .tuple))) (.or (.val (.cmp .Eq (.bi .len (.cons (.var 1) .nil)) (.cst (.int 0)))) (.val (.cmp .Gt (.bi .len (.cons (.var 1) .nil)) (.cst (.int 60)))))) (.cons (.ret (.cst (.bool false))) .nil) .nil) c__law_is_paper_1
def c_is_split_4 : CB := .cons (.ret (.cmp .Eq (.var 2) (.var 0))) .nil
def c_is_split_3 : CB := .cons (.for_ (.nm 3) (.of (.var 1)) (.cons (.asg false 2 (.call "put_to" (.cons (.var 2) (.cons (.var 3) .nil)))) .nil)) c_is_split_4
def c_is_split_2 : CB := .cons (.asg false 2 (.cst (.str ""))) c_is_split_3
def c_is_split_1 : CB := .cons (.ife (.or (.not (.val (.bi .all (.cons (.lc [("some", 3)] (.nm 3) (.of (.var 1)) .yes (.and (.call "is_head" (.cons (.var 3) .nil)) (.call "inside" (.cons (.var 3) (.cons (.var 0) .nil))))) .nil)))) (.not (.val (.call "is_rising" (.cons (.var 1) .nil))))) (.cons (.ret (.cst (.bool false))) .nil) .nil) c_is_split_2
def c_is_split : CB := .cons (.ife (.or (.not (.val (.isi (.var 1) .tuple))) (.not (.val (.chn .LtE .LtE (.cst (.int 1)) (.bi .len (.cons (.var 1) .nil)) (.glo "MOST_SETS"))))) (.cons (.ret (.cst (.bool false))) .nil) .nil) c_is_split_1
def c_need_split : CB := .cons (.ife (.not (.val (.call "is_split" (.cons (.var 0) (.cons (.var 1) .nil))))) (.cons .nev .nil) .nil) .nil
def c_grown_apart_2 : CB := .cons (.ret (.var 3)) .nil
def c_grown_apart_6 : CB := .cons (.ife (.not (.val (.call "inside" (.cons (.var 6) (.cons (.var 3) .nil))))) (.cons (.par [3, 4] (.cons (.call "put_to" (.cons (.var 3) (.cons (.var 6) .nil))) (.cons (.cst (.bool true)) .nil))) .nil) .nil) .nil
def c_grown_apart_5 : CB := .cons (.asg false 6 (.call "met" (.cons (.call "grown" (.cons (.var 0) (.cons (.call "met" (.cons (.var 3) (.cons (.var 5) .nil))) .nil))) (.cons (.var 5) .nil)))) c_grown_apart_6
def c_grown_apart_4 : CB := .cons (.for_ (.nm 5) (.of (.var 1)) c_grown_apart_5) .nil
def c_grown_apart_3 : CB := .cons (.asg false 4 (.cst (.bool false))) c_grown_apart_4
def c_grown_apart_1 : CB := .cons (.whl (.val (.var 4)) c_grown_apart_3) c_grown_apart_2
def c_grown_apart : CB := .cons (.par [3, 4] (.cons (.var 2) (.cons (.cst (.bool true)) .nil))) c_grown_apart_1
def c_lost_2 : CB := .cons (.ret (.lc [("k", 2), ("left", 3), ("right", 4)] (.cons (.nm 2) (.cons (.cons (.nm 3) (.cons (.nm 4) .nil)) .nil)) (.enm (.idx (.var 0) (.cst (.int 1)))) (.not (.val (.call "inside" (.cons (.var 4) (.cons (.call "grown_apart" (.cons (.idx (.var 0) (.cst (.int 1))) (.cons (.var 1) (.cons (.var 3) .nil)))) .nil))))) (.var 2))) .nil
def c_lost_1 : CB := .cons (.exp (.call "need_split" (.cons (.idx (.var 0) (.cst (.int 0))) (.cons (.var 1) .nil)))) c_lost_2
def c_lost : CB := .cons (.exp (.call "need_book" (.cons (.var 0) .nil))) c_lost_1
def c__law_split_3 : CB := .cons (.ret (.bi .tuple (.cons (.srtS (.lc [("_law_one", 6)] (.nm 6) (.of (.bin .Add (.var 2) (.lst (.cons (.var 3) .nil)))) (.val (.cmp .NotEq (.var 6) (.cst (.str "")))) (.var 6))) .nil))) .nil
def c__law_split_2 : CB := .cons (.ife (.val (.cmp .Eq (.call "_law_choice" (.cons (.var 0) (.cons (.cst (.int 2)) .nil))) (.cst (.int 0)))) (.cons (.sps (.var 2) (.cst (.int 0)) 3 (.cons (.me .join (.cst (.str "")) (.cons (.srtS (.bin .Add (.idx (.var 2) (.cst (.int 0))) (.var 3))) .nil)) (.cons (.cst (.str "")) .nil))) .nil) .nil) c__law_split_3
def c__law_split_1 : CB := .cons (.asg false 3 (.me .join (.cst (.str "")) (.cons (.lc [("_law_column", 5)] (.nm 5) (.of (.var 1)) (.val (.cmp .NotIn (.var 5) (.me .join (.cst (.str "")) (.cons (.var 2) .nil)))) (.var 5)) .nil))) c__law_split_2
def c__law_split : CB := .cons (.asg true 2 (.lc [("_law_turn", 4)] (.nm 4) (.rng (.cons (.bin .Add (.cst (.int 1)) (.call "_law_choice" (.cons (.var 0) (.cons (.cst (.int 5)) .nil)))) .nil)) .yes (.call "_law_pick" (.cons (.var 0) (.cons (.var 1) .nil))))) c__law_split_1
def c_begun : CB := (.cons (.ret (.lcO [("k", 3), ("some", 4)] (.cons (.nm 3) (.cons (.nm 4) .nil)) (.enm (.var 1)) (.lc [("column", 2)] (.nm 2) (.of (.var 0)) .yes (.ite (.val (.cmp .In (.var 2) (.var 4))) (.cst (.int 0)) (.bin .Add (.var 3) (.cst (.int 1))))))) .nil)
def c_are_alike : CB := (.cons (.ret (.bi .all (.cons (.lc [("column", 5), ("one", 6), ("other", 7)] (.cons (.nm 5) (.cons (.nm 6) (.cons (.nm 7) .nil))) (.zip (.cons (.var 0) (.cons (.idxO (.var 1) (.var 2)) (.cons (.idxO (.var 1) (.var 3)) .nil)))) (.val (.cmp .In (.var 5) (.var 4))) (.cmp .Eq (.var 6) (.var 7))) .nil))) .nil)
def c_made_alike_4 : CB := .cons (.ife (.val (.cmp .Eq (.idx (.var 8) (.var 5)) (.var 7))) (.cons (.sset (.var 8) (.var 5) (.var 6)) .nil) .nil) .nil
def c_made_alike_3 : CB := .cons (.forO 8 (.var 1) c_made_alike_4) .nil
def c_made_alike_2 : CB := .cons (.ife (.val (.cmp .In (.idx (.var 0) (.var 5)) (.var 4))) c_made_alike_3 .nil) .nil
def c_made_alike_1 : CB := .cons (.unp (.cons (.nm 6) (.cons (.nm 7) .nil)) (.bi .sorted (.cons (.lst (.cons (.idx (.idxO (.var 1) (.var 2)) (.var 5)) (.cons (.idx (.idxO (.var 1) (.var 3)) (.var 5)) .nil))) .nil))) c_made_alike_2
def c_made_alike : CB := .cons (.for_ (.nm 5) (.rng (.cons (.bi .len (.cons (.var 0) .nil)) .nil)) c_made_alike_1) .nil
def c_pairs_of_2 : CB := .cons (.ret (.var 1)) .nil
def c_pairs_of_1 : CB := .cons (.for_ (.nm 2) (.rng (.cons (.var 0) .nil)) (.cons (.exp (.mu .extend (.var 1) (.cons (.lc [("i", 3)] (.nm 3) (.rng (.cons (.var 2) .nil)) .yes (.tup (.cons (.var 3) (.cons (.var 2) .nil)))) .nil))) .nil)) c_pairs_of_2
def c_pairs_of : CB := .cons (.asg true 1 (.lst .nil)) c_pairs_of_1
def c_fill_3 : CB := .cons (.ret (.tup (.cons (.var 4) (.cons (.var 5) .nil)))) .nil
def c_fill_10 : CB := .cons (.asg false 6 (.cst (.bool true))) .nil
def c_fill_9 : CB := .cons (.exp (.mu .append (.var 5) (.cons (.tup (.cons (.var 7) (.cons (.var 10) (.cons (.var 11) .nil)))) .nil))) c_fill_10
def c_fill_8 : CB := .cons (.exp (.call "made_alike" (.cons (.var 2) (.cons (.var 4) (.cons (.var 10) (.cons (.var 11) (.cons (.var 9) .nil))))))) c_fill_9
def c_fill_7 : CB := .cons (.ife (.and (.val (.call "are_alike" (.cons (.var 2) (.cons (.var 4) (.cons (.var 10) (.cons (.var 11) (.cons (.var 8) .nil))))))) (.not (.val (.call "are_alike" (.cons (.var 2) (.cons (.var 4) (.cons (.var 10) (.cons (.var 11) (.cons (.var 9) .nil))))))))) c_fill_8 .nil) .nil
def c_fill_6 : CB := .cons (.for_ (.cons (.nm 10) (.cons (.nm 11) .nil)) (.of (.call "pairs_of" (.cons (.lenO (.var 4)) .nil))) c_fill_7) .nil
def c_fill_5 : CB := .cons (.for_ (.cons (.nm 7) (.cons (.cons (.nm 8) (.cons (.nm 9) .nil)) .nil)) (.enm (.var 3)) c_fill_6) .nil
def c_fill_4 : CB := .cons (.asg false 6 (.cst (.bool false))) c_fill_5
def c_fill_2 : CB := .cons (.whl (.val (.var 6)) c_fill_4) c_fill_3
def c_fill_1 : CB := .cons (.par [4, 5, 6] (.own (.call "begun" (.cons (.var 2) (.cons (.var 1) .nil))) (.own (.lst .nil) (.cons (.cst (.bool true)) .nil)))) c_fill_2
def c_fill : CB := .cons (.unp (.cons (.nm 2) (.cons (.nm 3) .nil)) (.var 0)) c_fill_1
def c_has_noughts : CB := (.cons (.ret (.bi .any (.cons (.lc [("row", 1)] (.nm 1) (.of (.var 0)) .yes (.bi .all (.cons (.lc [("number", 2)] (.nm 2) (.of (.var 1)) .yes (.cmp .Eq (.var 2) (.cst (.int 0)))) .nil))) .nil))) .nil)
def c_is_whole_k71_2 : CB := .cons (.ret (.call "has_noughts" (.cons (.idx (.call "fill" (.cons (.var 0) (.cons (.var 1) .nil))) (.cst (.int 0))) .nil))) .nil
def c_is_whole_k71_1 : CB := .cons (.exp (.call "need_split" (.cons (.idx (.var 0) (.cst (.int 0))) (.cons (.var 1) .nil)))) c_is_whole_k71_2
def c_is_whole_k71 : CB := .cons (.exp (.call "need_book" (.cons (.var 0) .nil))) c_is_whole_k71_1
def c_without_inner_2 : CB := .cons (.ret (.bi .tuple (.cons (.bi .sorted (.cons (.var 1) .nil)) .nil))) .nil
def c_without_inner_3 : CB := .cons (.ife (.not (.val (.bi .any (.cons (.lc [("other", 3)] (.nm 3) (.of (.var 1)) .yes (.call "inside" (.cons (.var 2) (.cons (.var 3) .nil)))) .nil)))) (.cons (.exp (.mu .append (.var 1) (.cons (.var 2) .nil))) .nil) .nil) .nil
def c_without_inner_1 : CB := .cons (.for_ (.nm 2) (.of (.srtK true (.var 0))) c_without_inner_3) c_without_inner_2
def c_without_inner : CB := .cons (.asg true 1 (.lst .nil)) c_without_inner_1
def c_neat_split_3 : CB := .cons (.ret (.call "without_inner" (.cons (.var 2) .nil))) .nil
def c_neat_split_8 : CB := .cons (.exp (.mu .extend (.var 1) (.cons (.lst (.cons (.var 5) (.cons (.call "put_to" (.cons (.var 4) (.cons (.call "out_of" (.cons (.var 3) (.cons (.var 5) .nil))) .nil))) .nil))) .nil))) .nil
def c_neat_split_7 : CB := .cons (.asg false 5 (.call "met" (.cons (.call "grown" (.cons (.idx (.var 0) (.cst (.int 1))) (.cons (.var 4) .nil))) (.cons (.var 3) .nil)))) c_neat_split_8
def c_neat_split_6 : CB := .cons (.ife (.val (.cmp .Is (.var 4) (.cst .none))) (.cons (.exp (.mu .append (.var 2) (.cons (.var 3) .nil))) .nil) c_neat_split_7) .nil
def c_neat_split_5 : CB := .cons (.asg false 4 (.call "rough" (.cons (.var 0) (.cons (.var 3) .nil)))) c_neat_split_6
def c_neat_split_4 : CB := .cons (.asg false 3 (.mu .pop (.var 1) .nil)) c_neat_split_5
def c_neat_split_2 : CB := .cons (.whl (.val (.cmp .NotEq (.var 1) (.lst .nil))) c_neat_split_4) c_neat_split_3
def c_neat_split_1 : CB := .cons (.par [1, 2] (.own (.lst (.cons (.idx (.var 0) (.cst (.int 0))) .nil)) (.own (.lst .nil) .nil))) c_neat_split_2
def c_neat_split : CB := .cons (.exp (.call "need_book" (.cons (.var 0) .nil))) c_neat_split_1
def c_is_between_k70 : CB := (.cons (.ret (.and (.call "is_whole_sets" (.cons (.var 0) .nil)) (.chn .LtE .LtE (.var 1) (.var 0) (.var 2)))) .nil)
def c_is_step_3 : CB := .cons (.ret (.call "are_alike" (.cons (.idx (.var 0) (.cst (.int 0))) (.cons (.var 1) (.cons (.var 4) (.cons (.var 5) (.cons (.idx (.idx (.idx (.var 0) (.cst (.int 1))) (.var 3)) (.cst (.int 0))) .nil))))))) .nil
def c_is_step_2 : CB := .cons (.ife (.or (.not (.val (.call "is_between" (.cons (.var 5) (.cons (.cst (.int 0)) (.cons (.bin .Sub (.lenO (.var 1)) (.cst (.int 1))) .nil)))))) (.not (.val (.call "is_between" (.cons (.var 4) (.cons (.cst (.int 0)) (.cons (.bin .Sub (.var 5) (.cst (.int 1))) .nil))))))) (.cons (.ret (.cst (.bool false))) .nil) .nil) c_is_step_3
def c_is_step_1 : CB := .cons (.unp (.cons (.nm 3) (.cons (.nm 4) (.cons (.nm 5) .nil))) (.var 2)) c_is_step_2
def c_is_step : CB := .cons (.ife (.or (.not (.val (.isi (.var 2) .tuple))) (.or (.val (.cmp .NotEq (.bi .len (.cons (.var 2) .nil)) (.cst (.int 3)))) (.not (.val (.call "is_between" (.cons (.idx (.var 2) (.cst (.int 0))) (.cons (.cst (.int 0)) (.cons (.bin .Sub (.bi .len (.cons (.idx (.var 0) (.cst (.int 1))) .nil)) (.cst (.int 1))) .nil)))))))) (.cons (.ret (.cst (.bool false))) .nil) .nil) c_is_step_1
def c_is_fill_5 : CB := .cons (.ret (.call "has_noughts" (.cons (.frz (.var 3)) .nil))) .nil
def c_is_fill_7 : CB := .cons (.exp (.call "made_alike" (.cons (.idx (.var 0) (.cst (.int 0))) (.cons (.var 3) (.cons (.idx (.var 4) (.cst (.int 1))) (.cons (.idx (.var 4) (.cst (.int 2))) (.cons (.idx (.idx (.idx (.var 0) (.cst (.int 1))) (.idx (.var 4) (.cst (.int 0)))) (.cst (.int 1))) .nil))))))) .nil
def c_is_fill_6 : CB := .cons (.ife (.not (.val (.call "is_step" (.cons (.var 0) (.cons (.var 3) (.cons (.var 4) .nil)))))) (.cons (.ret (.cst (.bool false))) .nil) .nil) c_is_fill_7
def c_is_fill_4 : CB := .cons (.for_ (.nm 4) (.of (.var 2)) c_is_fill_6) c_is_fill_5
def c_is_fill_3 : CB := .cons (.asg true 3 (.call "begun" (.cons (.idx (.var 0) (.cst (.int 0))) (.cons (.var 1) .nil)))) c_is_fill_4
def c_is_fill_2 : CB := .cons (.ife (.or (.not (.val (.isi (.var 2) .tuple))) (.val (.cmp .Gt (.bi .len (.cons (.var 2) .nil)) (.glo "MOST_FILLS")))) (.cons (.ret (.cst (.bool false))) .nil) .nil) c_is_fill_3
def c_is_fill_1 : CB := .cons (.exp (.call "need_split" (.cons (.idx (.var 0) (.cst (.int 0))) (.cons (.var 1) .nil)))) c_is_fill_2
def c_is_fill : CB := .cons (.exp (.call "need_book" (.cons (.var 0) .nil))) c_is_fill_1
def c_fill_of_4 : CB := .cons (.ret (.bi .tuple (.cons (.var 3) .nil))) .nil
def c_fill_of_3 : CB := .cons (.ife (.not (.val (.call "has_noughts" (.cons (.var 2) .nil)))) (.cons (.ret (.cst .none)) .nil) .nil) c_fill_of_4
def c_fill_of_2 : CB := .cons (.unp (.cons (.nm 2) (.cons (.nm 3) .nil)) (.call "fill" (.cons (.var 0) (.cons (.var 1) .nil)))) c_fill_of_3
def c_fill_of_1 : CB := .cons (.exp (.call "need_split" (.cons (.idx (.var 0) (.cst (.int 0))) (.cons (.var 1) .nil)))) c_fill_of_2
def c_fill_of : CB := .cons (.exp (.call "need_book" (.cons (.var 0) .nil))) c_fill_of_1
def c_filled_2 : CB := .cons (.ret (.lc [("row", 2)] (.nm 2) (.of (.idx (.call "fill" (.cons (.var 0) (.cons (.var 1) .nil))) (.cst (.int 0)))) .yes (.bi .tuple (.cons (.var 2) .nil)))) .nil
def c_filled_1 : CB := .cons (.exp (.call "need_split" (.cons (.idx (.var 0) (.cst (.int 0))) (.cons (.var 1) .nil)))) c_filled_2
def c_filled : CB := .cons (.exp (.call "need_book" (.cons (.var 0) .nil))) c_filled_1
def c__law_begun : CB := (.cons (.ret (.lcO [("_law_k", 3), ("_law_some", 4)] (.cons (.nm 3) (.cons (.nm 4) .nil)) (.enm (.var 1)) (.lc [("_law_column", 2)] (.nm 2) (.of (.var 0)) .yes (.idx (.lst (.cons (.bin .Add (.var 3) (.cst (.int 1))) (.cons (.cst (.int 0)) .nil))) (.bi .int (.cons (.cmp .In (.var 2) (.var 4)) .nil)))))) .nil)
def c__law_same_in : CB := (.cons (.ret (.cmp .Eq (.lc [("_law_column", 4), ("_law_a", 5), ("_law_b", 6)] (.cons (.nm 4) (.cons (.nm 5) (.cons (.nm 6) .nil))) (.zip (.cons (.var 0) (.cons (.var 1) (.cons (.var 2) .nil)))) (.and (.val (.cmp .In (.var 4) (.var 3))) (.val (.cmp .NotEq (.var 5) (.var 6)))) (.var 4)) (.lst .nil))) .nil)
def c__law_made_same_4 : CB := .cons (.ife (.val (.cmp .Eq (.idx (.var 8) (.var 5)) (.bi .max (.cons (.var 6) (.cons (.var 7) .nil))))) (.cons (.sset (.var 8) (.var 5) (.bi .min (.cons (.var 6) (.cons (.var 7) .nil)))) .nil) .nil) .nil
def c__law_made_same_3 : CB := .cons (.forO 8 (.var 1) c__law_made_same_4) .nil
def c__law_made_same_2 : CB := .cons (.ife (.and (.val (.cmp .In (.idx (.var 0) (.var 5)) (.var 4))) (.val (.cmp .NotEq (.var 6) (.var 7)))) c__law_made_same_3 .nil) .nil
def c__law_made_same_1 : CB := .cons (.par [6, 7] (.cons (.idx (.idxO (.var 1) (.var 2)) (.var 5)) (.cons (.idx (.idxO (.var 1) (.var 3)) (.var 5)) .nil))) c__law_made_same_2
def c__law_made_same : CB := .cons (.for_ (.nm 5) (.rng (.cons (.bi .len (.cons (.var 0) .nil)) .nil)) c__law_made_same_1) .nil
def c__law_filled_7 : CB := .cons (.ret (.lc [("_law_row", 12)] (.nm 12) (.of (.frz (.var 8))) .yes (.bi .tuple (.cons (.var 12) .nil)))) .nil
def c__law_filled_10 : CB := .cons (.ife (.val (.call "_law_same_in" (.cons (.var 6) (.cons (.idxO (.var 8) (.var 3)) (.cons (.idxO (.var 8) (.var 11)) (.cons (.idx (.var 5) (.cst (.int 0))) .nil)))))) (.cons (.exp (.call "_law_made_same" (.cons (.var 6) (.cons (.var 8) (.cons (.var 3) (.cons (.var 11) (.cons (.idx (.var 5) (.cst (.int 1))) .nil))))))) .nil) .nil) .nil
def c__law_filled_9 : CB := .cons (.for_ (.cons (.nm 5) (.cons (.nm 3) (.cons (.nm 11) .nil))) (.of (.var 4)) c__law_filled_10) .nil
def c__law_filled_8 : CB := .cons (.asg false 10 (.lcR [("_law_row", 12)] 12 (.var 8) (.bi .list (.cons (.var 12) .nil)))) c__law_filled_9
def c__law_filled_6 : CB := .cons (.whl (.val (.cmpL .NotEq (.var 10) (.var 8))) c__law_filled_8) c__law_filled_7
def c__law_filled_5 : CB := .cons (.par [4, 10] (.cons (.ite (.val (.var 2)) (.revL (.var 4)) (.var 4)) (.cons (.lst .nil) .nil))) c__law_filled_6
def c__law_filled_4 : CB := .cons (.for_ (.nm 5) (.of (.var 7)) (.cons (.asg false 4 (.bin .Add (.var 4) (.lc [("_law_i", 3), ("_law_j", 11)] (.cons (.nm 3) (.cons (.nm 11) .nil)) (.of (.var 9)) .yes (.tup (.cons (.var 5) (.cons (.var 3) (.cons (.var 11) .nil))))))) .nil)) c__law_filled_5
def c__law_filled_3 : CB := .cons (.asg false 4 (.lst .nil)) c__law_filled_4
def c__law_filled_2 : CB := .cons (.for_ (.nm 3) (.rng (.cons (.bi .len (.cons (.var 1) .nil)) .nil)) (.cons (.asg false 9 (.bin .Add (.var 9) (.lc [("_law_j", 11)] (.nm 11) (.rng (.cons (.bin .Add (.var 3) (.cst (.int 1))) (.cons (.bi .len (.cons (.var 1) .nil)) .nil))) .yes (.tup (.cons (.var 3) (.cons (.var 11) .nil)))))) .nil)) c__law_filled_3
def c__law_filled_1 : CB := .cons (.par [8, 9] (.own (.call "_law_begun" (.cons (.var 6) (.cons (.var 1) .nil))) (.cons (.lst .nil) .nil))) c__law_filled_2
def c__law_filled : CB := .cons (.unp (.cons (.nm 6) (.cons (.nm 7) .nil)) (.var 0)) c__law_filled_1
def c__law_is_fill_4 : CB := .cons (.ret (.cmp .NotEq (.lc [("_law_row", 10)] (.nm 10) (.of (.frz (.var 3))) (.val (.cmp .Eq (.lc [("_law_number", 11)] (.nm 11) (.of (.var 10)) (.val (.cmp .NotEq (.var 11) (.cst (.int 0)))) (.var 11)) (.lst .nil))) (.var 10)) (.lst .nil))) .nil
def c__law_is_fill_9 : CB := .cons (.exp (.call "_law_made_same" (.cons (.var 5) (.cons (.var 3) (.cons (.var 8) (.cons (.var 9) (.cons (.idx (.idx (.var 6) (.var 7)) (.cst (.int 1))) .nil))))))) .nil
def c__law_is_fill_8 : CB := .cons (.ife (.not (.val (.call "_law_same_in" (.cons (.var 5) (.cons (.idxO (.var 3) (.var 8)) (.cons (.idxO (.var 3) (.var 9)) (.cons (.idx (.idx (.var 6) (.var 7)) (.cst (.int 0))) .nil))))))) (.cons (.ret (.cst (.bool false))) .nil) .nil) c__law_is_fill_9
def c__law_is_fill_7 : CB := .cons (.ife (.or (.not (.val (.call "_law_whole" (.cons (.var 9) (.cons (.lenO (.var 3)) .nil))))) (.not (.val (.call "_law_whole" (.cons (.var 8) (.cons (.var 9) .nil)))))) (.cons (.ret (.cst (.bool false))) .nil) .nil) c__law_is_fill_8
def c__law_is_fill_6 : CB := .cons (.unp (.cons (.nm 7) (.cons (.nm 8) (.cons (.nm 9) .nil))) (.var 4)) c__law_is_fill_7
def c__law_is_fill_5 : CB := .cons (.ife (.or (.not (.val (.isi (.var 4) .tuple))) (.or (.val (.cmp .NotEq (.bi .len (.cons (.var 4) .nil)) (.cst (.int 3)))) (.not (.val (.call "_law_whole" (.cons (.idx (.var 4) (.cst (.int 0))) (.cons (.bi .len (.cons (.var 6) .nil)) .nil))))))) (.cons (.ret (.cst (.bool false))) .nil) .nil) c__law_is_fill_6
def c__law_is_fill_3 : CB := .cons (.for_ (.nm 4) (.of (.var 2)) c__law_is_fill_5) c__law_is_fill_4
def c__law_is_fill_2 : CB := .cons (.asg true 3 (.call "_law_begun" (.cons (.var 5) (.cons (.var 1) .nil)))) c__law_is_fill_3
def c__law_is_fill_1 : CB := .cons (.ife (.or (.not (.val (.isi (.var 2) .tuple))) (.val (.cmp .Gt (.bi .len (.cons (.var 2) .nil)) (.cst (.int 600))))) (.cons (.ret (.cst (.bool false))) .nil) .nil) c__law_is_fill_2
def c__law_is_fill : CB := .cons (.unp (.cons (.nm 5) (.cons (.nm 6) .nil)) (.var 0)) c__law_is_fill_1
end Kd

namespace Kd
open PySem PySem.Spec PyProof.Rows L2
def cols : List Nat := [97, 98, 99, 100, 101, 102, 103, 104]
theorem T_cols : (.str "abcdefgh" : D) = T cols := by
  show PyData.str _ = PyData.str _
  congr 1
theorem T_nil : (.str "" : D) = T [] := by
  show PyData.str _ = PyData.str _
  congr 1
def outL (a b : List Nat) : List Nat := a.filter fun c => !decide (c ∈ b)
def insB (a b : List Nat) : Bool := a.all fun c => decide (c ∈ b)
def putL (a b : List Nat) : List Nat := cols.filter fun c => decide (c ∈ a) || decide (c ∈ b)
def csOf (a : List Nat) : List Nat := cols.filter fun c => decide (c ∈ a)
def IsCS (a : List Nat) : Prop := csOf a = a
theorem cols_len : cols.length = 8 := rfl
theorem filt_len (p : Nat → Bool) : (cols.filter p).length ≤ 8 := List.length_filter_le p cols
theorem IsCS.len {a : List Nat} (h : IsCS a) : a.length ≤ 8 := by rw [← h]; exact filt_len _
theorem len_le {n m : Nat} (h : n ≤ 8) : n ≤ 100000 := by omega
theorem eq_T {a b : List Nat} : cmpD .Eq (T a) (T b) = some (decide (a = b)) := by
  have e : PyData.eqv (T a) (T b) = decide (a = b) := by
    by_cases h : a = b
    · subst h; simp [PyData.eqv, T]
    · simp [PyData.eqv, T, h]
  have c : canEq (T a) (T b) = true := by simp [canEq, T, flatDict, PyData.depth]
  simp only [cmpD, c, if_true, e]
theorem ne_T {a b : List Nat} : cmpD .NotEq (T a) (T b) = some (!decide (a = b)) := by
  have h := @eq_T a b
  have c : canEq (T a) (T b) = true := by simp [canEq, T, flatDict, PyData.depth]
  simp only [cmpD, c, if_true, Option.some.injEq] at h ⊢
  rw [h]
/-! out_of, inside, put_to, is_set -/
def S_out_of : FSpec := fun rs oh Q _ => ∃ a b, rs = [.d (T a), .d (T b)] ∧ a.length ≤ 1000 ∧ Q (.d (T (outL a b))) oh
theorem w_out_of (Γ : Gv) (rs : List Vl) (oh : OH) (Q : QV) (E : QX) (h : S_out_of rs oh Q E) : fnW Γ 3 c_out_of rs oh Q E := by
  obtain ⟨a, b, rfl, ha, q⟩ := h
  unfold c_out_of
  (try simp only [fnW_eq, fnD_nx, fnD_rt, seq_nx, seq_rt, seq_rtF, loop_rtF, seq_bk, seq_ct, loop_nx, loop_rt, loop_bk, loop_ct, wB_cons, wB_nil, wS_asgO, wS_asg, wS_unp, wS_par, wS_parc, wS_sset, wS_sps, wS_exp, wS_ret, wS_retN, wS_ife, wS_pas, wS_brk, wS_cnt, wE, wNs, wAs, wT, wI, wP, norm_d, store_d, vdat_d, norm_new, store_new, norm_newS, store_newS, fin_sh, fin_lst, fresh_lst, walk_d, it_T, it_list, it_tuple, seq_T, seq_list, seq_tuple, seqAll, zipN2, zipN3, bind1, bind2, bind3, wipeS, setAll, seeAll, tru_bool, retv_d, take_all, ex_some,
  List.map_cons, List.map_nil, List.length_cons, List.length_nil, List.cons_append, List.nil_append, List.replicate, List.getElem?_cons_zero, List.getElem?_cons_succ, List.set_cons_zero, List.set_cons_succ, Option.some.injEq, exists_eq_left', exists_eq_left, exists_eq_right, true_and, and_true,
  Nat.reduceAdd, Nat.reduceSub, OO.dat, cmp_in, cmp_notin, exists_and_left, reduceIte, reduceCtorEq, if_true, if_false, Bool.false_eq_true, Vl.d.injEq, PyData.int.injEq, PyData.bool.injEq, PyData.str.injEq, Bool.not_true, Bool.not_false, cmp_lt, cmp_gt, cmp_le, cmp_ge, cmp_eq, cmp_ne, len_tup, len_lst, len_txt, ix_0, ix_1, ix_l0, ix_l1, ix_l2, bin_add, bin_sub, set_l0, set_l1, set_l2, live_lst, max_int, min_int, take_set, take_snoc, List.set_set, List.length_set, Vl.o.injEq, eq_self, decide_true, decide_false, Int.reduceLT, Int.reduceEq, Int.cast_ofNat_Int, Nat.zero_add])
  refine ⟨rfl, lc_fm (fun c => !decide (c ∈ b)) (fun c => T [c]) trivial (fun c hc k hk => ?_) ?_⟩
  · (try simp only [fnW_eq, fnD_nx, fnD_rt, seq_nx, seq_rt, seq_rtF, loop_rtF, seq_bk, seq_ct, loop_nx, loop_rt, loop_bk, loop_ct, wB_cons, wB_nil, wS_asgO, wS_asg, wS_unp, wS_par, wS_parc, wS_sset, wS_sps, wS_exp, wS_ret, wS_retN, wS_ife, wS_pas, wS_brk, wS_cnt, wE, wNs, wAs, wT, wI, wP, norm_d, store_d, vdat_d, norm_new, store_new, norm_newS, store_newS, fin_sh, fin_lst, fresh_lst, walk_d, it_T, it_list, it_tuple, seq_T, seq_list, seq_tuple, seqAll, zipN2, zipN3, bind1, bind2, bind3, wipeS, setAll, seeAll, tru_bool, retv_d, take_all, ex_some,
  List.map_cons, List.map_nil, List.length_cons, List.length_nil, List.cons_append, List.nil_append, List.replicate, List.getElem?_cons_zero, List.getElem?_cons_succ, List.set_cons_zero, List.set_cons_succ, Option.some.injEq, exists_eq_left', exists_eq_left, exists_eq_right, true_and, and_true,
  Nat.reduceAdd, Nat.reduceSub, OO.dat, cmp_in, cmp_notin, exists_and_left, reduceIte, reduceCtorEq, if_true, if_false, Bool.false_eq_true, Vl.d.injEq, PyData.int.injEq, PyData.bool.injEq, PyData.str.injEq, Bool.not_true, Bool.not_false, cmp_lt, cmp_gt, cmp_le, cmp_ge, cmp_eq, cmp_ne, len_tup, len_lst, len_txt, ix_0, ix_1, ix_l0, ix_l1, ix_l2, bin_add, bin_sub, set_l0, set_l1, set_l2, live_lst, max_int, min_int, take_set, take_snoc, List.set_set, List.length_set, Vl.o.injEq, eq_self, decide_true, decide_false, Int.reduceLT, Int.reduceEq, Int.cast_ofNat_Int, Nat.zero_add])
    exact hk
  · (try simp only [fnW_eq, fnD_nx, fnD_rt, seq_nx, seq_rt, seq_rtF, loop_rtF, seq_bk, seq_ct, loop_nx, loop_rt, loop_bk, loop_ct, wB_cons, wB_nil, wS_asgO, wS_asg, wS_unp, wS_par, wS_parc, wS_sset, wS_sps, wS_exp, wS_ret, wS_retN, wS_ife, wS_pas, wS_brk, wS_cnt, wE, wNs, wAs, wT, wI, wP, norm_d, store_d, vdat_d, norm_new, store_new, norm_newS, store_newS, fin_sh, fin_lst, fresh_lst, walk_d, it_T, it_list, it_tuple, seq_T, seq_list, seq_tuple, seqAll, zipN2, zipN3, bind1, bind2, bind3, wipeS, setAll, seeAll, tru_bool, retv_d, take_all, ex_some,
  List.map_cons, List.map_nil, List.length_cons, List.length_nil, List.cons_append, List.nil_append, List.replicate, List.getElem?_cons_zero, List.getElem?_cons_succ, List.set_cons_zero, List.set_cons_succ, Option.some.injEq, exists_eq_left', exists_eq_left, exists_eq_right, true_and, and_true,
  Nat.reduceAdd, Nat.reduceSub, OO.dat, cmp_in, cmp_notin, exists_and_left, reduceIte, reduceCtorEq, if_true, if_false, Bool.false_eq_true, Vl.d.injEq, PyData.int.injEq, PyData.bool.injEq, PyData.str.injEq, Bool.not_true, Bool.not_false, cmp_lt, cmp_gt, cmp_le, cmp_ge, cmp_eq, cmp_ne, len_tup, len_lst, len_txt, ix_0, ix_1, ix_l0, ix_l1, ix_l2, bin_add, bin_sub, set_l0, set_l1, set_l2, live_lst, max_int, min_int, take_set, take_snoc, List.set_set, List.length_set, Vl.o.injEq, eq_self, decide_true, decide_false, Int.reduceLT, Int.reduceEq, Int.cast_ofNat_Int, Nat.zero_add])
    refine ⟨_, me_join1 _ ?_, ?_⟩
    · have := List.length_filter_le (fun c => !decide (c ∈ b)) a
      omega
    · (try simp only [fnW_eq, fnD_nx, fnD_rt, seq_nx, seq_rt, seq_rtF, loop_rtF, seq_bk, seq_ct, loop_nx, loop_rt, loop_bk, loop_ct, wB_cons, wB_nil, wS_asgO, wS_asg, wS_unp, wS_par, wS_parc, wS_sset, wS_sps, wS_exp, wS_ret, wS_retN, wS_ife, wS_pas, wS_brk, wS_cnt, wE, wNs, wAs, wT, wI, wP, norm_d, store_d, vdat_d, norm_new, store_new, norm_newS, store_newS, fin_sh, fin_lst, fresh_lst, walk_d, it_T, it_list, it_tuple, seq_T, seq_list, seq_tuple, seqAll, zipN2, zipN3, bind1, bind2, bind3, wipeS, setAll, seeAll, tru_bool, retv_d, take_all, ex_some,
  List.map_cons, List.map_nil, List.length_cons, List.length_nil, List.cons_append, List.nil_append, List.replicate, List.getElem?_cons_zero, List.getElem?_cons_succ, List.set_cons_zero, List.set_cons_succ, Option.some.injEq, exists_eq_left', exists_eq_left, exists_eq_right, true_and, and_true,
  Nat.reduceAdd, Nat.reduceSub, OO.dat, cmp_in, cmp_notin, exists_and_left, reduceIte, reduceCtorEq, if_true, if_false, Bool.false_eq_true, Vl.d.injEq, PyData.int.injEq, PyData.bool.injEq, PyData.str.injEq, Bool.not_true, Bool.not_false, cmp_lt, cmp_gt, cmp_le, cmp_ge, cmp_eq, cmp_ne, len_tup, len_lst, len_txt, ix_0, ix_1, ix_l0, ix_l1, ix_l2, bin_add, bin_sub, set_l0, set_l1, set_l2, live_lst, max_int, min_int, take_set, take_snoc, List.set_set, List.length_set, Vl.o.injEq, eq_self, decide_true, decide_false, Int.reduceLT, Int.reduceEq, Int.cast_ofNat_Int, Nat.zero_add])
      exact q
theorem out_nil (a b : List Nat) : decide (outL a b = []) = insB a b := by
  unfold outL insB
  rw [Bool.eq_iff_iff]
  simp
def S_inside : FSpec := fun rs oh Q _ => ∃ a b, rs = [.d (T a), .d (T b)] ∧ a.length ≤ 1000 ∧ Q (.d (.bool (insB a b))) oh
theorem w_inside (Γ : Gv) (h1 : Γ.fn "out_of" = some S_out_of) (rs : List Vl) (oh : OH) (Q : QV) (E : QX) (h : S_inside rs oh Q E) : fnW Γ 2 c_inside rs oh Q E := by
  obtain ⟨a, b, rfl, ha, q⟩ := h
  unfold c_inside
  (try simp only [fnW_eq, fnD_nx, fnD_rt, seq_nx, seq_rt, seq_rtF, loop_rtF, seq_bk, seq_ct, loop_nx, loop_rt, loop_bk, loop_ct, wB_cons, wB_nil, wS_asgO, wS_asg, wS_unp, wS_par, wS_parc, wS_sset, wS_sps, wS_exp, wS_ret, wS_retN, wS_ife, wS_pas, wS_brk, wS_cnt, wE, wNs, wAs, wT, wI, wP, norm_d, store_d, vdat_d, norm_new, store_new, norm_newS, store_newS, fin_sh, fin_lst, fresh_lst, walk_d, it_T, it_list, it_tuple, seq_T, seq_list, seq_tuple, seqAll, zipN2, zipN3, bind1, bind2, bind3, wipeS, setAll, seeAll, tru_bool, retv_d, take_all, ex_some,
  List.map_cons, List.map_nil, List.length_cons, List.length_nil, List.cons_append, List.nil_append, List.replicate, List.getElem?_cons_zero, List.getElem?_cons_succ, List.set_cons_zero, List.set_cons_succ, Option.some.injEq, exists_eq_left', exists_eq_left, exists_eq_right, true_and, and_true,
  Nat.reduceAdd, Nat.reduceSub, OO.dat, cmp_in, cmp_notin, exists_and_left, reduceIte, reduceCtorEq, if_true, if_false, Bool.false_eq_true, Vl.d.injEq, PyData.int.injEq, PyData.bool.injEq, PyData.str.injEq, Bool.not_true, Bool.not_false, cmp_lt, cmp_gt, cmp_le, cmp_ge, cmp_eq, cmp_ne, len_tup, len_lst, len_txt, ix_0, ix_1, ix_l0, ix_l1, ix_l2, bin_add, bin_sub, set_l0, set_l1, set_l2, live_lst, max_int, min_int, take_set, take_snoc, List.set_set, List.length_set, Vl.o.injEq, eq_self, decide_true, decide_false, Int.reduceLT, Int.reduceEq, Int.cast_ofNat_Int, Nat.zero_add])
  refine ⟨_, h1, a, b, rfl, ha, ?_⟩
  (try simp only [fnW_eq, fnD_nx, fnD_rt, seq_nx, seq_rt, seq_rtF, loop_rtF, seq_bk, seq_ct, loop_nx, loop_rt, loop_bk, loop_ct, wB_cons, wB_nil, wS_asgO, wS_asg, wS_unp, wS_par, wS_parc, wS_sset, wS_sps, wS_exp, wS_ret, wS_retN, wS_ife, wS_pas, wS_brk, wS_cnt, wE, wNs, wAs, wT, wI, wP, norm_d, store_d, vdat_d, norm_new, store_new, norm_newS, store_newS, fin_sh, fin_lst, fresh_lst, walk_d, it_T, it_list, it_tuple, seq_T, seq_list, seq_tuple, seqAll, zipN2, zipN3, bind1, bind2, bind3, wipeS, setAll, seeAll, tru_bool, retv_d, take_all, ex_some,
  List.map_cons, List.map_nil, List.length_cons, List.length_nil, List.cons_append, List.nil_append, List.replicate, List.getElem?_cons_zero, List.getElem?_cons_succ, List.set_cons_zero, List.set_cons_succ, Option.some.injEq, exists_eq_left', exists_eq_left, exists_eq_right, true_and, and_true,
  Nat.reduceAdd, Nat.reduceSub, OO.dat, cmp_in, cmp_notin, exists_and_left, reduceIte, reduceCtorEq, if_true, if_false, Bool.false_eq_true, Vl.d.injEq, PyData.int.injEq, PyData.bool.injEq, PyData.str.injEq, Bool.not_true, Bool.not_false, cmp_lt, cmp_gt, cmp_le, cmp_ge, cmp_eq, cmp_ne, len_tup, len_lst, len_txt, ix_0, ix_1, ix_l0, ix_l1, ix_l2, bin_add, bin_sub, set_l0, set_l1, set_l2, live_lst, max_int, min_int, take_set, take_snoc, List.set_set, List.length_set, Vl.o.injEq, eq_self, decide_true, decide_false, Int.reduceLT, Int.reduceEq, Int.cast_ofNat_Int, Nat.zero_add, T_nil, eq_T, out_nil])
  exact q
def S_put_to : FSpec := fun rs oh Q _ => ∃ a b, rs = [.d (T a), .d (T b)] ∧ Q (.d (T (putL a b))) oh
theorem w_put_to (Γ : Gv) (hc : Γ.glo "COLUMNS" = some (T cols)) (rs : List Vl) (oh : OH) (Q : QV) (E : QX) (h : S_put_to rs oh Q E) : fnW Γ 3 c_put_to rs oh Q E := by
  obtain ⟨a, b, rfl, q⟩ := h
  unfold c_put_to
  (try simp only [fnW_eq, fnD_nx, fnD_rt, seq_nx, seq_rt, seq_rtF, loop_rtF, seq_bk, seq_ct, loop_nx, loop_rt, loop_bk, loop_ct, wB_cons, wB_nil, wS_asgO, wS_asg, wS_unp, wS_par, wS_parc, wS_sset, wS_sps, wS_exp, wS_ret, wS_retN, wS_ife, wS_pas, wS_brk, wS_cnt, wE, wNs, wAs, wT, wI, wP, norm_d, store_d, vdat_d, norm_new, store_new, norm_newS, store_newS, fin_sh, fin_lst, fresh_lst, walk_d, it_T, it_list, it_tuple, seq_T, seq_list, seq_tuple, seqAll, zipN2, zipN3, bind1, bind2, bind3, wipeS, setAll, seeAll, tru_bool, retv_d, take_all, ex_some,
  List.map_cons, List.map_nil, List.length_cons, List.length_nil, List.cons_append, List.nil_append, List.replicate, List.getElem?_cons_zero, List.getElem?_cons_succ, List.set_cons_zero, List.set_cons_succ, Option.some.injEq, exists_eq_left', exists_eq_left, exists_eq_right, true_and, and_true,
  Nat.reduceAdd, Nat.reduceSub, OO.dat, cmp_in, cmp_notin, exists_and_left, reduceIte, reduceCtorEq, if_true, if_false, Bool.false_eq_true, Vl.d.injEq, PyData.int.injEq, PyData.bool.injEq, PyData.str.injEq, Bool.not_true, Bool.not_false, cmp_lt, cmp_gt, cmp_le, cmp_ge, cmp_eq, cmp_ne, len_tup, len_lst, len_txt, ix_0, ix_1, ix_l0, ix_l1, ix_l2, bin_add, bin_sub, set_l0, set_l1, set_l2, live_lst, max_int, min_int, take_set, take_snoc, List.set_set, List.length_set, Vl.o.injEq, eq_self, decide_true, decide_false, Int.reduceLT, Int.reduceEq, Int.cast_ofNat_Int, Nat.zero_add, hc])
  refine ⟨rfl, lc_fm (fun c => decide (c ∈ a) || decide (c ∈ b)) (fun c => T [c]) trivial (fun c hc k hk => ?_) ?_⟩
  · (try simp only [fnW_eq, fnD_nx, fnD_rt, seq_nx, seq_rt, seq_rtF, loop_rtF, seq_bk, seq_ct, loop_nx, loop_rt, loop_bk, loop_ct, wB_cons, wB_nil, wS_asgO, wS_asg, wS_unp, wS_par, wS_parc, wS_sset, wS_sps, wS_exp, wS_ret, wS_retN, wS_ife, wS_pas, wS_brk, wS_cnt, wE, wNs, wAs, wT, wI, wP, norm_d, store_d, vdat_d, norm_new, store_new, norm_newS, store_newS, fin_sh, fin_lst, fresh_lst, walk_d, it_T, it_list, it_tuple, seq_T, seq_list, seq_tuple, seqAll, zipN2, zipN3, bind1, bind2, bind3, wipeS, setAll, seeAll, tru_bool, retv_d, take_all, ex_some,
  List.map_cons, List.map_nil, List.length_cons, List.length_nil, List.cons_append, List.nil_append, List.replicate, List.getElem?_cons_zero, List.getElem?_cons_succ, List.set_cons_zero, List.set_cons_succ, Option.some.injEq, exists_eq_left', exists_eq_left, exists_eq_right, true_and, and_true,
  Nat.reduceAdd, Nat.reduceSub, OO.dat, cmp_in, cmp_notin, exists_and_left, reduceIte, reduceCtorEq, if_true, if_false, Bool.false_eq_true, Vl.d.injEq, PyData.int.injEq, PyData.bool.injEq, PyData.str.injEq, Bool.not_true, Bool.not_false, cmp_lt, cmp_gt, cmp_le, cmp_ge, cmp_eq, cmp_ne, len_tup, len_lst, len_txt, ix_0, ix_1, ix_l0, ix_l1, ix_l2, bin_add, bin_sub, set_l0, set_l1, set_l2, live_lst, max_int, min_int, take_set, take_snoc, List.set_set, List.length_set, Vl.o.injEq, eq_self, decide_true, decide_false, Int.reduceLT, Int.reduceEq, Int.cast_ofNat_Int, Nat.zero_add])
    by_cases h1 : c ∈ a
    · simp only [h1, decide_true, if_true, Bool.true_or] at hk ⊢
      exact hk
    · simp only [h1, decide_false, Bool.false_or, Bool.false_eq_true, if_false] at hk ⊢
      exact hk
  · (try simp only [fnW_eq, fnD_nx, fnD_rt, seq_nx, seq_rt, seq_rtF, loop_rtF, seq_bk, seq_ct, loop_nx, loop_rt, loop_bk, loop_ct, wB_cons, wB_nil, wS_asgO, wS_asg, wS_unp, wS_par, wS_parc, wS_sset, wS_sps, wS_exp, wS_ret, wS_retN, wS_ife, wS_pas, wS_brk, wS_cnt, wE, wNs, wAs, wT, wI, wP, norm_d, store_d, vdat_d, norm_new, store_new, norm_newS, store_newS, fin_sh, fin_lst, fresh_lst, walk_d, it_T, it_list, it_tuple, seq_T, seq_list, seq_tuple, seqAll, zipN2, zipN3, bind1, bind2, bind3, wipeS, setAll, seeAll, tru_bool, retv_d, take_all, ex_some,
  List.map_cons, List.map_nil, List.length_cons, List.length_nil, List.cons_append, List.nil_append, List.replicate, List.getElem?_cons_zero, List.getElem?_cons_succ, List.set_cons_zero, List.set_cons_succ, Option.some.injEq, exists_eq_left', exists_eq_left, exists_eq_right, true_and, and_true,
  Nat.reduceAdd, Nat.reduceSub, OO.dat, cmp_in, cmp_notin, exists_and_left, reduceIte, reduceCtorEq, if_true, if_false, Bool.false_eq_true, Vl.d.injEq, PyData.int.injEq, PyData.bool.injEq, PyData.str.injEq, Bool.not_true, Bool.not_false, cmp_lt, cmp_gt, cmp_le, cmp_ge, cmp_eq, cmp_ne, len_tup, len_lst, len_txt, ix_0, ix_1, ix_l0, ix_l1, ix_l2, bin_add, bin_sub, set_l0, set_l1, set_l2, live_lst, max_int, min_int, take_set, take_snoc, List.set_set, List.length_set, Vl.o.injEq, eq_self, decide_true, decide_false, Int.reduceLT, Int.reduceEq, Int.cast_ofNat_Int, Nat.zero_add])
    refine ⟨_, me_join1 _ (len_le (m := 0) (filt_len _)), ?_⟩
    (try simp only [fnW_eq, fnD_nx, fnD_rt, seq_nx, seq_rt, seq_rtF, loop_rtF, seq_bk, seq_ct, loop_nx, loop_rt, loop_bk, loop_ct, wB_cons, wB_nil, wS_asgO, wS_asg, wS_unp, wS_par, wS_parc, wS_sset, wS_sps, wS_exp, wS_ret, wS_retN, wS_ife, wS_pas, wS_brk, wS_cnt, wE, wNs, wAs, wT, wI, wP, norm_d, store_d, vdat_d, norm_new, store_new, norm_newS, store_newS, fin_sh, fin_lst, fresh_lst, walk_d, it_T, it_list, it_tuple, seq_T, seq_list, seq_tuple, seqAll, zipN2, zipN3, bind1, bind2, bind3, wipeS, setAll, seeAll, tru_bool, retv_d, take_all, ex_some,
  List.map_cons, List.map_nil, List.length_cons, List.length_nil, List.cons_append, List.nil_append, List.replicate, List.getElem?_cons_zero, List.getElem?_cons_succ, List.set_cons_zero, List.set_cons_succ, Option.some.injEq, exists_eq_left', exists_eq_left, exists_eq_right, true_and, and_true,
  Nat.reduceAdd, Nat.reduceSub, OO.dat, cmp_in, cmp_notin, exists_and_left, reduceIte, reduceCtorEq, if_true, if_false, Bool.false_eq_true, Vl.d.injEq, PyData.int.injEq, PyData.bool.injEq, PyData.str.injEq, Bool.not_true, Bool.not_false, cmp_lt, cmp_gt, cmp_le, cmp_ge, cmp_eq, cmp_ne, len_tup, len_lst, len_txt, ix_0, ix_1, ix_l0, ix_l1, ix_l2, bin_add, bin_sub, set_l0, set_l1, set_l2, live_lst, max_int, min_int, take_set, take_snoc, List.set_set, List.length_set, Vl.o.injEq, eq_self, decide_true, decide_false, Int.reduceLT, Int.reduceEq, Int.cast_ofNat_Int, Nat.zero_add])
    exact q
def S_is_set : FSpec := fun rs oh Q _ => ∃ a, rs = [.d (T a)] ∧ Q (.d (.bool (decide (a = csOf a)))) oh
theorem w_is_set (Γ : Gv) (hc : Γ.glo "COLUMNS" = some (T cols)) (rs : List Vl) (oh : OH) (Q : QV) (E : QX) (h : S_is_set rs oh Q E) : fnW Γ 2 c_is_set rs oh Q E := by
  obtain ⟨a, rfl, q⟩ := h
  unfold c_is_set
  have e1 : isiD .str (T a) = true := rfl
  have e2 : flatDict (T a) = true := rfl
  (try simp only [fnW_eq, fnD_nx, fnD_rt, seq_nx, seq_rt, seq_rtF, loop_rtF, seq_bk, seq_ct, loop_nx, loop_rt, loop_bk, loop_ct, wB_cons, wB_nil, wS_asgO, wS_asg, wS_unp, wS_par, wS_parc, wS_sset, wS_sps, wS_exp, wS_ret, wS_retN, wS_ife, wS_pas, wS_brk, wS_cnt, wE, wNs, wAs, wT, wI, wP, norm_d, store_d, vdat_d, norm_new, store_new, norm_newS, store_newS, fin_sh, fin_lst, fresh_lst, walk_d, it_T, it_list, it_tuple, seq_T, seq_list, seq_tuple, seqAll, zipN2, zipN3, bind1, bind2, bind3, wipeS, setAll, seeAll, tru_bool, retv_d, take_all, ex_some,
  List.map_cons, List.map_nil, List.length_cons, List.length_nil, List.cons_append, List.nil_append, List.replicate, List.getElem?_cons_zero, List.getElem?_cons_succ, List.set_cons_zero, List.set_cons_succ, Option.some.injEq, exists_eq_left', exists_eq_left, exists_eq_right, true_and, and_true,
  Nat.reduceAdd, Nat.reduceSub, OO.dat, cmp_in, cmp_notin, exists_and_left, reduceIte, reduceCtorEq, if_true, if_false, Bool.false_eq_true, Vl.d.injEq, PyData.int.injEq, PyData.bool.injEq, PyData.str.injEq, Bool.not_true, Bool.not_false, cmp_lt, cmp_gt, cmp_le, cmp_ge, cmp_eq, cmp_ne, len_tup, len_lst, len_txt, ix_0, ix_1, ix_l0, ix_l1, ix_l2, bin_add, bin_sub, set_l0, set_l1, set_l2, live_lst, max_int, min_int, take_set, take_snoc, List.set_set, List.length_set, Vl.o.injEq, eq_self, decide_true, decide_false, Int.reduceLT, Int.reduceEq, Int.cast_ofNat_Int, Nat.zero_add, hc, e1, e2])
  refine ⟨rfl, lc_fm (fun c => decide (c ∈ a)) (fun c => T [c]) trivial (fun c hc k hk => ?_) ?_⟩
  · (try simp only [fnW_eq, fnD_nx, fnD_rt, seq_nx, seq_rt, seq_rtF, loop_rtF, seq_bk, seq_ct, loop_nx, loop_rt, loop_bk, loop_ct, wB_cons, wB_nil, wS_asgO, wS_asg, wS_unp, wS_par, wS_parc, wS_sset, wS_sps, wS_exp, wS_ret, wS_retN, wS_ife, wS_pas, wS_brk, wS_cnt, wE, wNs, wAs, wT, wI, wP, norm_d, store_d, vdat_d, norm_new, store_new, norm_newS, store_newS, fin_sh, fin_lst, fresh_lst, walk_d, it_T, it_list, it_tuple, seq_T, seq_list, seq_tuple, seqAll, zipN2, zipN3, bind1, bind2, bind3, wipeS, setAll, seeAll, tru_bool, retv_d, take_all, ex_some,
  List.map_cons, List.map_nil, List.length_cons, List.length_nil, List.cons_append, List.nil_append, List.replicate, List.getElem?_cons_zero, List.getElem?_cons_succ, List.set_cons_zero, List.set_cons_succ, Option.some.injEq, exists_eq_left', exists_eq_left, exists_eq_right, true_and, and_true,
  Nat.reduceAdd, Nat.reduceSub, OO.dat, cmp_in, cmp_notin, exists_and_left, reduceIte, reduceCtorEq, if_true, if_false, Bool.false_eq_true, Vl.d.injEq, PyData.int.injEq, PyData.bool.injEq, PyData.str.injEq, Bool.not_true, Bool.not_false, cmp_lt, cmp_gt, cmp_le, cmp_ge, cmp_eq, cmp_ne, len_tup, len_lst, len_txt, ix_0, ix_1, ix_l0, ix_l1, ix_l2, bin_add, bin_sub, set_l0, set_l1, set_l2, live_lst, max_int, min_int, take_set, take_snoc, List.set_set, List.length_set, Vl.o.injEq, eq_self, decide_true, decide_false, Int.reduceLT, Int.reduceEq, Int.cast_ofNat_Int, Nat.zero_add])
    exact hk
  · (try simp only [fnW_eq, fnD_nx, fnD_rt, seq_nx, seq_rt, seq_rtF, loop_rtF, seq_bk, seq_ct, loop_nx, loop_rt, loop_bk, loop_ct, wB_cons, wB_nil, wS_asgO, wS_asg, wS_unp, wS_par, wS_parc, wS_sset, wS_sps, wS_exp, wS_ret, wS_retN, wS_ife, wS_pas, wS_brk, wS_cnt, wE, wNs, wAs, wT, wI, wP, norm_d, store_d, vdat_d, norm_new, store_new, norm_newS, store_newS, fin_sh, fin_lst, fresh_lst, walk_d, it_T, it_list, it_tuple, seq_T, seq_list, seq_tuple, seqAll, zipN2, zipN3, bind1, bind2, bind3, wipeS, setAll, seeAll, tru_bool, retv_d, take_all, ex_some,
  List.map_cons, List.map_nil, List.length_cons, List.length_nil, List.cons_append, List.nil_append, List.replicate, List.getElem?_cons_zero, List.getElem?_cons_succ, List.set_cons_zero, List.set_cons_succ, Option.some.injEq, exists_eq_left', exists_eq_left, exists_eq_right, true_and, and_true,
  Nat.reduceAdd, Nat.reduceSub, OO.dat, cmp_in, cmp_notin, exists_and_left, reduceIte, reduceCtorEq, if_true, if_false, Bool.false_eq_true, Vl.d.injEq, PyData.int.injEq, PyData.bool.injEq, PyData.str.injEq, Bool.not_true, Bool.not_false, cmp_lt, cmp_gt, cmp_le, cmp_ge, cmp_eq, cmp_ne, len_tup, len_lst, len_txt, ix_0, ix_1, ix_l0, ix_l1, ix_l2, bin_add, bin_sub, set_l0, set_l1, set_l2, live_lst, max_int, min_int, take_set, take_snoc, List.set_set, List.length_set, Vl.o.injEq, eq_self, decide_true, decide_false, Int.reduceLT, Int.reduceEq, Int.cast_ofNat_Int, Nat.zero_add])
    refine ⟨_, me_join1 _ (len_le (m := 0) (filt_len _)), ?_⟩
    (try simp only [fnW_eq, fnD_nx, fnD_rt, seq_nx, seq_rt, seq_rtF, loop_rtF, seq_bk, seq_ct, loop_nx, loop_rt, loop_bk, loop_ct, wB_cons, wB_nil, wS_asgO, wS_asg, wS_unp, wS_par, wS_parc, wS_sset, wS_sps, wS_exp, wS_ret, wS_retN, wS_ife, wS_pas, wS_brk, wS_cnt, wE, wNs, wAs, wT, wI, wP, norm_d, store_d, vdat_d, norm_new, store_new, norm_newS, store_newS, fin_sh, fin_lst, fresh_lst, walk_d, it_T, it_list, it_tuple, seq_T, seq_list, seq_tuple, seqAll, zipN2, zipN3, bind1, bind2, bind3, wipeS, setAll, seeAll, tru_bool, retv_d, take_all, ex_some,
  List.map_cons, List.map_nil, List.length_cons, List.length_nil, List.cons_append, List.nil_append, List.replicate, List.getElem?_cons_zero, List.getElem?_cons_succ, List.set_cons_zero, List.set_cons_succ, Option.some.injEq, exists_eq_left', exists_eq_left, exists_eq_right, true_and, and_true,
  Nat.reduceAdd, Nat.reduceSub, OO.dat, cmp_in, cmp_notin, exists_and_left, reduceIte, reduceCtorEq, if_true, if_false, Bool.false_eq_true, Vl.d.injEq, PyData.int.injEq, PyData.bool.injEq, PyData.str.injEq, Bool.not_true, Bool.not_false, cmp_lt, cmp_gt, cmp_le, cmp_ge, cmp_eq, cmp_ne, len_tup, len_lst, len_txt, ix_0, ix_1, ix_l0, ix_l1, ix_l2, bin_add, bin_sub, set_l0, set_l1, set_l2, live_lst, max_int, min_int, take_set, take_snoc, List.set_set, List.length_set, Vl.o.injEq, eq_self, decide_true, decide_false, Int.reduceLT, Int.reduceEq, Int.cast_ofNat_Int, Nat.zero_add, eq_T])
    exact q
def S_is_head : FSpec := fun rs oh Q _ => ∃ a, rs = [.d (T a)] ∧ Q (.d (.bool (decide (a = csOf a) && !decide (a = [])))) oh
theorem w_is_head (Γ : Gv) (h1 : Γ.fn "is_set" = some S_is_set) (rs : List Vl) (oh : OH) (Q : QV) (E : QX) (h : S_is_head rs oh Q E) : fnW Γ 1 c_is_head rs oh Q E := by
  obtain ⟨a, rfl, q⟩ := h
  unfold c_is_head
  (try simp only [fnW_eq, fnD_nx, fnD_rt, seq_nx, seq_rt, seq_rtF, loop_rtF, seq_bk, seq_ct, loop_nx, loop_rt, loop_bk, loop_ct, wB_cons, wB_nil, wS_asgO, wS_asg, wS_unp, wS_par, wS_parc, wS_sset, wS_sps, wS_exp, wS_ret, wS_retN, wS_ife, wS_pas, wS_brk, wS_cnt, wE, wNs, wAs, wT, wI, wP, norm_d, store_d, vdat_d, norm_new, store_new, norm_newS, store_newS, fin_sh, fin_lst, fresh_lst, walk_d, it_T, it_list, it_tuple, seq_T, seq_list, seq_tuple, seqAll, zipN2, zipN3, bind1, bind2, bind3, wipeS, setAll, seeAll, tru_bool, retv_d, take_all, ex_some,
  List.map_cons, List.map_nil, List.length_cons, List.length_nil, List.cons_append, List.nil_append, List.replicate, List.getElem?_cons_zero, List.getElem?_cons_succ, List.set_cons_zero, List.set_cons_succ, Option.some.injEq, exists_eq_left', exists_eq_left, exists_eq_right, true_and, and_true,
  Nat.reduceAdd, Nat.reduceSub, OO.dat, cmp_in, cmp_notin, exists_and_left, reduceIte, reduceCtorEq, if_true, if_false, Bool.false_eq_true, Vl.d.injEq, PyData.int.injEq, PyData.bool.injEq, PyData.str.injEq, Bool.not_true, Bool.not_false, cmp_lt, cmp_gt, cmp_le, cmp_ge, cmp_eq, cmp_ne, len_tup, len_lst, len_txt, ix_0, ix_1, ix_l0, ix_l1, ix_l2, bin_add, bin_sub, set_l0, set_l1, set_l2, live_lst, max_int, min_int, take_set, take_snoc, List.set_set, List.length_set, Vl.o.injEq, eq_self, decide_true, decide_false, Int.reduceLT, Int.reduceEq, Int.cast_ofNat_Int, Nat.zero_add])
  refine ⟨_, h1, a, rfl, ?_⟩
  by_cases ha : a = csOf a
  · simp only [decide_eq_true ha, Bool.true_and] at q ⊢
    (try simp only [fnW_eq, fnD_nx, fnD_rt, seq_nx, seq_rt, seq_rtF, loop_rtF, seq_bk, seq_ct, loop_nx, loop_rt, loop_bk, loop_ct, wB_cons, wB_nil, wS_asgO, wS_asg, wS_unp, wS_par, wS_parc, wS_sset, wS_sps, wS_exp, wS_ret, wS_retN, wS_ife, wS_pas, wS_brk, wS_cnt, wE, wNs, wAs, wT, wI, wP, norm_d, store_d, vdat_d, norm_new, store_new, norm_newS, store_newS, fin_sh, fin_lst, fresh_lst, walk_d, it_T, it_list, it_tuple, seq_T, seq_list, seq_tuple, seqAll, zipN2, zipN3, bind1, bind2, bind3, wipeS, setAll, seeAll, tru_bool, retv_d, take_all, ex_some,
  List.map_cons, List.map_nil, List.length_cons, List.length_nil, List.cons_append, List.nil_append, List.replicate, List.getElem?_cons_zero, List.getElem?_cons_succ, List.set_cons_zero, List.set_cons_succ, Option.some.injEq, exists_eq_left', exists_eq_left, exists_eq_right, true_and, and_true,
  Nat.reduceAdd, Nat.reduceSub, OO.dat, cmp_in, cmp_notin, exists_and_left, reduceIte, reduceCtorEq, if_true, if_false, Bool.false_eq_true, Vl.d.injEq, PyData.int.injEq, PyData.bool.injEq, PyData.str.injEq, Bool.not_true, Bool.not_false, cmp_lt, cmp_gt, cmp_le, cmp_ge, cmp_eq, cmp_ne, len_tup, len_lst, len_txt, ix_0, ix_1, ix_l0, ix_l1, ix_l2, bin_add, bin_sub, set_l0, set_l1, set_l2, live_lst, max_int, min_int, take_set, take_snoc, List.set_set, List.length_set, Vl.o.injEq, eq_self, decide_true, decide_false, Int.reduceLT, Int.reduceEq, Int.cast_ofNat_Int, Nat.zero_add, T_nil, ne_T])
    exact q
  · simp only [decide_eq_false ha, Bool.false_and] at q ⊢
    (try simp only [fnW_eq, fnD_nx, fnD_rt, seq_nx, seq_rt, seq_rtF, loop_rtF, seq_bk, seq_ct, loop_nx, loop_rt, loop_bk, loop_ct, wB_cons, wB_nil, wS_asgO, wS_asg, wS_unp, wS_par, wS_parc, wS_sset, wS_sps, wS_exp, wS_ret, wS_retN, wS_ife, wS_pas, wS_brk, wS_cnt, wE, wNs, wAs, wT, wI, wP, norm_d, store_d, vdat_d, norm_new, store_new, norm_newS, store_newS, fin_sh, fin_lst, fresh_lst, walk_d, it_T, it_list, it_tuple, seq_T, seq_list, seq_tuple, seqAll, zipN2, zipN3, bind1, bind2, bind3, wipeS, setAll, seeAll, tru_bool, retv_d, take_all, ex_some,
  List.map_cons, List.map_nil, List.length_cons, List.length_nil, List.cons_append, List.nil_append, List.replicate, List.getElem?_cons_zero, List.getElem?_cons_succ, List.set_cons_zero, List.set_cons_succ, Option.some.injEq, exists_eq_left', exists_eq_left, exists_eq_right, true_and, and_true,
  Nat.reduceAdd, Nat.reduceSub, OO.dat, cmp_in, cmp_notin, exists_and_left, reduceIte, reduceCtorEq, if_true, if_false, Bool.false_eq_true, Vl.d.injEq, PyData.int.injEq, PyData.bool.injEq, PyData.str.injEq, Bool.not_true, Bool.not_false, cmp_lt, cmp_gt, cmp_le, cmp_ge, cmp_eq, cmp_ne, len_tup, len_lst, len_txt, ix_0, ix_1, ix_l0, ix_l1, ix_l2, bin_add, bin_sub, set_l0, set_l1, set_l2, live_lst, max_int, min_int, take_set, take_snoc, List.set_set, List.length_set, Vl.o.injEq, eq_self, decide_true, decide_false, Int.reduceLT, Int.reduceEq, Int.cast_ofNat_Int, Nat.zero_add])
    exact q
end Kd

namespace Kd
open PySem PySem.Spec PyProof.Rows L2
abbrev Hn := List Nat × List Nat
def hp (p : Hn) : D := .tuple [T p.1, T p.2]
def HG (h : List Hn) : D := .tuple (h.map hp)
def BK (hd : List Nat) (h : List Hn) : D := .tuple [T hd, HG h]
def ltP (a b : Hn) : Bool := PySem.W.dataLt (hp a) (hp b)
def risB (h : List Hn) : Bool := (h.zip h.tail).all fun q => ltP q.1 q.2
theorem all_map {α : Type} (l : List α) (f : α → Bool) : biD .all [.list (l.map fun x => .bool (f x))] = some (.sh (.bool (l.all f))) := by
  have e : boolsOf (l.map fun x => (.bool (f x) : D)) = some (l.map f) := by
    induction l with
    | nil => rfl
    | cons x l ih => simp [boolsOf, ih]
  simp only [biD, one, biAll, e, Option.map_some]
  simp [List.all_map]
theorem lt_hp (a b : Hn) : cmpD .Lt (hp a) (hp b) = some (ltP a b) := by
  have c : canLt (hp a) (hp b) = true := by
    simp [canLt, hp, T, flatDict, flatDictAll, notNone, PyData.depth, PyData.depthAll, PySem.W.alike, PySem.W.alikeAll]
  simp only [cmpD, c, if_true]
  rfl
theorem zip_tail {α : Type} (g : α → D) : ∀ (l : List α), zip2 (l.map g) ((l.map g).drop 1) = (l.zip l.tail).map fun q => .tuple [g q.1, g q.2]
  | [] => rfl
  | [x] => rfl
  | x :: y :: l => by
    have ih := zip_tail g (y :: l)
    simp only [List.map_cons, List.drop_succ_cons, List.drop_zero, List.tail_cons, List.zip_cons_cons, zip2] at ih ⊢
    rw [ih]
def risG {α : Type} (lt : α → α → Bool) (l : List α) : Bool := (l.zip l.tail).all fun q => lt q.1 q.2
def S_is_rising : FSpec := fun rs oh Q _ => ∃ (α : Type) (g : α → D) (lt : α → α → Bool) (l : List α), rs = [.d (.tuple (l.map g))] ∧ (∀ a ∈ l, ∀ b ∈ l, cmpD .Lt (g a) (g b) = some (lt a b)) ∧ Q (.d (.bool (risG lt l))) oh
theorem w_is_rising (Γ : Gv) (rs : List Vl) (oh : OH) (Q : QV) (E : QX) (h : S_is_rising rs oh Q E) : fnW Γ 3 c_is_rising rs oh Q E := by
  obtain ⟨α, g, lt, l, rfl, hl, q⟩ := h
  unfold c_is_rising
  have e : slD (.tuple (l.map g)) (some 1) none = some (.sh (.tuple ((l.map g).drop 1))) := by
    simp only [slD, cut_1]
  (try simp only [fnW_eq, fnD_nx, fnD_rt, seq_nx, seq_rt, seq_rtF, loop_rtF, seq_bk, seq_ct, loop_nx, loop_rt, loop_bk, loop_ct, wB_cons, wB_nil, wS_asgO, wS_asg, wS_unp, wS_par, wS_parc, wS_sset, wS_sps, wS_exp, wS_ret, wS_retN, wS_ife, wS_pas, wS_brk, wS_cnt, wE, wNs, wAs, wT, wI, wP, norm_d, store_d, vdat_d, norm_new, store_new, norm_newS, store_newS, fin_sh, fin_lst, fresh_lst, walk_d, it_T, it_list, it_tuple, seq_T, seq_list, seq_tuple, seqAll, zipN2, zipN3, bind1, bind2, bind3, wipeS, setAll, seeAll, tru_bool, retv_d, take_all, ex_some,
  List.map_cons, List.map_nil, List.length_cons, List.length_nil, List.cons_append, List.nil_append, List.replicate, List.getElem?_cons_zero, List.getElem?_cons_succ, List.set_cons_zero, List.set_cons_succ, Option.some.injEq, exists_eq_left', exists_eq_left, exists_eq_right, true_and, and_true,
  Nat.reduceAdd, Nat.reduceSub, OO.dat, cmp_in, cmp_notin, exists_and_left, reduceIte, reduceCtorEq, if_true, if_false, Bool.false_eq_true, Vl.d.injEq, PyData.int.injEq, PyData.bool.injEq, PyData.str.injEq, Bool.not_true, Bool.not_false, cmp_lt, cmp_gt, cmp_le, cmp_ge, cmp_eq, cmp_ne, len_tup, len_lst, len_txt, ix_0, ix_1, ix_l0, ix_l1, ix_l2, bin_add, bin_sub, set_l0, set_l1, set_l2, live_lst, max_int, min_int, take_set, take_snoc, List.set_set, List.length_set, Vl.o.injEq, eq_self, decide_true, decide_false, Int.reduceLT, Int.reduceEq, Int.cast_ofNat_Int, Nat.zero_add, e, zip_tail])
  refine lc_map (fun q => .bool (lt q.1 q.2)) ⟨trivial, trivial, trivial⟩ (fun c hc k hk => ?_) ?_
  · obtain ⟨m1, m2⟩ := List.of_mem_zip hc
    (try simp only [fnW_eq, fnD_nx, fnD_rt, seq_nx, seq_rt, seq_rtF, loop_rtF, seq_bk, seq_ct, loop_nx, loop_rt, loop_bk, loop_ct, wB_cons, wB_nil, wS_asgO, wS_asg, wS_unp, wS_par, wS_parc, wS_sset, wS_sps, wS_exp, wS_ret, wS_retN, wS_ife, wS_pas, wS_brk, wS_cnt, wE, wNs, wAs, wT, wI, wP, norm_d, store_d, vdat_d, norm_new, store_new, norm_newS, store_newS, fin_sh, fin_lst, fresh_lst, walk_d, it_T, it_list, it_tuple, seq_T, seq_list, seq_tuple, seqAll, zipN2, zipN3, bind1, bind2, bind3, wipeS, setAll, seeAll, tru_bool, retv_d, take_all, ex_some,
  List.map_cons, List.map_nil, List.length_cons, List.length_nil, List.cons_append, List.nil_append, List.replicate, List.getElem?_cons_zero, List.getElem?_cons_succ, List.set_cons_zero, List.set_cons_succ, Option.some.injEq, exists_eq_left', exists_eq_left, exists_eq_right, true_and, and_true,
  Nat.reduceAdd, Nat.reduceSub, OO.dat, cmp_in, cmp_notin, exists_and_left, reduceIte, reduceCtorEq, if_true, if_false, Bool.false_eq_true, Vl.d.injEq, PyData.int.injEq, PyData.bool.injEq, PyData.str.injEq, Bool.not_true, Bool.not_false, cmp_lt, cmp_gt, cmp_le, cmp_ge, cmp_eq, cmp_ne, len_tup, len_lst, len_txt, ix_0, ix_1, ix_l0, ix_l1, ix_l2, bin_add, bin_sub, set_l0, set_l1, set_l2, live_lst, max_int, min_int, take_set, take_snoc, List.set_set, List.length_set, Vl.o.injEq, eq_self, decide_true, decide_false, Int.reduceLT, Int.reduceEq, Int.cast_ofNat_Int, Nat.zero_add, hl c.1 m1 c.2 (List.mem_of_mem_tail m2)])
    exact hk
  · (try simp only [fnW_eq, fnD_nx, fnD_rt, seq_nx, seq_rt, seq_rtF, loop_rtF, seq_bk, seq_ct, loop_nx, loop_rt, loop_bk, loop_ct, wB_cons, wB_nil, wS_asgO, wS_asg, wS_unp, wS_par, wS_parc, wS_sset, wS_sps, wS_exp, wS_ret, wS_retN, wS_ife, wS_pas, wS_brk, wS_cnt, wE, wNs, wAs, wT, wI, wP, norm_d, store_d, vdat_d, norm_new, store_new, norm_newS, store_newS, fin_sh, fin_lst, fresh_lst, walk_d, it_T, it_list, it_tuple, seq_T, seq_list, seq_tuple, seqAll, zipN2, zipN3, bind1, bind2, bind3, wipeS, setAll, seeAll, tru_bool, retv_d, take_all, ex_some,
  List.map_cons, List.map_nil, List.length_cons, List.length_nil, List.cons_append, List.nil_append, List.replicate, List.getElem?_cons_zero, List.getElem?_cons_succ, List.set_cons_zero, List.set_cons_succ, Option.some.injEq, exists_eq_left', exists_eq_left, exists_eq_right, true_and, and_true,
  Nat.reduceAdd, Nat.reduceSub, OO.dat, cmp_in, cmp_notin, exists_and_left, reduceIte, reduceCtorEq, if_true, if_false, Bool.false_eq_true, Vl.d.injEq, PyData.int.injEq, PyData.bool.injEq, PyData.str.injEq, Bool.not_true, Bool.not_false, cmp_lt, cmp_gt, cmp_le, cmp_ge, cmp_eq, cmp_ne, len_tup, len_lst, len_txt, ix_0, ix_1, ix_l0, ix_l1, ix_l2, bin_add, bin_sub, set_l0, set_l1, set_l2, live_lst, max_int, min_int, take_set, take_snoc, List.set_set, List.length_set, Vl.o.injEq, eq_self, decide_true, decide_false, Int.reduceLT, Int.reduceEq, Int.cast_ofNat_Int, Nat.zero_add, all_map])
    exact q
theorem ris_hp (h : List Hn) : risG ltP h = risB h := rfl
def okH (hd : List Nat) (p : Hn) : Bool := [p.1, p.2].all fun x => decide (x = csOf x) && insB x hd
def S_hangs : FSpec := fun rs oh Q _ => ∃ (hd : List Nat) (p : Hn), rs = [.d (T hd), .d (hp p)] ∧ p.1.length ≤ 1000 ∧ p.2.length ≤ 1000 ∧ Q (.d (.bool (okH hd p))) oh
theorem w_hangs (Γ : Gv) (h1 : Γ.fn "is_set" = some S_is_set) (h2 : Γ.fn "inside" = some S_inside) (rs : List Vl) (oh : OH) (Q : QV) (E : QX) (h : S_hangs rs oh Q E) : fnW Γ 3 c_hangs rs oh Q E := by
  obtain ⟨hd, p, rfl, l1, l2, q⟩ := h
  have e1 : isiD .tuple (hp p) = true := rfl
  have e2 : flatDict (hp p) = true := rfl
  have e3 : biD .len [hp p] = some (.sh (.int 2)) := rfl
  have e4 : cmpD .NotEq (.int 2) (.int 2) = some false := by decide
  have e5 : itemsD (hp p) = some ([p.1, p.2].map T) := rfl
  (try simp only [fnW_eq, fnD_nx, fnD_rt, seq_nx, seq_rt, seq_rtF, loop_rtF, seq_bk, seq_ct, loop_nx, loop_rt, loop_bk, loop_ct, wB_cons, wB_nil, wS_asgO, wS_asg, wS_unp, wS_par, wS_parc, wS_sset, wS_sps, wS_exp, wS_ret, wS_retN, wS_ife, wS_pas, wS_brk, wS_cnt, wE, wNs, wAs, wT, wI, wP, norm_d, store_d, vdat_d, norm_new, store_new, norm_newS, store_newS, fin_sh, fin_lst, fresh_lst, walk_d, it_T, it_list, it_tuple, seq_T, seq_list, seq_tuple, seqAll, zipN2, zipN3, bind1, bind2, bind3, wipeS, setAll, seeAll, tru_bool, retv_d, take_all, ex_some,
  List.map_cons, List.map_nil, List.length_cons, List.length_nil, List.cons_append, List.nil_append, List.replicate, List.getElem?_cons_zero, List.getElem?_cons_succ, List.set_cons_zero, List.set_cons_succ, Option.some.injEq, exists_eq_left', exists_eq_left, exists_eq_right, true_and, and_true,
  Nat.reduceAdd, Nat.reduceSub, OO.dat, cmp_in, cmp_notin, exists_and_left, reduceIte, reduceCtorEq, if_true, if_false, Bool.false_eq_true, Vl.d.injEq, PyData.int.injEq, PyData.bool.injEq, PyData.str.injEq, Bool.not_true, Bool.not_false, cmp_lt, cmp_gt, cmp_le, cmp_ge, cmp_eq, cmp_ne, len_tup, len_lst, len_txt, ix_0, ix_1, ix_l0, ix_l1, ix_l2, bin_add, bin_sub, set_l0, set_l1, set_l2, live_lst, max_int, min_int, take_set, take_snoc, List.set_set, List.length_set, Vl.o.injEq, eq_self, decide_true, decide_false, Int.reduceLT, Int.reduceEq, Int.cast_ofNat_Int, Nat.zero_add, c_hangs, e1, e2, e3])
  (try simp only [fnW_eq, fnD_nx, fnD_rt, seq_nx, seq_rt, seq_rtF, loop_rtF, seq_bk, seq_ct, loop_nx, loop_rt, loop_bk, loop_ct, wB_cons, wB_nil, wS_asgO, wS_asg, wS_unp, wS_par, wS_parc, wS_sset, wS_sps, wS_exp, wS_ret, wS_retN, wS_ife, wS_pas, wS_brk, wS_cnt, wE, wNs, wAs, wT, wI, wP, norm_d, store_d, vdat_d, norm_new, store_new, norm_newS, store_newS, fin_sh, fin_lst, fresh_lst, walk_d, it_T, it_list, it_tuple, seq_T, seq_list, seq_tuple, seqAll, zipN2, zipN3, bind1, bind2, bind3, wipeS, setAll, seeAll, tru_bool, retv_d, take_all, ex_some,
  List.map_cons, List.map_nil, List.length_cons, List.length_nil, List.cons_append, List.nil_append, List.replicate, List.getElem?_cons_zero, List.getElem?_cons_succ, List.set_cons_zero, List.set_cons_succ, Option.some.injEq, exists_eq_left', exists_eq_left, exists_eq_right, true_and, and_true,
  Nat.reduceAdd, Nat.reduceSub, OO.dat, cmp_in, cmp_notin, exists_and_left, reduceIte, reduceCtorEq, if_true, if_false, Bool.false_eq_true, Vl.d.injEq, PyData.int.injEq, PyData.bool.injEq, PyData.str.injEq, Bool.not_true, Bool.not_false, cmp_lt, cmp_gt, cmp_le, cmp_ge, cmp_eq, cmp_ne, len_tup, len_lst, len_txt, ix_0, ix_1, ix_l0, ix_l1, ix_l2, bin_add, bin_sub, set_l0, set_l1, set_l2, live_lst, max_int, min_int, take_set, take_snoc, List.set_set, List.length_set, Vl.o.injEq, eq_self, decide_true, decide_false, Int.reduceLT, Int.reduceEq, Int.cast_ofNat_Int, Nat.zero_add, c_hangs_1, e5])
  refine lc_map (l := [p.1, p.2]) (g := T) (fun x => .bool (decide (x = csOf x) && insB x hd)) trivial (fun x hx k hk => ?_) ?_
  · have lx : x.length ≤ 1000 := by
      simp at hx
      rcases hx with rfl | rfl <;> assumption
    (try simp only [fnW_eq, fnD_nx, fnD_rt, seq_nx, seq_rt, seq_rtF, loop_rtF, seq_bk, seq_ct, loop_nx, loop_rt, loop_bk, loop_ct, wB_cons, wB_nil, wS_asgO, wS_asg, wS_unp, wS_par, wS_parc, wS_sset, wS_sps, wS_exp, wS_ret, wS_retN, wS_ife, wS_pas, wS_brk, wS_cnt, wE, wNs, wAs, wT, wI, wP, norm_d, store_d, vdat_d, norm_new, store_new, norm_newS, store_newS, fin_sh, fin_lst, fresh_lst, walk_d, it_T, it_list, it_tuple, seq_T, seq_list, seq_tuple, seqAll, zipN2, zipN3, bind1, bind2, bind3, wipeS, setAll, seeAll, tru_bool, retv_d, take_all, ex_some,
  List.map_cons, List.map_nil, List.length_cons, List.length_nil, List.cons_append, List.nil_append, List.replicate, List.getElem?_cons_zero, List.getElem?_cons_succ, List.set_cons_zero, List.set_cons_succ, Option.some.injEq, exists_eq_left', exists_eq_left, exists_eq_right, true_and, and_true,
  Nat.reduceAdd, Nat.reduceSub, OO.dat, cmp_in, cmp_notin, exists_and_left, reduceIte, reduceCtorEq, if_true, if_false, Bool.false_eq_true, Vl.d.injEq, PyData.int.injEq, PyData.bool.injEq, PyData.str.injEq, Bool.not_true, Bool.not_false, cmp_lt, cmp_gt, cmp_le, cmp_ge, cmp_eq, cmp_ne, len_tup, len_lst, len_txt, ix_0, ix_1, ix_l0, ix_l1, ix_l2, bin_add, bin_sub, set_l0, set_l1, set_l2, live_lst, max_int, min_int, take_set, take_snoc, List.set_set, List.length_set, Vl.o.injEq, eq_self, decide_true, decide_false, Int.reduceLT, Int.reduceEq, Int.cast_ofNat_Int, Nat.zero_add])
    refine ⟨_, h1, x, rfl, ?_⟩
    by_cases hc : x = csOf x
    · simp only [decide_eq_true hc, Bool.true_and] at hk ⊢
      (try simp only [fnW_eq, fnD_nx, fnD_rt, seq_nx, seq_rt, seq_rtF, loop_rtF, seq_bk, seq_ct, loop_nx, loop_rt, loop_bk, loop_ct, wB_cons, wB_nil, wS_asgO, wS_asg, wS_unp, wS_par, wS_parc, wS_sset, wS_sps, wS_exp, wS_ret, wS_retN, wS_ife, wS_pas, wS_brk, wS_cnt, wE, wNs, wAs, wT, wI, wP, norm_d, store_d, vdat_d, norm_new, store_new, norm_newS, store_newS, fin_sh, fin_lst, fresh_lst, walk_d, it_T, it_list, it_tuple, seq_T, seq_list, seq_tuple, seqAll, zipN2, zipN3, bind1, bind2, bind3, wipeS, setAll, seeAll, tru_bool, retv_d, take_all, ex_some,
  List.map_cons, List.map_nil, List.length_cons, List.length_nil, List.cons_append, List.nil_append, List.replicate, List.getElem?_cons_zero, List.getElem?_cons_succ, List.set_cons_zero, List.set_cons_succ, Option.some.injEq, exists_eq_left', exists_eq_left, exists_eq_right, true_and, and_true,
  Nat.reduceAdd, Nat.reduceSub, OO.dat, cmp_in, cmp_notin, exists_and_left, reduceIte, reduceCtorEq, if_true, if_false, Bool.false_eq_true, Vl.d.injEq, PyData.int.injEq, PyData.bool.injEq, PyData.str.injEq, Bool.not_true, Bool.not_false, cmp_lt, cmp_gt, cmp_le, cmp_ge, cmp_eq, cmp_ne, len_tup, len_lst, len_txt, ix_0, ix_1, ix_l0, ix_l1, ix_l2, bin_add, bin_sub, set_l0, set_l1, set_l2, live_lst, max_int, min_int, take_set, take_snoc, List.set_set, List.length_set, Vl.o.injEq, eq_self, decide_true, decide_false, Int.reduceLT, Int.reduceEq, Int.cast_ofNat_Int, Nat.zero_add])
      exact ⟨_, h2, x, hd, rfl, lx, by (try simp only [fnW_eq, fnD_nx, fnD_rt, seq_nx, seq_rt, seq_rtF, loop_rtF, seq_bk, seq_ct, loop_nx, loop_rt, loop_bk, loop_ct, wB_cons, wB_nil, wS_asgO, wS_asg, wS_unp, wS_par, wS_parc, wS_sset, wS_sps, wS_exp, wS_ret, wS_retN, wS_ife, wS_pas, wS_brk, wS_cnt, wE, wNs, wAs, wT, wI, wP, norm_d, store_d, vdat_d, norm_new, store_new, norm_newS, store_newS, fin_sh, fin_lst, fresh_lst, walk_d, it_T, it_list, it_tuple, seq_T, seq_list, seq_tuple, seqAll, zipN2, zipN3, bind1, bind2, bind3, wipeS, setAll, seeAll, tru_bool, retv_d, take_all, ex_some,
  List.map_cons, List.map_nil, List.length_cons, List.length_nil, List.cons_append, List.nil_append, List.replicate, List.getElem?_cons_zero, List.getElem?_cons_succ, List.set_cons_zero, List.set_cons_succ, Option.some.injEq, exists_eq_left', exists_eq_left, exists_eq_right, true_and, and_true,
  Nat.reduceAdd, Nat.reduceSub, OO.dat, cmp_in, cmp_notin, exists_and_left, reduceIte, reduceCtorEq, if_true, if_false, Bool.false_eq_true, Vl.d.injEq, PyData.int.injEq, PyData.bool.injEq, PyData.str.injEq, Bool.not_true, Bool.not_false, cmp_lt, cmp_gt, cmp_le, cmp_ge, cmp_eq, cmp_ne, len_tup, len_lst, len_txt, ix_0, ix_1, ix_l0, ix_l1, ix_l2, bin_add, bin_sub, set_l0, set_l1, set_l2, live_lst, max_int, min_int, take_set, take_snoc, List.set_set, List.length_set, Vl.o.injEq, eq_self, decide_true, decide_false, Int.reduceLT, Int.reduceEq, Int.cast_ofNat_Int, Nat.zero_add]); exact hk⟩
    · simp only [decide_eq_false hc, Bool.false_and] at hk ⊢
      (try simp only [fnW_eq, fnD_nx, fnD_rt, seq_nx, seq_rt, seq_rtF, loop_rtF, seq_bk, seq_ct, loop_nx, loop_rt, loop_bk, loop_ct, wB_cons, wB_nil, wS_asgO, wS_asg, wS_unp, wS_par, wS_parc, wS_sset, wS_sps, wS_exp, wS_ret, wS_retN, wS_ife, wS_pas, wS_brk, wS_cnt, wE, wNs, wAs, wT, wI, wP, norm_d, store_d, vdat_d, norm_new, store_new, norm_newS, store_newS, fin_sh, fin_lst, fresh_lst, walk_d, it_T, it_list, it_tuple, seq_T, seq_list, seq_tuple, seqAll, zipN2, zipN3, bind1, bind2, bind3, wipeS, setAll, seeAll, tru_bool, retv_d, take_all, ex_some,
  List.map_cons, List.map_nil, List.length_cons, List.length_nil, List.cons_append, List.nil_append, List.replicate, List.getElem?_cons_zero, List.getElem?_cons_succ, List.set_cons_zero, List.set_cons_succ, Option.some.injEq, exists_eq_left', exists_eq_left, exists_eq_right, true_and, and_true,
  Nat.reduceAdd, Nat.reduceSub, OO.dat, cmp_in, cmp_notin, exists_and_left, reduceIte, reduceCtorEq, if_true, if_false, Bool.false_eq_true, Vl.d.injEq, PyData.int.injEq, PyData.bool.injEq, PyData.str.injEq, Bool.not_true, Bool.not_false, cmp_lt, cmp_gt, cmp_le, cmp_ge, cmp_eq, cmp_ne, len_tup, len_lst, len_txt, ix_0, ix_1, ix_l0, ix_l1, ix_l2, bin_add, bin_sub, set_l0, set_l1, set_l2, live_lst, max_int, min_int, take_set, take_snoc, List.set_set, List.length_set, Vl.o.injEq, eq_self, decide_true, decide_false, Int.reduceLT, Int.reduceEq, Int.cast_ofNat_Int, Nat.zero_add])
      exact hk
  · (try simp only [fnW_eq, fnD_nx, fnD_rt, seq_nx, seq_rt, seq_rtF, loop_rtF, seq_bk, seq_ct, loop_nx, loop_rt, loop_bk, loop_ct, wB_cons, wB_nil, wS_asgO, wS_asg, wS_unp, wS_par, wS_parc, wS_sset, wS_sps, wS_exp, wS_ret, wS_retN, wS_ife, wS_pas, wS_brk, wS_cnt, wE, wNs, wAs, wT, wI, wP, norm_d, store_d, vdat_d, norm_new, store_new, norm_newS, store_newS, fin_sh, fin_lst, fresh_lst, walk_d, it_T, it_list, it_tuple, seq_T, seq_list, seq_tuple, seqAll, zipN2, zipN3, bind1, bind2, bind3, wipeS, setAll, seeAll, tru_bool, retv_d, take_all, ex_some,
  List.map_cons, List.map_nil, List.length_cons, List.length_nil, List.cons_append, List.nil_append, List.replicate, List.getElem?_cons_zero, List.getElem?_cons_succ, List.set_cons_zero, List.set_cons_succ, Option.some.injEq, exists_eq_left', exists_eq_left, exists_eq_right, true_and, and_true,
  Nat.reduceAdd, Nat.reduceSub, OO.dat, cmp_in, cmp_notin, exists_and_left, reduceIte, reduceCtorEq, if_true, if_false, Bool.false_eq_true, Vl.d.injEq, PyData.int.injEq, PyData.bool.injEq, PyData.str.injEq, Bool.not_true, Bool.not_false, cmp_lt, cmp_gt, cmp_le, cmp_ge, cmp_eq, cmp_ne, len_tup, len_lst, len_txt, ix_0, ix_1, ix_l0, ix_l1, ix_l2, bin_add, bin_sub, set_l0, set_l1, set_l2, live_lst, max_int, min_int, take_set, take_snoc, List.set_set, List.length_set, Vl.o.injEq, eq_self, decide_true, decide_false, Int.reduceLT, Int.reduceEq, Int.cast_ofNat_Int, Nat.zero_add])
    exact ⟨_, all_map [p.1, p.2] (fun x => decide (x = csOf x) && insB x hd), by (try simp only [fnW_eq, fnD_nx, fnD_rt, seq_nx, seq_rt, seq_rtF, loop_rtF, seq_bk, seq_ct, loop_nx, loop_rt, loop_bk, loop_ct, wB_cons, wB_nil, wS_asgO, wS_asg, wS_unp, wS_par, wS_parc, wS_sset, wS_sps, wS_exp, wS_ret, wS_retN, wS_ife, wS_pas, wS_brk, wS_cnt, wE, wNs, wAs, wT, wI, wP, norm_d, store_d, vdat_d, norm_new, store_new, norm_newS, store_newS, fin_sh, fin_lst, fresh_lst, walk_d, it_T, it_list, it_tuple, seq_T, seq_list, seq_tuple, seqAll, zipN2, zipN3, bind1, bind2, bind3, wipeS, setAll, seeAll, tru_bool, retv_d, take_all, ex_some,
  List.map_cons, List.map_nil, List.length_cons, List.length_nil, List.cons_append, List.nil_append, List.replicate, List.getElem?_cons_zero, List.getElem?_cons_succ, List.set_cons_zero, List.set_cons_succ, Option.some.injEq, exists_eq_left', exists_eq_left, exists_eq_right, true_and, and_true,
  Nat.reduceAdd, Nat.reduceSub, OO.dat, cmp_in, cmp_notin, exists_and_left, reduceIte, reduceCtorEq, if_true, if_false, Bool.false_eq_true, Vl.d.injEq, PyData.int.injEq, PyData.bool.injEq, PyData.str.injEq, Bool.not_true, Bool.not_false, cmp_lt, cmp_gt, cmp_le, cmp_ge, cmp_eq, cmp_ne, len_tup, len_lst, len_txt, ix_0, ix_1, ix_l0, ix_l1, ix_l2, bin_add, bin_sub, set_l0, set_l1, set_l2, live_lst, max_int, min_int, take_set, take_snoc, List.set_set, List.length_set, Vl.o.injEq, eq_self, decide_true, decide_false, Int.reduceLT, Int.reduceEq, Int.cast_ofNat_Int, Nat.zero_add]); exact q⟩
end Kd

namespace Kd
open PySem PySem.Spec PyProof.Rows L2
structure BookOk (hd : List Nat) (h : List Hn) : Prop where
  cs : IsCS hd
  ne : hd ≠ []
  few : h.length ≤ 12
  each : ∀ p ∈ h, okH hd p = true
  ris : risB h = true
theorem okH_parts {hd : List Nat} {p : Hn} (h : okH hd p = true) : (IsCS p.1 ∧ insB p.1 hd = true) ∧ (IsCS p.2 ∧ insB p.2 hd = true) := by
  simp only [okH, List.all_cons, List.all_nil, Bool.and_true, Bool.and_eq_true, decide_eq_true_eq] at h
  exact ⟨⟨h.1.1.symm, h.1.2⟩, ⟨h.2.1.symm, h.2.2⟩⟩
theorem flat_HG (h : List Hn) : flatDict (HG h) = true := by
  simp only [HG, flatDict]
  induction h with
  | nil => rfl
  | cons p h ih => simp [flatDictAll, ih, hp, T, flatDict]
def S_is_book : FSpec := fun rs oh Q _ => ∃ hd h, rs = [.d (BK hd h)] ∧ BookOk hd h ∧ Q (.d (.bool true)) oh
theorem w_is_book (Γ : Gv) (hm : Γ.glo "MOST_HANGINGS" = some (.int 12)) (h1 : Γ.fn "is_head" = some S_is_head) (h2 : Γ.fn "hangs" = some S_hangs) (h3 : Γ.fn "is_rising" = some S_is_rising)
    (rs : List Vl) (oh : OH) (Q : QV) (E : QX) (h : S_is_book rs oh Q E) : fnW Γ 4 c_is_book rs oh Q E := by
  obtain ⟨hd, h, rfl, ok, q⟩ := h
  unfold BK
  have e1 : isiD .tuple (.tuple [T hd, HG h]) = true := rfl
  have e2 : flatDict (.tuple [T hd, HG h]) = true := by simp [flatDict, flatDictAll, flat_HG, T]
  have e3 : isiD .tuple (HG h) = true := rfl
  have e4 := flat_HG h
  have e5 : biD .len [HG h] = some (.sh (.int (h.length : Nat))) := by simp [HG, len_tup]
  have e6 : decide ((12 : Int) < ((h.length : Nat) : Int)) = false := by have := ok.few; simp; omega
  have e7 : itemsD (HG h) = some (h.map hp) := rfl
  have e8 : decide (hd = csOf hd) = true := decide_eq_true ok.cs.symm
  have e9 : decide (hd = []) = false := decide_eq_false ok.ne
  (try simp only [fnW_eq, fnD_nx, fnD_rt, seq_nx, seq_rt, seq_rtF, loop_rtF, seq_bk, seq_ct, loop_nx, loop_rt, loop_bk, loop_ct, wB_cons, wB_nil, wS_asgO, wS_asg, wS_unp, wS_par, wS_parc, wS_sset, wS_sps, wS_exp, wS_ret, wS_retN, wS_ife, wS_pas, wS_brk, wS_cnt, wE, wNs, wAs, wT, wI, wP, norm_d, store_d, vdat_d, norm_new, store_new, norm_newS, store_newS, fin_sh, fin_lst, fresh_lst, walk_d, it_T, it_list, it_tuple, seq_T, seq_list, seq_tuple, seqAll, zipN2, zipN3, bind1, bind2, bind3, wipeS, setAll, seeAll, tru_bool, retv_d, take_all, ex_some,
  List.map_cons, List.map_nil, List.length_cons, List.length_nil, List.cons_append, List.nil_append, List.replicate, List.getElem?_cons_zero, List.getElem?_cons_succ, List.set_cons_zero, List.set_cons_succ, Option.some.injEq, exists_eq_left', exists_eq_left, exists_eq_right, true_and, and_true,
  Nat.reduceAdd, Nat.reduceSub, OO.dat, cmp_in, cmp_notin, exists_and_left, reduceIte, reduceCtorEq, if_true, if_false, Bool.false_eq_true, Vl.d.injEq, PyData.int.injEq, PyData.bool.injEq, PyData.str.injEq, Bool.not_true, Bool.not_false, cmp_lt, cmp_gt, cmp_le, cmp_ge, cmp_eq, cmp_ne, len_tup, len_lst, len_txt, ix_0, ix_1, ix_l0, ix_l1, ix_l2, bin_add, bin_sub, set_l0, set_l1, set_l2, live_lst, max_int, min_int, take_set, take_snoc, List.set_set, List.length_set, Vl.o.injEq, eq_self, decide_true, decide_false, Int.reduceLT, Int.reduceEq, Int.cast_ofNat_Int, Nat.zero_add, c_is_book, e1, e2])
  refine ⟨_, h1, hd, rfl, ?_⟩
  rw [e8, e9]
  (try simp only [fnW_eq, fnD_nx, fnD_rt, seq_nx, seq_rt, seq_rtF, loop_rtF, seq_bk, seq_ct, loop_nx, loop_rt, loop_bk, loop_ct, wB_cons, wB_nil, wS_asgO, wS_asg, wS_unp, wS_par, wS_parc, wS_sset, wS_sps, wS_exp, wS_ret, wS_retN, wS_ife, wS_pas, wS_brk, wS_cnt, wE, wNs, wAs, wT, wI, wP, norm_d, store_d, vdat_d, norm_new, store_new, norm_newS, store_newS, fin_sh, fin_lst, fresh_lst, walk_d, it_T, it_list, it_tuple, seq_T, seq_list, seq_tuple, seqAll, zipN2, zipN3, bind1, bind2, bind3, wipeS, setAll, seeAll, tru_bool, retv_d, take_all, ex_some,
  List.map_cons, List.map_nil, List.length_cons, List.length_nil, List.cons_append, List.nil_append, List.replicate, List.getElem?_cons_zero, List.getElem?_cons_succ, List.set_cons_zero, List.set_cons_succ, Option.some.injEq, exists_eq_left', exists_eq_left, exists_eq_right, true_and, and_true,
  Nat.reduceAdd, Nat.reduceSub, OO.dat, cmp_in, cmp_notin, exists_and_left, reduceIte, reduceCtorEq, if_true, if_false, Bool.false_eq_true, Vl.d.injEq, PyData.int.injEq, PyData.bool.injEq, PyData.str.injEq, Bool.not_true, Bool.not_false, cmp_lt, cmp_gt, cmp_le, cmp_ge, cmp_eq, cmp_ne, len_tup, len_lst, len_txt, ix_0, ix_1, ix_l0, ix_l1, ix_l2, bin_add, bin_sub, set_l0, set_l1, set_l2, live_lst, max_int, min_int, take_set, take_snoc, List.set_set, List.length_set, Vl.o.injEq, eq_self, decide_true, decide_false, Int.reduceLT, Int.reduceEq, Int.cast_ofNat_Int, Nat.zero_add, c_is_book_1])
  (try simp only [fnW_eq, fnD_nx, fnD_rt, seq_nx, seq_rt, seq_rtF, loop_rtF, seq_bk, seq_ct, loop_nx, loop_rt, loop_bk, loop_ct, wB_cons, wB_nil, wS_asgO, wS_asg, wS_unp, wS_par, wS_parc, wS_sset, wS_sps, wS_exp, wS_ret, wS_retN, wS_ife, wS_pas, wS_brk, wS_cnt, wE, wNs, wAs, wT, wI, wP, norm_d, store_d, vdat_d, norm_new, store_new, norm_newS, store_newS, fin_sh, fin_lst, fresh_lst, walk_d, it_T, it_list, it_tuple, seq_T, seq_list, seq_tuple, seqAll, zipN2, zipN3, bind1, bind2, bind3, wipeS, setAll, seeAll, tru_bool, retv_d, take_all, ex_some,
  List.map_cons, List.map_nil, List.length_cons, List.length_nil, List.cons_append, List.nil_append, List.replicate, List.getElem?_cons_zero, List.getElem?_cons_succ, List.set_cons_zero, List.set_cons_succ, Option.some.injEq, exists_eq_left', exists_eq_left, exists_eq_right, true_and, and_true,
  Nat.reduceAdd, Nat.reduceSub, OO.dat, cmp_in, cmp_notin, exists_and_left, reduceIte, reduceCtorEq, if_true, if_false, Bool.false_eq_true, Vl.d.injEq, PyData.int.injEq, PyData.bool.injEq, PyData.str.injEq, Bool.not_true, Bool.not_false, cmp_lt, cmp_gt, cmp_le, cmp_ge, cmp_eq, cmp_ne, len_tup, len_lst, len_txt, ix_0, ix_1, ix_l0, ix_l1, ix_l2, bin_add, bin_sub, set_l0, set_l1, set_l2, live_lst, max_int, min_int, take_set, take_snoc, List.set_set, List.length_set, Vl.o.injEq, eq_self, decide_true, decide_false, Int.reduceLT, Int.reduceEq, Int.cast_ofNat_Int, Nat.zero_add, c_is_book_2, e3, e4, e5, hm, e6])
  (try simp only [fnW_eq, fnD_nx, fnD_rt, seq_nx, seq_rt, seq_rtF, loop_rtF, seq_bk, seq_ct, loop_nx, loop_rt, loop_bk, loop_ct, wB_cons, wB_nil, wS_asgO, wS_asg, wS_unp, wS_par, wS_parc, wS_sset, wS_sps, wS_exp, wS_ret, wS_retN, wS_ife, wS_pas, wS_brk, wS_cnt, wE, wNs, wAs, wT, wI, wP, norm_d, store_d, vdat_d, norm_new, store_new, norm_newS, store_newS, fin_sh, fin_lst, fresh_lst, walk_d, it_T, it_list, it_tuple, seq_T, seq_list, seq_tuple, seqAll, zipN2, zipN3, bind1, bind2, bind3, wipeS, setAll, seeAll, tru_bool, retv_d, take_all, ex_some,
  List.map_cons, List.map_nil, List.length_cons, List.length_nil, List.cons_append, List.nil_append, List.replicate, List.getElem?_cons_zero, List.getElem?_cons_succ, List.set_cons_zero, List.set_cons_succ, Option.some.injEq, exists_eq_left', exists_eq_left, exists_eq_right, true_and, and_true,
  Nat.reduceAdd, Nat.reduceSub, OO.dat, cmp_in, cmp_notin, exists_and_left, reduceIte, reduceCtorEq, if_true, if_false, Bool.false_eq_true, Vl.d.injEq, PyData.int.injEq, PyData.bool.injEq, PyData.str.injEq, Bool.not_true, Bool.not_false, cmp_lt, cmp_gt, cmp_le, cmp_ge, cmp_eq, cmp_ne, len_tup, len_lst, len_txt, ix_0, ix_1, ix_l0, ix_l1, ix_l2, bin_add, bin_sub, set_l0, set_l1, set_l2, live_lst, max_int, min_int, take_set, take_snoc, List.set_set, List.length_set, Vl.o.injEq, eq_self, decide_true, decide_false, Int.reduceLT, Int.reduceEq, Int.cast_ofNat_Int, Nat.zero_add, c_is_book_3, e7])
  refine lc_map (fun p => .bool (okH hd p)) trivial (fun p hp' k hk => ?_) ?_
  · (try simp only [fnW_eq, fnD_nx, fnD_rt, seq_nx, seq_rt, seq_rtF, loop_rtF, seq_bk, seq_ct, loop_nx, loop_rt, loop_bk, loop_ct, wB_cons, wB_nil, wS_asgO, wS_asg, wS_unp, wS_par, wS_parc, wS_sset, wS_sps, wS_exp, wS_ret, wS_retN, wS_ife, wS_pas, wS_brk, wS_cnt, wE, wNs, wAs, wT, wI, wP, norm_d, store_d, vdat_d, norm_new, store_new, norm_newS, store_newS, fin_sh, fin_lst, fresh_lst, walk_d, it_T, it_list, it_tuple, seq_T, seq_list, seq_tuple, seqAll, zipN2, zipN3, bind1, bind2, bind3, wipeS, setAll, seeAll, tru_bool, retv_d, take_all, ex_some,
  List.map_cons, List.map_nil, List.length_cons, List.length_nil, List.cons_append, List.nil_append, List.replicate, List.getElem?_cons_zero, List.getElem?_cons_succ, List.set_cons_zero, List.set_cons_succ, Option.some.injEq, exists_eq_left', exists_eq_left, exists_eq_right, true_and, and_true,
  Nat.reduceAdd, Nat.reduceSub, OO.dat, cmp_in, cmp_notin, exists_and_left, reduceIte, reduceCtorEq, if_true, if_false, Bool.false_eq_true, Vl.d.injEq, PyData.int.injEq, PyData.bool.injEq, PyData.str.injEq, Bool.not_true, Bool.not_false, cmp_lt, cmp_gt, cmp_le, cmp_ge, cmp_eq, cmp_ne, len_tup, len_lst, len_txt, ix_0, ix_1, ix_l0, ix_l1, ix_l2, bin_add, bin_sub, set_l0, set_l1, set_l2, live_lst, max_int, min_int, take_set, take_snoc, List.set_set, List.length_set, Vl.o.injEq, eq_self, decide_true, decide_false, Int.reduceLT, Int.reduceEq, Int.cast_ofNat_Int, Nat.zero_add])
    obtain ⟨⟨a, _⟩, ⟨b, _⟩⟩ := okH_parts (ok.each p hp')
    exact ⟨_, h2, hd, p, rfl, Nat.le_trans a.len (by omega), Nat.le_trans b.len (by omega), by (try simp only [fnW_eq, fnD_nx, fnD_rt, seq_nx, seq_rt, seq_rtF, loop_rtF, seq_bk, seq_ct, loop_nx, loop_rt, loop_bk, loop_ct, wB_cons, wB_nil, wS_asgO, wS_asg, wS_unp, wS_par, wS_parc, wS_sset, wS_sps, wS_exp, wS_ret, wS_retN, wS_ife, wS_pas, wS_brk, wS_cnt, wE, wNs, wAs, wT, wI, wP, norm_d, store_d, vdat_d, norm_new, store_new, norm_newS, store_newS, fin_sh, fin_lst, fresh_lst, walk_d, it_T, it_list, it_tuple, seq_T, seq_list, seq_tuple, seqAll, zipN2, zipN3, bind1, bind2, bind3, wipeS, setAll, seeAll, tru_bool, retv_d, take_all, ex_some,
  List.map_cons, List.map_nil, List.length_cons, List.length_nil, List.cons_append, List.nil_append, List.replicate, List.getElem?_cons_zero, List.getElem?_cons_succ, List.set_cons_zero, List.set_cons_succ, Option.some.injEq, exists_eq_left', exists_eq_left, exists_eq_right, true_and, and_true,
  Nat.reduceAdd, Nat.reduceSub, OO.dat, cmp_in, cmp_notin, exists_and_left, reduceIte, reduceCtorEq, if_true, if_false, Bool.false_eq_true, Vl.d.injEq, PyData.int.injEq, PyData.bool.injEq, PyData.str.injEq, Bool.not_true, Bool.not_false, cmp_lt, cmp_gt, cmp_le, cmp_ge, cmp_eq, cmp_ne, len_tup, len_lst, len_txt, ix_0, ix_1, ix_l0, ix_l1, ix_l2, bin_add, bin_sub, set_l0, set_l1, set_l2, live_lst, max_int, min_int, take_set, take_snoc, List.set_set, List.length_set, Vl.o.injEq, eq_self, decide_true, decide_false, Int.reduceLT, Int.reduceEq, Int.cast_ofNat_Int, Nat.zero_add]); exact hk⟩
  · have ea : h.all (okH hd) = true := List.all_eq_true.mpr ok.each
    (try simp only [fnW_eq, fnD_nx, fnD_rt, seq_nx, seq_rt, seq_rtF, loop_rtF, seq_bk, seq_ct, loop_nx, loop_rt, loop_bk, loop_ct, wB_cons, wB_nil, wS_asgO, wS_asg, wS_unp, wS_par, wS_parc, wS_sset, wS_sps, wS_exp, wS_ret, wS_retN, wS_ife, wS_pas, wS_brk, wS_cnt, wE, wNs, wAs, wT, wI, wP, norm_d, store_d, vdat_d, norm_new, store_new, norm_newS, store_newS, fin_sh, fin_lst, fresh_lst, walk_d, it_T, it_list, it_tuple, seq_T, seq_list, seq_tuple, seqAll, zipN2, zipN3, bind1, bind2, bind3, wipeS, setAll, seeAll, tru_bool, retv_d, take_all, ex_some,
  List.map_cons, List.map_nil, List.length_cons, List.length_nil, List.cons_append, List.nil_append, List.replicate, List.getElem?_cons_zero, List.getElem?_cons_succ, List.set_cons_zero, List.set_cons_succ, Option.some.injEq, exists_eq_left', exists_eq_left, exists_eq_right, true_and, and_true,
  Nat.reduceAdd, Nat.reduceSub, OO.dat, cmp_in, cmp_notin, exists_and_left, reduceIte, reduceCtorEq, if_true, if_false, Bool.false_eq_true, Vl.d.injEq, PyData.int.injEq, PyData.bool.injEq, PyData.str.injEq, Bool.not_true, Bool.not_false, cmp_lt, cmp_gt, cmp_le, cmp_ge, cmp_eq, cmp_ne, len_tup, len_lst, len_txt, ix_0, ix_1, ix_l0, ix_l1, ix_l2, bin_add, bin_sub, set_l0, set_l1, set_l2, live_lst, max_int, min_int, take_set, take_snoc, List.set_set, List.length_set, Vl.o.injEq, eq_self, decide_true, decide_false, Int.reduceLT, Int.reduceEq, Int.cast_ofNat_Int, Nat.zero_add])
    refine ⟨_, all_map h (okH hd), ?_⟩
    (try simp only [fnW_eq, fnD_nx, fnD_rt, seq_nx, seq_rt, seq_rtF, loop_rtF, seq_bk, seq_ct, loop_nx, loop_rt, loop_bk, loop_ct, wB_cons, wB_nil, wS_asgO, wS_asg, wS_unp, wS_par, wS_parc, wS_sset, wS_sps, wS_exp, wS_ret, wS_retN, wS_ife, wS_pas, wS_brk, wS_cnt, wE, wNs, wAs, wT, wI, wP, norm_d, store_d, vdat_d, norm_new, store_new, norm_newS, store_newS, fin_sh, fin_lst, fresh_lst, walk_d, it_T, it_list, it_tuple, seq_T, seq_list, seq_tuple, seqAll, zipN2, zipN3, bind1, bind2, bind3, wipeS, setAll, seeAll, tru_bool, retv_d, take_all, ex_some,
  List.map_cons, List.map_nil, List.length_cons, List.length_nil, List.cons_append, List.nil_append, List.replicate, List.getElem?_cons_zero, List.getElem?_cons_succ, List.set_cons_zero, List.set_cons_succ, Option.some.injEq, exists_eq_left', exists_eq_left, exists_eq_right, true_and, and_true,
  Nat.reduceAdd, Nat.reduceSub, OO.dat, cmp_in, cmp_notin, exists_and_left, reduceIte, reduceCtorEq, if_true, if_false, Bool.false_eq_true, Vl.d.injEq, PyData.int.injEq, PyData.bool.injEq, PyData.str.injEq, Bool.not_true, Bool.not_false, cmp_lt, cmp_gt, cmp_le, cmp_ge, cmp_eq, cmp_ne, len_tup, len_lst, len_txt, ix_0, ix_1, ix_l0, ix_l1, ix_l2, bin_add, bin_sub, set_l0, set_l1, set_l2, live_lst, max_int, min_int, take_set, take_snoc, List.set_set, List.length_set, Vl.o.injEq, eq_self, decide_true, decide_false, Int.reduceLT, Int.reduceEq, Int.cast_ofNat_Int, Nat.zero_add, ea])
    refine ⟨_, h3, Hn, hp, ltP, h, rfl, fun a _ b _ => lt_hp a b, ?_⟩
    rw [ris_hp, ok.ris]
    (try simp only [fnW_eq, fnD_nx, fnD_rt, seq_nx, seq_rt, seq_rtF, loop_rtF, seq_bk, seq_ct, loop_nx, loop_rt, loop_bk, loop_ct, wB_cons, wB_nil, wS_asgO, wS_asg, wS_unp, wS_par, wS_parc, wS_sset, wS_sps, wS_exp, wS_ret, wS_retN, wS_ife, wS_pas, wS_brk, wS_cnt, wE, wNs, wAs, wT, wI, wP, norm_d, store_d, vdat_d, norm_new, store_new, norm_newS, store_newS, fin_sh, fin_lst, fresh_lst, walk_d, it_T, it_list, it_tuple, seq_T, seq_list, seq_tuple, seqAll, zipN2, zipN3, bind1, bind2, bind3, wipeS, setAll, seeAll, tru_bool, retv_d, take_all, ex_some,
  List.map_cons, List.map_nil, List.length_cons, List.length_nil, List.cons_append, List.nil_append, List.replicate, List.getElem?_cons_zero, List.getElem?_cons_succ, List.set_cons_zero, List.set_cons_succ, Option.some.injEq, exists_eq_left', exists_eq_left, exists_eq_right, true_and, and_true,
  Nat.reduceAdd, Nat.reduceSub, OO.dat, cmp_in, cmp_notin, exists_and_left, reduceIte, reduceCtorEq, if_true, if_false, Bool.false_eq_true, Vl.d.injEq, PyData.int.injEq, PyData.bool.injEq, PyData.str.injEq, Bool.not_true, Bool.not_false, cmp_lt, cmp_gt, cmp_le, cmp_ge, cmp_eq, cmp_ne, len_tup, len_lst, len_txt, ix_0, ix_1, ix_l0, ix_l1, ix_l2, bin_add, bin_sub, set_l0, set_l1, set_l2, live_lst, max_int, min_int, take_set, take_snoc, List.set_set, List.length_set, Vl.o.injEq, eq_self, decide_true, decide_false, Int.reduceLT, Int.reduceEq, Int.cast_ofNat_Int, Nat.zero_add])
    exact q
def S_need_book : FSpec := fun rs oh Q _ => ∃ hd h, rs = [.d (BK hd h)] ∧ BookOk hd h ∧ Q (.d .none) oh
theorem w_need_book (Γ : Gv) (h1 : Γ.fn "is_book" = some S_is_book) (rs : List Vl) (oh : OH) (Q : QV) (E : QX) (h : S_need_book rs oh Q E) : fnW Γ 1 c_need_book rs oh Q E := by
  obtain ⟨hd, h, rfl, ok, q⟩ := h
  unfold c_need_book
  (try simp only [fnW_eq, fnD_nx, fnD_rt, seq_nx, seq_rt, seq_rtF, loop_rtF, seq_bk, seq_ct, loop_nx, loop_rt, loop_bk, loop_ct, wB_cons, wB_nil, wS_asgO, wS_asg, wS_unp, wS_par, wS_parc, wS_sset, wS_sps, wS_exp, wS_ret, wS_retN, wS_ife, wS_pas, wS_brk, wS_cnt, wE, wNs, wAs, wT, wI, wP, norm_d, store_d, vdat_d, norm_new, store_new, norm_newS, store_newS, fin_sh, fin_lst, fresh_lst, walk_d, it_T, it_list, it_tuple, seq_T, seq_list, seq_tuple, seqAll, zipN2, zipN3, bind1, bind2, bind3, wipeS, setAll, seeAll, tru_bool, retv_d, take_all, ex_some,
  List.map_cons, List.map_nil, List.length_cons, List.length_nil, List.cons_append, List.nil_append, List.replicate, List.getElem?_cons_zero, List.getElem?_cons_succ, List.set_cons_zero, List.set_cons_succ, Option.some.injEq, exists_eq_left', exists_eq_left, exists_eq_right, true_and, and_true,
  Nat.reduceAdd, Nat.reduceSub, OO.dat, cmp_in, cmp_notin, exists_and_left, reduceIte, reduceCtorEq, if_true, if_false, Bool.false_eq_true, Vl.d.injEq, PyData.int.injEq, PyData.bool.injEq, PyData.str.injEq, Bool.not_true, Bool.not_false, cmp_lt, cmp_gt, cmp_le, cmp_ge, cmp_eq, cmp_ne, len_tup, len_lst, len_txt, ix_0, ix_1, ix_l0, ix_l1, ix_l2, bin_add, bin_sub, set_l0, set_l1, set_l2, live_lst, max_int, min_int, take_set, take_snoc, List.set_set, List.length_set, Vl.o.injEq, eq_self, decide_true, decide_false, Int.reduceLT, Int.reduceEq, Int.cast_ofNat_Int, Nat.zero_add])
  refine ⟨_, h1, hd, h, rfl, ok, ?_⟩
  (try simp only [fnW_eq, fnD_nx, fnD_rt, seq_nx, seq_rt, seq_rtF, loop_rtF, seq_bk, seq_ct, loop_nx, loop_rt, loop_bk, loop_ct, wB_cons, wB_nil, wS_asgO, wS_asg, wS_unp, wS_par, wS_parc, wS_sset, wS_sps, wS_exp, wS_ret, wS_retN, wS_ife, wS_pas, wS_brk, wS_cnt, wE, wNs, wAs, wT, wI, wP, norm_d, store_d, vdat_d, norm_new, store_new, norm_newS, store_newS, fin_sh, fin_lst, fresh_lst, walk_d, it_T, it_list, it_tuple, seq_T, seq_list, seq_tuple, seqAll, zipN2, zipN3, bind1, bind2, bind3, wipeS, setAll, seeAll, tru_bool, retv_d, take_all, ex_some,
  List.map_cons, List.map_nil, List.length_cons, List.length_nil, List.cons_append, List.nil_append, List.replicate, List.getElem?_cons_zero, List.getElem?_cons_succ, List.set_cons_zero, List.set_cons_succ, Option.some.injEq, exists_eq_left', exists_eq_left, exists_eq_right, true_and, and_true,
  Nat.reduceAdd, Nat.reduceSub, OO.dat, cmp_in, cmp_notin, exists_and_left, reduceIte, reduceCtorEq, if_true, if_false, Bool.false_eq_true, Vl.d.injEq, PyData.int.injEq, PyData.bool.injEq, PyData.str.injEq, Bool.not_true, Bool.not_false, cmp_lt, cmp_gt, cmp_le, cmp_ge, cmp_eq, cmp_ne, len_tup, len_lst, len_txt, ix_0, ix_1, ix_l0, ix_l1, ix_l2, bin_add, bin_sub, set_l0, set_l1, set_l2, live_lst, max_int, min_int, take_set, take_snoc, List.set_set, List.length_set, Vl.o.injEq, eq_self, decide_true, decide_false, Int.reduceLT, Int.reduceEq, Int.cast_ofNat_Int, Nat.zero_add])
  exact q
end Kd

namespace Kd
open PySem PySem.Spec PyProof.Rows L2
/-! ### the closure -/
def Clo (h : List Hn) (s : List Nat) (c : Nat) : Prop := ∀ t : Nat → Prop, (∀ x ∈ s, t x) → (∀ p ∈ h, (∀ x ∈ p.1, t x) → ∀ x ∈ p.2, t x) → t c
open Classical in
noncomputable def clL (h : List Hn) (s : List Nat) : List Nat := cols.filter fun c => decide (Clo h s c)
section
variable {h : List Hn} {s f : List Nat}
theorem insB_iff {a b : List Nat} : insB a b = true ↔ ∀ x ∈ a, x ∈ b := by simp [insB]
theorem clo_base {c : Nat} (hc : c ∈ s) : Clo h s c := fun t h1 _ => h1 c hc
theorem clo_step {p : Hn} (hp : p ∈ h) (h1 : ∀ x ∈ p.1, Clo h s x) : ∀ x ∈ p.2, Clo h s x := fun x hx t a b => b p hp (fun y hy => h1 y hy t a b) x hx
theorem mem_cs {a : List Nat} (hc : IsCS a) {c : Nat} (hm : c ∈ a) : c ∈ cols := by
  rw [← hc] at hm
  exact (List.mem_filter.mp hm).1
theorem filt_cs (p : Nat → Bool) : IsCS (cols.filter p) := by
  unfold IsCS csOf
  refine List.filter_congr fun c hc => ?_
  simp [List.mem_filter, hc]
theorem clL_cs : IsCS (clL h s) := filt_cs _
theorem clL_char (hc : IsCS f) (h1 : ∀ x ∈ s, x ∈ f) (h2 : ∀ x ∈ f, Clo h s x) (h3 : ∀ p ∈ h, (∀ x ∈ p.1, x ∈ f) → ∀ x ∈ p.2, x ∈ f) : f = clL h s := by
  have e := hc
  unfold IsCS csOf at e
  rw [← e]
  unfold clL
  refine List.filter_congr fun c _ => ?_
  rw [Bool.eq_iff_iff]
  simp only [decide_eq_true_eq]
  refine ⟨fun hm => h2 c hm, fun hc => hc (· ∈ f) h1 h3⟩
theorem put_cs (a b : List Nat) : IsCS (putL a b) := filt_cs _
theorem mem_put {a b : List Nat} {c : Nat} (ha : IsCS a) (hb : IsCS b) : c ∈ putL a b ↔ c ∈ a ∨ c ∈ b := by
  unfold putL
  simp only [List.mem_filter, Bool.or_eq_true, decide_eq_true_eq]
  exact ⟨fun q => q.2, fun q => ⟨q.elim (mem_cs ha) (mem_cs hb), q⟩⟩
theorem cs_len {a b : List Nat} (ha : IsCS a) (hb : IsCS b) (h1 : ∀ x ∈ a, x ∈ b) (h2 : ¬ ∀ x ∈ b, x ∈ a) : a.length < b.length := by
  have ea := ha
  have eb := hb
  unfold IsCS csOf at ea eb
  rw [← ea, ← eb]
  have sub : ∀ l : List Nat, (l.filter fun c => decide (c ∈ a)).length ≤ (l.filter fun c => decide (c ∈ b)).length ∧ ((∃ c ∈ l, c ∈ b ∧ c ∉ a) → (l.filter fun c => decide (c ∈ a)).length < (l.filter fun c => decide (c ∈ b)).length) := by
    intro l
    induction l with
    | nil => exact ⟨Nat.le_refl _, fun ⟨c, hc, _⟩ => by cases hc⟩
    | cons c l ih =>
      by_cases q1 : c ∈ a
      · have q2 := h1 c q1
        simp only [List.filter_cons, q1, q2, decide_true, if_true, List.length_cons]
        refine ⟨by omega, fun ⟨d, hd, hb, ha⟩ => ?_⟩
        rcases List.mem_cons.mp hd with e | e
        · subst e; exact absurd q1 ha
        · have := ih.2 ⟨d, e, hb, ha⟩; omega
      · by_cases q2 : c ∈ b
        · simp only [List.filter_cons, q1, q2, decide_true, decide_false, if_true, Bool.false_eq_true, if_false, List.length_cons]
          exact ⟨by omega, fun _ => by omega⟩
        · simp only [List.filter_cons, q1, q2, decide_false, Bool.false_eq_true, if_false]
          refine ⟨ih.1, fun ⟨d, hd, hb, ha⟩ => ?_⟩
          rcases List.mem_cons.mp hd with e | e
          · subst e; exact absurd hb q2
          · exact ih.2 ⟨d, e, hb, ha⟩
  refine (sub cols).2 ?_
  simp only [Classical.not_forall] at h2
  obtain ⟨x, hx, hn⟩ := h2
  exact ⟨x, mem_cs hb hx, hx, hn⟩
end
theorem seq_HG (h : List Hn) : itemsD (HG h) = some (h.map hp) := rfl
def S_grown : FSpec := fun rs oh Q _ => ∃ dh h s, rs = [.d dh, .d (T s)] ∧ itemsD dh = some (h.map hp) ∧ (∀ p ∈ h, IsCS p.1 ∧ IsCS p.2) ∧ IsCS s ∧ Q (.d (T (clL h s))) oh
theorem w_grown (Γ : Gv) (h1 : Γ.fn "inside" = some S_inside) (h2 : Γ.fn "put_to" = some S_put_to) (rs : List Vl) (oh : OH) (Q : QV) (E : QX) (h : S_grown rs oh Q E) : fnW Γ 6 c_grown rs oh Q E := by
  obtain ⟨dh, h, s, rfl, edh, hh, hs, q⟩ := h
  (try simp only [fnW_eq, fnD_nx, fnD_rt, seq_nx, seq_rt, seq_rtF, loop_rtF, seq_bk, seq_ct, loop_nx, loop_rt, loop_bk, loop_ct, wB_cons, wB_nil, wS_asgO, wS_asg, wS_unp, wS_par, wS_parc, wS_sset, wS_sps, wS_exp, wS_ret, wS_retN, wS_ife, wS_pas, wS_brk, wS_cnt, wE, wNs, wAs, wT, wI, wP, norm_d, store_d, vdat_d, norm_new, store_new, norm_newS, store_newS, fin_sh, fin_lst, fresh_lst, walk_d, it_T, it_list, it_tuple, seq_T, seq_list, seq_tuple, seqAll, zipN2, zipN3, bind1, bind2, bind3, wipeS, setAll, seeAll, tru_bool, retv_d, take_all, ex_some,
  List.map_cons, List.map_nil, List.length_cons, List.length_nil, List.cons_append, List.nil_append, List.replicate, List.getElem?_cons_zero, List.getElem?_cons_succ, List.set_cons_zero, List.set_cons_succ, Option.some.injEq, exists_eq_left', exists_eq_left, exists_eq_right, true_and, and_true,
  Nat.reduceAdd, Nat.reduceSub, OO.dat, cmp_in, cmp_notin, exists_and_left, reduceIte, reduceCtorEq, if_true, if_false, Bool.false_eq_true, Vl.d.injEq, PyData.int.injEq, PyData.bool.injEq, PyData.str.injEq, Bool.not_true, Bool.not_false, cmp_lt, cmp_gt, cmp_le, cmp_ge, cmp_eq, cmp_ne, len_tup, len_lst, len_txt, ix_0, ix_1, ix_l0, ix_l1, ix_l2, bin_add, bin_sub, set_l0, set_l1, set_l2, live_lst, max_int, min_int, take_set, take_snoc, List.set_set, List.length_set, Vl.o.injEq, eq_self, decide_true, decide_false, Int.reduceLT, Int.reduceEq, Int.cast_ofNat_Int, Nat.zero_add, c_grown])
  rw [c_grown_1, wB_cons, wS_whl]
  refine ⟨fun m st => ∃ f b l r, st = ⟨[some (.d dh), some (.d (T s)), some (.d (T f)), some (.d (.bool b)), l, r], oh⟩ ∧ IsCS f ∧ (∀ x ∈ s, x ∈ f) ∧ (∀ x ∈ f, Clo h s x) ∧ (b = false → ∀ p ∈ h, (∀ x ∈ p.1, x ∈ f) → ∀ x ∈ p.2, x ∈ f) ∧ m = (8 - f.length) + b.toNat,
    ⟨_, s, true, none, none, rfl, hs, fun _ z => z, fun x z => clo_base z, (fun z => by cases z), rfl⟩, ?_⟩
  rintro m st ⟨f, b, l, r, rfl, cf, sf, fc, cl, rfl⟩
  (try simp only [fnW_eq, fnD_nx, fnD_rt, seq_nx, seq_rt, seq_rtF, loop_rtF, seq_bk, seq_ct, loop_nx, loop_rt, loop_bk, loop_ct, wB_cons, wB_nil, wS_asgO, wS_asg, wS_unp, wS_par, wS_parc, wS_sset, wS_sps, wS_exp, wS_ret, wS_retN, wS_ife, wS_pas, wS_brk, wS_cnt, wE, wNs, wAs, wT, wI, wP, norm_d, store_d, vdat_d, norm_new, store_new, norm_newS, store_newS, fin_sh, fin_lst, fresh_lst, walk_d, it_T, it_list, it_tuple, seq_T, seq_list, seq_tuple, seqAll, zipN2, zipN3, bind1, bind2, bind3, wipeS, setAll, seeAll, tru_bool, retv_d, take_all, ex_some,
  List.map_cons, List.map_nil, List.length_cons, List.length_nil, List.cons_append, List.nil_append, List.replicate, List.getElem?_cons_zero, List.getElem?_cons_succ, List.set_cons_zero, List.set_cons_succ, Option.some.injEq, exists_eq_left', exists_eq_left, exists_eq_right, true_and, and_true,
  Nat.reduceAdd, Nat.reduceSub, OO.dat, cmp_in, cmp_notin, exists_and_left, reduceIte, reduceCtorEq, if_true, if_false, Bool.false_eq_true, Vl.d.injEq, PyData.int.injEq, PyData.bool.injEq, PyData.str.injEq, Bool.not_true, Bool.not_false, cmp_lt, cmp_gt, cmp_le, cmp_ge, cmp_eq, cmp_ne, len_tup, len_lst, len_txt, ix_0, ix_1, ix_l0, ix_l1, ix_l2, bin_add, bin_sub, set_l0, set_l1, set_l2, live_lst, max_int, min_int, take_set, take_snoc, List.set_set, List.length_set, Vl.o.injEq, eq_self, decide_true, decide_false, Int.reduceLT, Int.reduceEq, Int.cast_ofNat_Int, Nat.zero_add])
  cases b with
  | false =>
    (try simp only [fnW_eq, fnD_nx, fnD_rt, seq_nx, seq_rt, seq_rtF, loop_rtF, seq_bk, seq_ct, loop_nx, loop_rt, loop_bk, loop_ct, wB_cons, wB_nil, wS_asgO, wS_asg, wS_unp, wS_par, wS_parc, wS_sset, wS_sps, wS_exp, wS_ret, wS_retN, wS_ife, wS_pas, wS_brk, wS_cnt, wE, wNs, wAs, wT, wI, wP, norm_d, store_d, vdat_d, norm_new, store_new, norm_newS, store_newS, fin_sh, fin_lst, fresh_lst, walk_d, it_T, it_list, it_tuple, seq_T, seq_list, seq_tuple, seqAll, zipN2, zipN3, bind1, bind2, bind3, wipeS, setAll, seeAll, tru_bool, retv_d, take_all, ex_some,
  List.map_cons, List.map_nil, List.length_cons, List.length_nil, List.cons_append, List.nil_append, List.replicate, List.getElem?_cons_zero, List.getElem?_cons_succ, List.set_cons_zero, List.set_cons_succ, Option.some.injEq, exists_eq_left', exists_eq_left, exists_eq_right, true_and, and_true,
  Nat.reduceAdd, Nat.reduceSub, OO.dat, cmp_in, cmp_notin, exists_and_left, reduceIte, reduceCtorEq, if_true, if_false, Bool.false_eq_true, Vl.d.injEq, PyData.int.injEq, PyData.bool.injEq, PyData.str.injEq, Bool.not_true, Bool.not_false, cmp_lt, cmp_gt, cmp_le, cmp_ge, cmp_eq, cmp_ne, len_tup, len_lst, len_txt, ix_0, ix_1, ix_l0, ix_l1, ix_l2, bin_add, bin_sub, set_l0, set_l1, set_l2, live_lst, max_int, min_int, take_set, take_snoc, List.set_set, List.length_set, Vl.o.injEq, eq_self, decide_true, decide_false, Int.reduceLT, Int.reduceEq, Int.cast_ofNat_Int, Nat.zero_add, c_grown_2])
    rw [← clL_char cf sf fc (cl rfl)] at q
    exact q
  | true =>
    (try simp only [fnW_eq, fnD_nx, fnD_rt, seq_nx, seq_rt, seq_rtF, loop_rtF, seq_bk, seq_ct, loop_nx, loop_rt, loop_bk, loop_ct, wB_cons, wB_nil, wS_asgO, wS_asg, wS_unp, wS_par, wS_parc, wS_sset, wS_sps, wS_exp, wS_ret, wS_retN, wS_ife, wS_pas, wS_brk, wS_cnt, wE, wNs, wAs, wT, wI, wP, norm_d, store_d, vdat_d, norm_new, store_new, norm_newS, store_newS, fin_sh, fin_lst, fresh_lst, walk_d, it_T, it_list, it_tuple, seq_T, seq_list, seq_tuple, seqAll, zipN2, zipN3, bind1, bind2, bind3, wipeS, setAll, seeAll, tru_bool, retv_d, take_all, ex_some,
  List.map_cons, List.map_nil, List.length_cons, List.length_nil, List.cons_append, List.nil_append, List.replicate, List.getElem?_cons_zero, List.getElem?_cons_succ, List.set_cons_zero, List.set_cons_succ, Option.some.injEq, exists_eq_left', exists_eq_left, exists_eq_right, true_and, and_true,
  Nat.reduceAdd, Nat.reduceSub, OO.dat, cmp_in, cmp_notin, exists_and_left, reduceIte, reduceCtorEq, if_true, if_false, Bool.false_eq_true, Vl.d.injEq, PyData.int.injEq, PyData.bool.injEq, PyData.str.injEq, Bool.not_true, Bool.not_false, cmp_lt, cmp_gt, cmp_le, cmp_ge, cmp_eq, cmp_ne, len_tup, len_lst, len_txt, ix_0, ix_1, ix_l0, ix_l1, ix_l2, bin_add, bin_sub, set_l0, set_l1, set_l2, live_lst, max_int, min_int, take_set, take_snoc, List.set_set, List.length_set, Vl.o.injEq, eq_self, decide_true, decide_false, Int.reduceLT, Int.reduceEq, Int.cast_ofNat_Int, Nat.zero_add, c_grown_3])
    rw [c_grown_4, wB_cons, wS_for]
    (try simp only [fnW_eq, fnD_nx, fnD_rt, seq_nx, seq_rt, seq_rtF, loop_rtF, seq_bk, seq_ct, loop_nx, loop_rt, loop_bk, loop_ct, wB_cons, wB_nil, wS_asgO, wS_asg, wS_unp, wS_par, wS_parc, wS_sset, wS_sps, wS_exp, wS_ret, wS_retN, wS_ife, wS_pas, wS_brk, wS_cnt, wE, wNs, wAs, wT, wI, wP, norm_d, store_d, vdat_d, norm_new, store_new, norm_newS, store_newS, fin_sh, fin_lst, fresh_lst, walk_d, it_T, it_list, it_tuple, seq_T, seq_list, seq_tuple, seqAll, zipN2, zipN3, bind1, bind2, bind3, wipeS, setAll, seeAll, tru_bool, retv_d, take_all, ex_some,
  List.map_cons, List.map_nil, List.length_cons, List.length_nil, List.cons_append, List.nil_append, List.replicate, List.getElem?_cons_zero, List.getElem?_cons_succ, List.set_cons_zero, List.set_cons_succ, Option.some.injEq, exists_eq_left', exists_eq_left, exists_eq_right, true_and, and_true,
  Nat.reduceAdd, Nat.reduceSub, OO.dat, cmp_in, cmp_notin, exists_and_left, reduceIte, reduceCtorEq, if_true, if_false, Bool.false_eq_true, Vl.d.injEq, PyData.int.injEq, PyData.bool.injEq, PyData.str.injEq, Bool.not_true, Bool.not_false, cmp_lt, cmp_gt, cmp_le, cmp_ge, cmp_eq, cmp_ne, len_tup, len_lst, len_txt, ix_0, ix_1, ix_l0, ix_l1, ix_l2, bin_add, bin_sub, set_l0, set_l1, set_l2, live_lst, max_int, min_int, take_set, take_snoc, List.set_set, List.length_set, Vl.o.injEq, eq_self, decide_true, decide_false, Int.reduceLT, Int.reduceEq, Int.cast_ofNat_Int, Nat.zero_add, edh])
    refine ⟨fun i st => ∃ f' b' l r, st = ⟨[some (.d dh), some (.d (T s)), some (.d (T f')), some (.d (.bool b')), l, r], oh⟩ ∧ IsCS f' ∧ (∀ x ∈ s, x ∈ f') ∧ (∀ x ∈ f', Clo h s x) ∧
      ((b' = false ∧ f' = f ∧ ∀ p ∈ h.take i, (∀ x ∈ p.1, x ∈ f) → ∀ x ∈ p.2, x ∈ f) ∨ (b' = true ∧ f.length < f'.length)), ⟨f, false, l, r, rfl, cf, sf, fc, .inl ⟨rfl, rfl, fun p hp => by simp at hp⟩⟩, fun _ _ _ _ => trivial, ?_, ?_⟩
    · rintro i d st hd ⟨f', b', l', r', rfl, cf', sf', fc', alt⟩
      rw [List.getElem?_map] at hd
      obtain ⟨p, hpi, rfl⟩ := Option.map_eq_some_iff.mp hd
      have hpm : p ∈ h := List.mem_of_getElem? hpi
      obtain ⟨c1, c2⟩ := hh p hpm
      have htake : h.take (i + 1) = h.take i ++ [p] := by
        rw [List.take_succ, hpi]; rfl
      unfold hp
      (try simp only [fnW_eq, fnD_nx, fnD_rt, seq_nx, seq_rt, seq_rtF, loop_rtF, seq_bk, seq_ct, loop_nx, loop_rt, loop_bk, loop_ct, wB_cons, wB_nil, wS_asgO, wS_asg, wS_unp, wS_par, wS_parc, wS_sset, wS_sps, wS_exp, wS_ret, wS_retN, wS_ife, wS_pas, wS_brk, wS_cnt, wE, wNs, wAs, wT, wI, wP, norm_d, store_d, vdat_d, norm_new, store_new, norm_newS, store_newS, fin_sh, fin_lst, fresh_lst, walk_d, it_T, it_list, it_tuple, seq_T, seq_list, seq_tuple, seqAll, zipN2, zipN3, bind1, bind2, bind3, wipeS, setAll, seeAll, tru_bool, retv_d, take_all, ex_some,
  List.map_cons, List.map_nil, List.length_cons, List.length_nil, List.cons_append, List.nil_append, List.replicate, List.getElem?_cons_zero, List.getElem?_cons_succ, List.set_cons_zero, List.set_cons_succ, Option.some.injEq, exists_eq_left', exists_eq_left, exists_eq_right, true_and, and_true,
  Nat.reduceAdd, Nat.reduceSub, OO.dat, cmp_in, cmp_notin, exists_and_left, reduceIte, reduceCtorEq, if_true, if_false, Bool.false_eq_true, Vl.d.injEq, PyData.int.injEq, PyData.bool.injEq, PyData.str.injEq, Bool.not_true, Bool.not_false, cmp_lt, cmp_gt, cmp_le, cmp_ge, cmp_eq, cmp_ne, len_tup, len_lst, len_txt, ix_0, ix_1, ix_l0, ix_l1, ix_l2, bin_add, bin_sub, set_l0, set_l1, set_l2, live_lst, max_int, min_int, take_set, take_snoc, List.set_set, List.length_set, Vl.o.injEq, eq_self, decide_true, decide_false, Int.reduceLT, Int.reduceEq, Int.cast_ofNat_Int, Nat.zero_add, c_grown_5])
      refine ⟨_, h1, p.1, f', rfl, Nat.le_trans c1.len (by omega), ?_⟩
      (try simp only [fnW_eq, fnD_nx, fnD_rt, seq_nx, seq_rt, seq_rtF, loop_rtF, seq_bk, seq_ct, loop_nx, loop_rt, loop_bk, loop_ct, wB_cons, wB_nil, wS_asgO, wS_asg, wS_unp, wS_par, wS_parc, wS_sset, wS_sps, wS_exp, wS_ret, wS_retN, wS_ife, wS_pas, wS_brk, wS_cnt, wE, wNs, wAs, wT, wI, wP, norm_d, store_d, vdat_d, norm_new, store_new, norm_newS, store_newS, fin_sh, fin_lst, fresh_lst, walk_d, it_T, it_list, it_tuple, seq_T, seq_list, seq_tuple, seqAll, zipN2, zipN3, bind1, bind2, bind3, wipeS, setAll, seeAll, tru_bool, retv_d, take_all, ex_some,
  List.map_cons, List.map_nil, List.length_cons, List.length_nil, List.cons_append, List.nil_append, List.replicate, List.getElem?_cons_zero, List.getElem?_cons_succ, List.set_cons_zero, List.set_cons_succ, Option.some.injEq, exists_eq_left', exists_eq_left, exists_eq_right, true_and, and_true,
  Nat.reduceAdd, Nat.reduceSub, OO.dat, cmp_in, cmp_notin, exists_and_left, reduceIte, reduceCtorEq, if_true, if_false, Bool.false_eq_true, Vl.d.injEq, PyData.int.injEq, PyData.bool.injEq, PyData.str.injEq, Bool.not_true, Bool.not_false, cmp_lt, cmp_gt, cmp_le, cmp_ge, cmp_eq, cmp_ne, len_tup, len_lst, len_txt, ix_0, ix_1, ix_l0, ix_l1, ix_l2, bin_add, bin_sub, set_l0, set_l1, set_l2, live_lst, max_int, min_int, take_set, take_snoc, List.set_set, List.length_set, Vl.o.injEq, eq_self, decide_true, decide_false, Int.reduceLT, Int.reduceEq, Int.cast_ofNat_Int, Nat.zero_add])
      by_cases q1 : insB p.1 f' = true
      · rw [if_pos q1]
        refine ⟨_, h1, p.2, f', rfl, Nat.le_trans c2.len (by omega), ?_⟩
        (try simp only [fnW_eq, fnD_nx, fnD_rt, seq_nx, seq_rt, seq_rtF, loop_rtF, seq_bk, seq_ct, loop_nx, loop_rt, loop_bk, loop_ct, wB_cons, wB_nil, wS_asgO, wS_asg, wS_unp, wS_par, wS_parc, wS_sset, wS_sps, wS_exp, wS_ret, wS_retN, wS_ife, wS_pas, wS_brk, wS_cnt, wE, wNs, wAs, wT, wI, wP, norm_d, store_d, vdat_d, norm_new, store_new, norm_newS, store_newS, fin_sh, fin_lst, fresh_lst, walk_d, it_T, it_list, it_tuple, seq_T, seq_list, seq_tuple, seqAll, zipN2, zipN3, bind1, bind2, bind3, wipeS, setAll, seeAll, tru_bool, retv_d, take_all, ex_some,
  List.map_cons, List.map_nil, List.length_cons, List.length_nil, List.cons_append, List.nil_append, List.replicate, List.getElem?_cons_zero, List.getElem?_cons_succ, List.set_cons_zero, List.set_cons_succ, Option.some.injEq, exists_eq_left', exists_eq_left, exists_eq_right, true_and, and_true,
  Nat.reduceAdd, Nat.reduceSub, OO.dat, cmp_in, cmp_notin, exists_and_left, reduceIte, reduceCtorEq, if_true, if_false, Bool.false_eq_true, Vl.d.injEq, PyData.int.injEq, PyData.bool.injEq, PyData.str.injEq, Bool.not_true, Bool.not_false, cmp_lt, cmp_gt, cmp_le, cmp_ge, cmp_eq, cmp_ne, len_tup, len_lst, len_txt, ix_0, ix_1, ix_l0, ix_l1, ix_l2, bin_add, bin_sub, set_l0, set_l1, set_l2, live_lst, max_int, min_int, take_set, take_snoc, List.set_set, List.length_set, Vl.o.injEq, eq_self, decide_true, decide_false, Int.reduceLT, Int.reduceEq, Int.cast_ofNat_Int, Nat.zero_add])
        by_cases q2 : insB p.2 f' = true
        · rw [q2]
          (try simp only [fnW_eq, fnD_nx, fnD_rt, seq_nx, seq_rt, seq_rtF, loop_rtF, seq_bk, seq_ct, loop_nx, loop_rt, loop_bk, loop_ct, wB_cons, wB_nil, wS_asgO, wS_asg, wS_unp, wS_par, wS_parc, wS_sset, wS_sps, wS_exp, wS_ret, wS_retN, wS_ife, wS_pas, wS_brk, wS_cnt, wE, wNs, wAs, wT, wI, wP, norm_d, store_d, vdat_d, norm_new, store_new, norm_newS, store_newS, fin_sh, fin_lst, fresh_lst, walk_d, it_T, it_list, it_tuple, seq_T, seq_list, seq_tuple, seqAll, zipN2, zipN3, bind1, bind2, bind3, wipeS, setAll, seeAll, tru_bool, retv_d, take_all, ex_some,
  List.map_cons, List.map_nil, List.length_cons, List.length_nil, List.cons_append, List.nil_append, List.replicate, List.getElem?_cons_zero, List.getElem?_cons_succ, List.set_cons_zero, List.set_cons_succ, Option.some.injEq, exists_eq_left', exists_eq_left, exists_eq_right, true_and, and_true,
  Nat.reduceAdd, Nat.reduceSub, OO.dat, cmp_in, cmp_notin, exists_and_left, reduceIte, reduceCtorEq, if_true, if_false, Bool.false_eq_true, Vl.d.injEq, PyData.int.injEq, PyData.bool.injEq, PyData.str.injEq, Bool.not_true, Bool.not_false, cmp_lt, cmp_gt, cmp_le, cmp_ge, cmp_eq, cmp_ne, len_tup, len_lst, len_txt, ix_0, ix_1, ix_l0, ix_l1, ix_l2, bin_add, bin_sub, set_l0, set_l1, set_l2, live_lst, max_int, min_int, take_set, take_snoc, List.set_set, List.length_set, Vl.o.injEq, eq_self, decide_true, decide_false, Int.reduceLT, Int.reduceEq, Int.cast_ofNat_Int, Nat.zero_add])
          refine ⟨_, wk_self, f', b', _, _, rfl, cf', sf', fc', ?_⟩
          rcases alt with ⟨e1, e2, e3⟩ | e
          · refine .inl ⟨e1, e2, fun p' hp' => ?_⟩
            rw [htake] at hp'
            rcases List.mem_append.mp hp' with z | z
            · exact e3 p' z
            · simp at z
              subst z
              subst e2
              exact fun _ => insB_iff.mp q2
          · exact .inr e
        · rw [Bool.not_eq_true] at q2
          rw [q2]
          (try simp only [fnW_eq, fnD_nx, fnD_rt, seq_nx, seq_rt, seq_rtF, loop_rtF, seq_bk, seq_ct, loop_nx, loop_rt, loop_bk, loop_ct, wB_cons, wB_nil, wS_asgO, wS_asg, wS_unp, wS_par, wS_parc, wS_sset, wS_sps, wS_exp, wS_ret, wS_retN, wS_ife, wS_pas, wS_brk, wS_cnt, wE, wNs, wAs, wT, wI, wP, norm_d, store_d, vdat_d, norm_new, store_new, norm_newS, store_newS, fin_sh, fin_lst, fresh_lst, walk_d, it_T, it_list, it_tuple, seq_T, seq_list, seq_tuple, seqAll, zipN2, zipN3, bind1, bind2, bind3, wipeS, setAll, seeAll, tru_bool, retv_d, take_all, ex_some,
  List.map_cons, List.map_nil, List.length_cons, List.length_nil, List.cons_append, List.nil_append, List.replicate, List.getElem?_cons_zero, List.getElem?_cons_succ, List.set_cons_zero, List.set_cons_succ, Option.some.injEq, exists_eq_left', exists_eq_left, exists_eq_right, true_and, and_true,
  Nat.reduceAdd, Nat.reduceSub, OO.dat, cmp_in, cmp_notin, exists_and_left, reduceIte, reduceCtorEq, if_true, if_false, Bool.false_eq_true, Vl.d.injEq, PyData.int.injEq, PyData.bool.injEq, PyData.str.injEq, Bool.not_true, Bool.not_false, cmp_lt, cmp_gt, cmp_le, cmp_ge, cmp_eq, cmp_ne, len_tup, len_lst, len_txt, ix_0, ix_1, ix_l0, ix_l1, ix_l2, bin_add, bin_sub, set_l0, set_l1, set_l2, live_lst, max_int, min_int, take_set, take_snoc, List.set_set, List.length_set, Vl.o.injEq, eq_self, decide_true, decide_false, Int.reduceLT, Int.reduceEq, Int.cast_ofNat_Int, Nat.zero_add])
          refine ⟨_, h2, f', p.2, rfl, ?_⟩
          (try simp only [fnW_eq, fnD_nx, fnD_rt, seq_nx, seq_rt, seq_rtF, loop_rtF, seq_bk, seq_ct, loop_nx, loop_rt, loop_bk, loop_ct, wB_cons, wB_nil, wS_asgO, wS_asg, wS_unp, wS_par, wS_parc, wS_sset, wS_sps, wS_exp, wS_ret, wS_retN, wS_ife, wS_pas, wS_brk, wS_cnt, wE, wNs, wAs, wT, wI, wP, norm_d, store_d, vdat_d, norm_new, store_new, norm_newS, store_newS, fin_sh, fin_lst, fresh_lst, walk_d, it_T, it_list, it_tuple, seq_T, seq_list, seq_tuple, seqAll, zipN2, zipN3, bind1, bind2, bind3, wipeS, setAll, seeAll, tru_bool, retv_d, take_all, ex_some,
  List.map_cons, List.map_nil, List.length_cons, List.length_nil, List.cons_append, List.nil_append, List.replicate, List.getElem?_cons_zero, List.getElem?_cons_succ, List.set_cons_zero, List.set_cons_succ, Option.some.injEq, exists_eq_left', exists_eq_left, exists_eq_right, true_and, and_true,
  Nat.reduceAdd, Nat.reduceSub, OO.dat, cmp_in, cmp_notin, exists_and_left, reduceIte, reduceCtorEq, if_true, if_false, Bool.false_eq_true, Vl.d.injEq, PyData.int.injEq, PyData.bool.injEq, PyData.str.injEq, Bool.not_true, Bool.not_false, cmp_lt, cmp_gt, cmp_le, cmp_ge, cmp_eq, cmp_ne, len_tup, len_lst, len_txt, ix_0, ix_1, ix_l0, ix_l1, ix_l2, bin_add, bin_sub, set_l0, set_l1, set_l2, live_lst, max_int, min_int, take_set, take_snoc, List.set_set, List.length_set, Vl.o.injEq, eq_self, decide_true, decide_false, Int.reduceLT, Int.reduceEq, Int.cast_ofNat_Int, Nat.zero_add])
          refine ⟨_, wk_self, putL f' p.2, true, _, _, rfl, put_cs _ _, fun x hx => (mem_put cf' c2).mpr (.inl (sf' x hx)), fun x hx => ?_, .inr ⟨rfl, ?_⟩⟩
          · rcases (mem_put cf' c2).mp hx with z | z
            · exact fc' x z
            · exact clo_step hpm (fun y hy => fc' y (insB_iff.mp q1 y hy)) x z
          · have lt : f'.length < (putL f' p.2).length := by
              refine cs_len cf' (put_cs _ _) (fun x hx => (mem_put cf' c2).mpr (.inl hx)) fun z => ?_
              have : insB p.2 f' = true := insB_iff.mpr fun x hx => z x ((mem_put cf' c2).mpr (.inr hx))
              rw [q2] at this
              cases this
            rcases alt with ⟨e1, e2, e3⟩ | ⟨_, e⟩
            · subst e2; exact lt
            · omega
      · rw [if_neg q1]
        rw [Bool.not_eq_true] at q1
        (try simp only [fnW_eq, fnD_nx, fnD_rt, seq_nx, seq_rt, seq_rtF, loop_rtF, seq_bk, seq_ct, loop_nx, loop_rt, loop_bk, loop_ct, wB_cons, wB_nil, wS_asgO, wS_asg, wS_unp, wS_par, wS_parc, wS_sset, wS_sps, wS_exp, wS_ret, wS_retN, wS_ife, wS_pas, wS_brk, wS_cnt, wE, wNs, wAs, wT, wI, wP, norm_d, store_d, vdat_d, norm_new, store_new, norm_newS, store_newS, fin_sh, fin_lst, fresh_lst, walk_d, it_T, it_list, it_tuple, seq_T, seq_list, seq_tuple, seqAll, zipN2, zipN3, bind1, bind2, bind3, wipeS, setAll, seeAll, tru_bool, retv_d, take_all, ex_some,
  List.map_cons, List.map_nil, List.length_cons, List.length_nil, List.cons_append, List.nil_append, List.replicate, List.getElem?_cons_zero, List.getElem?_cons_succ, List.set_cons_zero, List.set_cons_succ, Option.some.injEq, exists_eq_left', exists_eq_left, exists_eq_right, true_and, and_true,
  Nat.reduceAdd, Nat.reduceSub, OO.dat, cmp_in, cmp_notin, exists_and_left, reduceIte, reduceCtorEq, if_true, if_false, Bool.false_eq_true, Vl.d.injEq, PyData.int.injEq, PyData.bool.injEq, PyData.str.injEq, Bool.not_true, Bool.not_false, cmp_lt, cmp_gt, cmp_le, cmp_ge, cmp_eq, cmp_ne, len_tup, len_lst, len_txt, ix_0, ix_1, ix_l0, ix_l1, ix_l2, bin_add, bin_sub, set_l0, set_l1, set_l2, live_lst, max_int, min_int, take_set, take_snoc, List.set_set, List.length_set, Vl.o.injEq, eq_self, decide_true, decide_false, Int.reduceLT, Int.reduceEq, Int.cast_ofNat_Int, Nat.zero_add])
        refine ⟨_, wk_self, f', b', _, _, rfl, cf', sf', fc', ?_⟩
        rcases alt with ⟨e1, e2, e3⟩ | e
        · refine .inl ⟨e1, e2, fun p' hp' => ?_⟩
          rw [htake] at hp'
          rcases List.mem_append.mp hp' with z | z
          · exact e3 p' z
          · simp at z
            subst z
            subst e2
            intro hall
            rw [insB_iff.mpr hall] at q1
            cases q1
        · exact .inr e
    · rintro st ⟨f', b', l', r', rfl, cf', sf', fc', alt⟩
      (try simp only [fnW_eq, fnD_nx, fnD_rt, seq_nx, seq_rt, seq_rtF, loop_rtF, seq_bk, seq_ct, loop_nx, loop_rt, loop_bk, loop_ct, wB_cons, wB_nil, wS_asgO, wS_asg, wS_unp, wS_par, wS_parc, wS_sset, wS_sps, wS_exp, wS_ret, wS_retN, wS_ife, wS_pas, wS_brk, wS_cnt, wE, wNs, wAs, wT, wI, wP, norm_d, store_d, vdat_d, norm_new, store_new, norm_newS, store_newS, fin_sh, fin_lst, fresh_lst, walk_d, it_T, it_list, it_tuple, seq_T, seq_list, seq_tuple, seqAll, zipN2, zipN3, bind1, bind2, bind3, wipeS, setAll, seeAll, tru_bool, retv_d, take_all, ex_some,
  List.map_cons, List.map_nil, List.length_cons, List.length_nil, List.cons_append, List.nil_append, List.replicate, List.getElem?_cons_zero, List.getElem?_cons_succ, List.set_cons_zero, List.set_cons_succ, Option.some.injEq, exists_eq_left', exists_eq_left, exists_eq_right, true_and, and_true,
  Nat.reduceAdd, Nat.reduceSub, OO.dat, cmp_in, cmp_notin, exists_and_left, reduceIte, reduceCtorEq, if_true, if_false, Bool.false_eq_true, Vl.d.injEq, PyData.int.injEq, PyData.bool.injEq, PyData.str.injEq, Bool.not_true, Bool.not_false, cmp_lt, cmp_gt, cmp_le, cmp_ge, cmp_eq, cmp_ne, len_tup, len_lst, len_txt, ix_0, ix_1, ix_l0, ix_l1, ix_l2, bin_add, bin_sub, set_l0, set_l1, set_l2, live_lst, max_int, min_int, take_set, take_snoc, List.set_set, List.length_set, Vl.o.injEq, eq_self, decide_true, decide_false, Int.reduceLT, Int.reduceEq, Int.cast_ofNat_Int, Nat.zero_add])
      have hf' := cf'.len
      have hf := cf.len
      refine ⟨(8 - f'.length) + b'.toNat, ?_, _, wk_self, f', b', l', r', rfl, cf', sf', fc', ?_, rfl⟩
      · rcases alt with ⟨e1, e2, e3⟩ | ⟨e1, e2⟩
        · subst e1 e2; simp
        · subst e1; simp; omega
      · rcases alt with ⟨e1, e2, e3⟩ | ⟨e1, e2⟩
        · subst e2
          intro _ p hp
          exact e3 p (by rw [List.length_map, List.take_length]; exact hp)
        · subst e1; intro z; cases z
end Kd

namespace Kd
open PySem PySem.Spec PyProof.Rows L2
def S_cell_at : FSpec := fun rs oh Q _ => ∃ (ns : List Int) (k : Int), rs = [.d (scrD (ns.map .int)), .d (.int k)] ∧ 0 ≤ k ∧ ∀ v : Int, Q (.d (.int v)) oh
theorem len_scr (ns : List D) : biD .len [scrD ns] = some (.sh (.int (ns.length : Nat))) := rfl
theorem ix_scr (ns : List D) (i : Int) : ixD (scrD ns) (.int i) = atI ns i := rfl
theorem w_cell_at (Γ : Gv) (rs : List Vl) (oh : OH) (Q : QV) (E : QX) (h : S_cell_at rs oh Q E) : fnW Γ 2 c__law_cell_at rs oh Q E := by
  obtain ⟨ns, k, rfl, hk, q⟩ := h
  (try simp only [fnW_eq, fnD_nx, fnD_rt, seq_nx, seq_rt, seq_rtF, loop_rtF, seq_bk, seq_ct, loop_nx, loop_rt, loop_bk, loop_ct, wB_cons, wB_nil, wS_asgO, wS_asg, wS_unp, wS_par, wS_parc, wS_sset, wS_sps, wS_exp, wS_ret, wS_retN, wS_ife, wS_pas, wS_brk, wS_cnt, wE, wNs, wAs, wT, wI, wP, norm_d, store_d, vdat_d, norm_new, store_new, norm_newS, store_newS, fin_sh, fin_lst, fresh_lst, walk_d, it_T, it_list, it_tuple, seq_T, seq_list, seq_tuple, seqAll, zipN2, zipN3, bind1, bind2, bind3, wipeS, setAll, seeAll, tru_bool, retv_d, take_all, ex_some,
  List.map_cons, List.map_nil, List.length_cons, List.length_nil, List.cons_append, List.nil_append, List.replicate, List.getElem?_cons_zero, List.getElem?_cons_succ, List.set_cons_zero, List.set_cons_succ, Option.some.injEq, exists_eq_left', exists_eq_left, exists_eq_right, true_and, and_true,
  Nat.reduceAdd, Nat.reduceSub, OO.dat, cmp_in, cmp_notin, exists_and_left, reduceIte, reduceCtorEq, if_true, if_false, Bool.false_eq_true, Vl.d.injEq, PyData.int.injEq, PyData.bool.injEq, PyData.str.injEq, Bool.not_true, Bool.not_false, cmp_lt, cmp_gt, cmp_le, cmp_ge, cmp_eq, cmp_ne, len_tup, len_lst, len_txt, ix_0, ix_1, ix_l0, ix_l1, ix_l2, bin_add, bin_sub, set_l0, set_l1, set_l2, live_lst, max_int, min_int, take_set, take_snoc, List.set_set, List.length_set, Vl.o.injEq, eq_self, decide_true, decide_false, Int.reduceLT, Int.reduceEq, Int.cast_ofNat_Int, Nat.zero_add, c__law_cell_at, len_scr])
  by_cases hl : k < ((ns.map (.int : Int → D)).length : Nat)
  · rw [if_pos (decide_eq_true hl)]
    (try simp only [fnW_eq, fnD_nx, fnD_rt, seq_nx, seq_rt, seq_rtF, loop_rtF, seq_bk, seq_ct, loop_nx, loop_rt, loop_bk, loop_ct, wB_cons, wB_nil, wS_asgO, wS_asg, wS_unp, wS_par, wS_parc, wS_sset, wS_sps, wS_exp, wS_ret, wS_retN, wS_ife, wS_pas, wS_brk, wS_cnt, wE, wNs, wAs, wT, wI, wP, norm_d, store_d, vdat_d, norm_new, store_new, norm_newS, store_newS, fin_sh, fin_lst, fresh_lst, walk_d, it_T, it_list, it_tuple, seq_T, seq_list, seq_tuple, seqAll, zipN2, zipN3, bind1, bind2, bind3, wipeS, setAll, seeAll, tru_bool, retv_d, take_all, ex_some,
  List.map_cons, List.map_nil, List.length_cons, List.length_nil, List.cons_append, List.nil_append, List.replicate, List.getElem?_cons_zero, List.getElem?_cons_succ, List.set_cons_zero, List.set_cons_succ, Option.some.injEq, exists_eq_left', exists_eq_left, exists_eq_right, true_and, and_true,
  Nat.reduceAdd, Nat.reduceSub, OO.dat, cmp_in, cmp_notin, exists_and_left, reduceIte, reduceCtorEq, if_true, if_false, Bool.false_eq_true, Vl.d.injEq, PyData.int.injEq, PyData.bool.injEq, PyData.str.injEq, Bool.not_true, Bool.not_false, cmp_lt, cmp_gt, cmp_le, cmp_ge, cmp_eq, cmp_ne, len_tup, len_lst, len_txt, ix_0, ix_1, ix_l0, ix_l1, ix_l2, bin_add, bin_sub, set_l0, set_l1, set_l2, live_lst, max_int, min_int, take_set, take_snoc, List.set_set, List.length_set, Vl.o.injEq, eq_self, decide_true, decide_false, Int.reduceLT, Int.reduceEq, Int.cast_ofNat_Int, Nat.zero_add, ix_scr])
    obtain ⟨n, rfl⟩ : ∃ n : Nat, k = n := ⟨k.toNat, by omega⟩
    have hn : n < ns.length := by simpa using hl
    have e : (ns.map (.int : Int → D))[n]? = some (.int ns[n]) := by simp [List.getElem?_eq_getElem hn]
    rw [at_nat e]
    (try simp only [fnW_eq, fnD_nx, fnD_rt, seq_nx, seq_rt, seq_rtF, loop_rtF, seq_bk, seq_ct, loop_nx, loop_rt, loop_bk, loop_ct, wB_cons, wB_nil, wS_asgO, wS_asg, wS_unp, wS_par, wS_parc, wS_sset, wS_sps, wS_exp, wS_ret, wS_retN, wS_ife, wS_pas, wS_brk, wS_cnt, wE, wNs, wAs, wT, wI, wP, norm_d, store_d, vdat_d, norm_new, store_new, norm_newS, store_newS, fin_sh, fin_lst, fresh_lst, walk_d, it_T, it_list, it_tuple, seq_T, seq_list, seq_tuple, seqAll, zipN2, zipN3, bind1, bind2, bind3, wipeS, setAll, seeAll, tru_bool, retv_d, take_all, ex_some,
  List.map_cons, List.map_nil, List.length_cons, List.length_nil, List.cons_append, List.nil_append, List.replicate, List.getElem?_cons_zero, List.getElem?_cons_succ, List.set_cons_zero, List.set_cons_succ, Option.some.injEq, exists_eq_left', exists_eq_left, exists_eq_right, true_and, and_true,
  Nat.reduceAdd, Nat.reduceSub, OO.dat, cmp_in, cmp_notin, exists_and_left, reduceIte, reduceCtorEq, if_true, if_false, Bool.false_eq_true, Vl.d.injEq, PyData.int.injEq, PyData.bool.injEq, PyData.str.injEq, Bool.not_true, Bool.not_false, cmp_lt, cmp_gt, cmp_le, cmp_ge, cmp_eq, cmp_ne, len_tup, len_lst, len_txt, ix_0, ix_1, ix_l0, ix_l1, ix_l2, bin_add, bin_sub, set_l0, set_l1, set_l2, live_lst, max_int, min_int, take_set, take_snoc, List.set_set, List.length_set, Vl.o.injEq, eq_self, decide_true, decide_false, Int.reduceLT, Int.reduceEq, Int.cast_ofNat_Int, Nat.zero_add])
    exact q _
  · rw [if_neg (by simpa using hl)]
    (try simp only [fnW_eq, fnD_nx, fnD_rt, seq_nx, seq_rt, seq_rtF, loop_rtF, seq_bk, seq_ct, loop_nx, loop_rt, loop_bk, loop_ct, wB_cons, wB_nil, wS_asgO, wS_asg, wS_unp, wS_par, wS_parc, wS_sset, wS_sps, wS_exp, wS_ret, wS_retN, wS_ife, wS_pas, wS_brk, wS_cnt, wE, wNs, wAs, wT, wI, wP, norm_d, store_d, vdat_d, norm_new, store_new, norm_newS, store_newS, fin_sh, fin_lst, fresh_lst, walk_d, it_T, it_list, it_tuple, seq_T, seq_list, seq_tuple, seqAll, zipN2, zipN3, bind1, bind2, bind3, wipeS, setAll, seeAll, tru_bool, retv_d, take_all, ex_some,
  List.map_cons, List.map_nil, List.length_cons, List.length_nil, List.cons_append, List.nil_append, List.replicate, List.getElem?_cons_zero, List.getElem?_cons_succ, List.set_cons_zero, List.set_cons_succ, Option.some.injEq, exists_eq_left', exists_eq_left, exists_eq_right, true_and, and_true,
  Nat.reduceAdd, Nat.reduceSub, OO.dat, cmp_in, cmp_notin, exists_and_left, reduceIte, reduceCtorEq, if_true, if_false, Bool.false_eq_true, Vl.d.injEq, PyData.int.injEq, PyData.bool.injEq, PyData.str.injEq, Bool.not_true, Bool.not_false, cmp_lt, cmp_gt, cmp_le, cmp_ge, cmp_eq, cmp_ne, len_tup, len_lst, len_txt, ix_0, ix_1, ix_l0, ix_l1, ix_l2, bin_add, bin_sub, set_l0, set_l1, set_l2, live_lst, max_int, min_int, take_set, take_snoc, List.set_set, List.length_set, Vl.o.injEq, eq_self, decide_true, decide_false, Int.reduceLT, Int.reduceEq, Int.cast_ofNat_Int, Nat.zero_add, c__law_cell_at_1])
    exact q 0
def S_state : FSpec := fun rs oh Q _ => ∃ (ns : List Int) (k : Int), rs = [.d (scrD (ns.map .int)), .d (.int k)] ∧ 0 ≤ k ∧ ∀ ob, StOk ob → Q (.o oh.length) (oh ++ [ob])
theorem w_state (Γ : Gv) (h1 : Γ.fn "_law_cell_at" = some S_cell_at) (rs : List Vl) (oh : OH) (Q : QV) (E : QX) (h : S_state rs oh Q E) : fnW Γ 3 c__law_state rs oh Q E := by
  obtain ⟨ns, k, rfl, hk, q⟩ := h
  (try simp only [fnW_eq, fnD_nx, fnD_rt, seq_nx, seq_rt, seq_rtF, loop_rtF, seq_bk, seq_ct, loop_nx, loop_rt, loop_bk, loop_ct, wB_cons, wB_nil, wS_asgO, wS_asg, wS_unp, wS_par, wS_parc, wS_sset, wS_sps, wS_exp, wS_ret, wS_retN, wS_ife, wS_pas, wS_brk, wS_cnt, wE, wNs, wAs, wT, wI, wP, norm_d, store_d, vdat_d, norm_new, store_new, norm_newS, store_newS, fin_sh, fin_lst, fresh_lst, walk_d, it_T, it_list, it_tuple, seq_T, seq_list, seq_tuple, seqAll, zipN2, zipN3, bind1, bind2, bind3, wipeS, setAll, seeAll, tru_bool, retv_d, take_all, ex_some,
  List.map_cons, List.map_nil, List.length_cons, List.length_nil, List.cons_append, List.nil_append, List.replicate, List.getElem?_cons_zero, List.getElem?_cons_succ, List.set_cons_zero, List.set_cons_succ, Option.some.injEq, exists_eq_left', exists_eq_left, exists_eq_right, true_and, and_true,
  Nat.reduceAdd, Nat.reduceSub, OO.dat, cmp_in, cmp_notin, exists_and_left, reduceIte, reduceCtorEq, if_true, if_false, Bool.false_eq_true, Vl.d.injEq, PyData.int.injEq, PyData.bool.injEq, PyData.str.injEq, Bool.not_true, Bool.not_false, cmp_lt, cmp_gt, cmp_le, cmp_ge, cmp_eq, cmp_ne, len_tup, len_lst, len_txt, ix_0, ix_1, ix_l0, ix_l1, ix_l2, bin_add, bin_sub, set_l0, set_l1, set_l2, live_lst, max_int, min_int, take_set, take_snoc, List.set_set, List.length_set, Vl.o.injEq, eq_self, decide_true, decide_false, Int.reduceLT, Int.reduceEq, Int.cast_ofNat_Int, Nat.zero_add, c__law_state])
  refine ⟨_, h1, ns, k, rfl, hk, fun v => ?_⟩
  have e1 : binD .Pow (.int 10) (.int 18) = some (.sh (.int (10 ^ 18))) := bin_pow 10 18 (by decide)
  (try simp only [fnW_eq, fnD_nx, fnD_rt, seq_nx, seq_rt, seq_rtF, loop_rtF, seq_bk, seq_ct, loop_nx, loop_rt, loop_bk, loop_ct, wB_cons, wB_nil, wS_asgO, wS_asg, wS_unp, wS_par, wS_parc, wS_sset, wS_sps, wS_exp, wS_ret, wS_retN, wS_ife, wS_pas, wS_brk, wS_cnt, wE, wNs, wAs, wT, wI, wP, norm_d, store_d, vdat_d, norm_new, store_new, norm_newS, store_newS, fin_sh, fin_lst, fresh_lst, walk_d, it_T, it_list, it_tuple, seq_T, seq_list, seq_tuple, seqAll, zipN2, zipN3, bind1, bind2, bind3, wipeS, setAll, seeAll, tru_bool, retv_d, take_all, ex_some,
  List.map_cons, List.map_nil, List.length_cons, List.length_nil, List.cons_append, List.nil_append, List.replicate, List.getElem?_cons_zero, List.getElem?_cons_succ, List.set_cons_zero, List.set_cons_succ, Option.some.injEq, exists_eq_left', exists_eq_left, exists_eq_right, true_and, and_true,
  Nat.reduceAdd, Nat.reduceSub, OO.dat, cmp_in, cmp_notin, exists_and_left, reduceIte, reduceCtorEq, if_true, if_false, Bool.false_eq_true, Vl.d.injEq, PyData.int.injEq, PyData.bool.injEq, PyData.str.injEq, Bool.not_true, Bool.not_false, cmp_lt, cmp_gt, cmp_le, cmp_ge, cmp_eq, cmp_ne, len_tup, len_lst, len_txt, ix_0, ix_1, ix_l0, ix_l1, ix_l2, bin_add, bin_sub, set_l0, set_l1, set_l2, live_lst, max_int, min_int, take_set, take_snoc, List.set_set, List.length_set, Vl.o.injEq, eq_self, decide_true, decide_false, Int.reduceLT, Int.reduceEq, Int.cast_ofNat_Int, Nat.zero_add, c__law_state_1, e1, bin_mod v 2147483629 (by decide)])
  rw [retv_new rfl]
  refine q _ ⟨_, _, _, rfl, ?_, ?_, ?_⟩
  · split <;> omega
  · have := fmod_nn v (j := 2147483629) (by decide); omega
  · have := fmod_lt v (j := 2147483629) (by decide); omega
def S_choice : FSpec := fun rs oh Q _ => ∃ (n : Nat) (m : Int), rs = [.o n, .d (.int m)] ∧ StAt oh n ∧ 0 < m ∧ m < 1073741824 ∧ ∀ (v : Int) ob, 0 ≤ v → v < m → StOk ob → Q (.d (.int v)) (oh.set n ob)
theorem w_choice (Γ : Gv) (rs : List Vl) (oh : OH) (Q : QV) (E : QX) (h : S_choice rs oh Q E) : fnW Γ 4 c__law_choice rs oh Q E := by
  obtain ⟨n, m, rfl, st, hm, hm2, q⟩ := h
  have hn := st.lt
  obtain ⟨_, ho, a, b, c, rfl, ha, hb, hb2⟩ := st.ex
  have nrm : ∀ {Q : QV} {oh' : OH}, norm oh.length (.o n) oh' Q = Q (.o n) oh' := norm_o hn
  have vd : vdat oh (.o n) = some (.list [.int a, .int b, .int c]) := vdat_o ho
  have vs : ∀ ob, vdat (oh.set n ob) (.o n) = some ob.dat := vdat_set hn
  have gs : ∀ ob, (oh.set n ob)[n]? = some ob := get_set hn
  (try simp only [fnW_eq, fnD_nx, fnD_rt, seq_nx, seq_rt, seq_rtF, loop_rtF, seq_bk, seq_ct, loop_nx, loop_rt, loop_bk, loop_ct, wB_cons, wB_nil, wS_asgO, wS_asg, wS_unp, wS_par, wS_parc, wS_sset, wS_sps, wS_exp, wS_ret, wS_retN, wS_ife, wS_pas, wS_brk, wS_cnt, wE, wNs, wAs, wT, wI, wP, norm_d, store_d, vdat_d, norm_new, store_new, norm_newS, store_newS, fin_sh, fin_lst, fresh_lst, walk_d, it_T, it_list, it_tuple, seq_T, seq_list, seq_tuple, seqAll, zipN2, zipN3, bind1, bind2, bind3, wipeS, setAll, seeAll, tru_bool, retv_d, take_all, ex_some,
  List.map_cons, List.map_nil, List.length_cons, List.length_nil, List.cons_append, List.nil_append, List.replicate, List.getElem?_cons_zero, List.getElem?_cons_succ, List.set_cons_zero, List.set_cons_succ, Option.some.injEq, exists_eq_left', exists_eq_left, exists_eq_right, true_and, and_true,
  Nat.reduceAdd, Nat.reduceSub, OO.dat, cmp_in, cmp_notin, exists_and_left, reduceIte, reduceCtorEq, if_true, if_false, Bool.false_eq_true, Vl.d.injEq, PyData.int.injEq, PyData.bool.injEq, PyData.str.injEq, Bool.not_true, Bool.not_false, cmp_lt, cmp_gt, cmp_le, cmp_ge, cmp_eq, cmp_ne, len_tup, len_lst, len_txt, ix_0, ix_1, ix_l0, ix_l1, ix_l2, bin_add, bin_sub, set_l0, set_l1, set_l2, live_lst, max_int, min_int, take_set, take_snoc, List.set_set, List.length_set, Vl.o.injEq, eq_self, decide_true, decide_false, Int.reduceLT, Int.reduceEq, Int.cast_ofNat_Int, Nat.zero_add, c__law_choice, nrm, vd])
  by_cases h0 : 0 < a
  · rw [if_pos (decide_eq_true h0)]
    (try simp only [fnW_eq, fnD_nx, fnD_rt, seq_nx, seq_rt, seq_rtF, loop_rtF, seq_bk, seq_ct, loop_nx, loop_rt, loop_bk, loop_ct, wB_cons, wB_nil, wS_asgO, wS_asg, wS_unp, wS_par, wS_parc, wS_sset, wS_sps, wS_exp, wS_ret, wS_retN, wS_ife, wS_pas, wS_brk, wS_cnt, wE, wNs, wAs, wT, wI, wP, norm_d, store_d, vdat_d, norm_new, store_new, norm_newS, store_newS, fin_sh, fin_lst, fresh_lst, walk_d, it_T, it_list, it_tuple, seq_T, seq_list, seq_tuple, seqAll, zipN2, zipN3, bind1, bind2, bind3, wipeS, setAll, seeAll, tru_bool, retv_d, take_all, ex_some,
  List.map_cons, List.map_nil, List.length_cons, List.length_nil, List.cons_append, List.nil_append, List.replicate, List.getElem?_cons_zero, List.getElem?_cons_succ, List.set_cons_zero, List.set_cons_succ, Option.some.injEq, exists_eq_left', exists_eq_left, exists_eq_right, true_and, and_true,
  Nat.reduceAdd, Nat.reduceSub, OO.dat, cmp_in, cmp_notin, exists_and_left, reduceIte, reduceCtorEq, if_true, if_false, Bool.false_eq_true, Vl.d.injEq, PyData.int.injEq, PyData.bool.injEq, PyData.str.injEq, Bool.not_true, Bool.not_false, cmp_lt, cmp_gt, cmp_le, cmp_ge, cmp_eq, cmp_ne, len_tup, len_lst, len_txt, ix_0, ix_1, ix_l0, ix_l1, ix_l2, bin_add, bin_sub, set_l0, set_l1, set_l2, live_lst, max_int, min_int, take_set, take_snoc, List.set_set, List.length_set, Vl.o.injEq, eq_self, decide_true, decide_false, Int.reduceLT, Int.reduceEq, Int.cast_ofNat_Int, Nat.zero_add, c__law_choice_6, nrm, vd, bin_mod a m hm])
    (try simp only [fnW_eq, fnD_nx, fnD_rt, seq_nx, seq_rt, seq_rtF, loop_rtF, seq_bk, seq_ct, loop_nx, loop_rt, loop_bk, loop_ct, wB_cons, wB_nil, wS_asgO, wS_asg, wS_unp, wS_par, wS_parc, wS_sset, wS_sps, wS_exp, wS_ret, wS_retN, wS_ife, wS_pas, wS_brk, wS_cnt, wE, wNs, wAs, wT, wI, wP, norm_d, store_d, vdat_d, norm_new, store_new, norm_newS, store_newS, fin_sh, fin_lst, fresh_lst, walk_d, it_T, it_list, it_tuple, seq_T, seq_list, seq_tuple, seqAll, zipN2, zipN3, bind1, bind2, bind3, wipeS, setAll, seeAll, tru_bool, retv_d, take_all, ex_some,
  List.map_cons, List.map_nil, List.length_cons, List.length_nil, List.cons_append, List.nil_append, List.replicate, List.getElem?_cons_zero, List.getElem?_cons_succ, List.set_cons_zero, List.set_cons_succ, Option.some.injEq, exists_eq_left', exists_eq_left, exists_eq_right, true_and, and_true,
  Nat.reduceAdd, Nat.reduceSub, OO.dat, cmp_in, cmp_notin, exists_and_left, reduceIte, reduceCtorEq, if_true, if_false, Bool.false_eq_true, Vl.d.injEq, PyData.int.injEq, PyData.bool.injEq, PyData.str.injEq, Bool.not_true, Bool.not_false, cmp_lt, cmp_gt, cmp_le, cmp_ge, cmp_eq, cmp_ne, len_tup, len_lst, len_txt, ix_0, ix_1, ix_l0, ix_l1, ix_l2, bin_add, bin_sub, set_l0, set_l1, set_l2, live_lst, max_int, min_int, take_set, take_snoc, List.set_set, List.length_set, Vl.o.injEq, eq_self, decide_true, decide_false, Int.reduceLT, Int.reduceEq, Int.cast_ofNat_Int, Nat.zero_add, c__law_choice_7, nrm, vd, bin_div a m ⟨hm, hm2⟩, ho])
    (try simp only [fnW_eq, fnD_nx, fnD_rt, seq_nx, seq_rt, seq_rtF, loop_rtF, seq_bk, seq_ct, loop_nx, loop_rt, loop_bk, loop_ct, wB_cons, wB_nil, wS_asgO, wS_asg, wS_unp, wS_par, wS_parc, wS_sset, wS_sps, wS_exp, wS_ret, wS_retN, wS_ife, wS_pas, wS_brk, wS_cnt, wE, wNs, wAs, wT, wI, wP, norm_d, store_d, vdat_d, norm_new, store_new, norm_newS, store_newS, fin_sh, fin_lst, fresh_lst, walk_d, it_T, it_list, it_tuple, seq_T, seq_list, seq_tuple, seqAll, zipN2, zipN3, bind1, bind2, bind3, wipeS, setAll, seeAll, tru_bool, retv_d, take_all, ex_some,
  List.map_cons, List.map_nil, List.length_cons, List.length_nil, List.cons_append, List.nil_append, List.replicate, List.getElem?_cons_zero, List.getElem?_cons_succ, List.set_cons_zero, List.set_cons_succ, Option.some.injEq, exists_eq_left', exists_eq_left, exists_eq_right, true_and, and_true,
  Nat.reduceAdd, Nat.reduceSub, OO.dat, cmp_in, cmp_notin, exists_and_left, reduceIte, reduceCtorEq, if_true, if_false, Bool.false_eq_true, Vl.d.injEq, PyData.int.injEq, PyData.bool.injEq, PyData.str.injEq, Bool.not_true, Bool.not_false, cmp_lt, cmp_gt, cmp_le, cmp_ge, cmp_eq, cmp_ne, len_tup, len_lst, len_txt, ix_0, ix_1, ix_l0, ix_l1, ix_l2, bin_add, bin_sub, set_l0, set_l1, set_l2, live_lst, max_int, min_int, take_set, take_snoc, List.set_set, List.length_set, Vl.o.injEq, eq_self, decide_true, decide_false, Int.reduceLT, Int.reduceEq, Int.cast_ofNat_Int, Nat.zero_add, c__law_choice_8])
    exact q _ _ (fmod_nn a hm) (fmod_lt a hm) ⟨_, _, _, rfl, fdiv_nn ha hm, hb, hb2⟩
  · rw [if_neg (by simpa using h0)]
    (try simp only [fnW_eq, fnD_nx, fnD_rt, seq_nx, seq_rt, seq_rtF, loop_rtF, seq_bk, seq_ct, loop_nx, loop_rt, loop_bk, loop_ct, wB_cons, wB_nil, wS_asgO, wS_asg, wS_unp, wS_par, wS_parc, wS_sset, wS_sps, wS_exp, wS_ret, wS_retN, wS_ife, wS_pas, wS_brk, wS_cnt, wE, wNs, wAs, wT, wI, wP, norm_d, store_d, vdat_d, norm_new, store_new, norm_newS, store_newS, fin_sh, fin_lst, fresh_lst, walk_d, it_T, it_list, it_tuple, seq_T, seq_list, seq_tuple, seqAll, zipN2, zipN3, bind1, bind2, bind3, wipeS, setAll, seeAll, tru_bool, retv_d, take_all, ex_some,
  List.map_cons, List.map_nil, List.length_cons, List.length_nil, List.cons_append, List.nil_append, List.replicate, List.getElem?_cons_zero, List.getElem?_cons_succ, List.set_cons_zero, List.set_cons_succ, Option.some.injEq, exists_eq_left', exists_eq_left, exists_eq_right, true_and, and_true,
  Nat.reduceAdd, Nat.reduceSub, OO.dat, cmp_in, cmp_notin, exists_and_left, reduceIte, reduceCtorEq, if_true, if_false, Bool.false_eq_true, Vl.d.injEq, PyData.int.injEq, PyData.bool.injEq, PyData.str.injEq, Bool.not_true, Bool.not_false, cmp_lt, cmp_gt, cmp_le, cmp_ge, cmp_eq, cmp_ne, len_tup, len_lst, len_txt, ix_0, ix_1, ix_l0, ix_l1, ix_l2, bin_add, bin_sub, set_l0, set_l1, set_l2, live_lst, max_int, min_int, take_set, take_snoc, List.set_set, List.length_set, Vl.o.injEq, eq_self, decide_true, decide_false, Int.reduceLT, Int.reduceEq, Int.cast_ofNat_Int, Nat.zero_add, c__law_choice_1, nrm, vd, ho])
    have b1 := fmod_nn (b * 48271 + 29 + (c + 1)) (j := 2147483647) (by decide)
    have b2 := fmod_lt (b * 48271 + 29 + (c + 1)) (j := 2147483647) (by decide)
    (try simp only [fnW_eq, fnD_nx, fnD_rt, seq_nx, seq_rt, seq_rtF, loop_rtF, seq_bk, seq_ct, loop_nx, loop_rt, loop_bk, loop_ct, wB_cons, wB_nil, wS_asgO, wS_asg, wS_unp, wS_par, wS_parc, wS_sset, wS_sps, wS_exp, wS_ret, wS_retN, wS_ife, wS_pas, wS_brk, wS_cnt, wE, wNs, wAs, wT, wI, wP, norm_d, store_d, vdat_d, norm_new, store_new, norm_newS, store_newS, fin_sh, fin_lst, fresh_lst, walk_d, it_T, it_list, it_tuple, seq_T, seq_list, seq_tuple, seqAll, zipN2, zipN3, bind1, bind2, bind3, wipeS, setAll, seeAll, tru_bool, retv_d, take_all, ex_some,
  List.map_cons, List.map_nil, List.length_cons, List.length_nil, List.cons_append, List.nil_append, List.replicate, List.getElem?_cons_zero, List.getElem?_cons_succ, List.set_cons_zero, List.set_cons_succ, Option.some.injEq, exists_eq_left', exists_eq_left, exists_eq_right, true_and, and_true,
  Nat.reduceAdd, Nat.reduceSub, OO.dat, cmp_in, cmp_notin, exists_and_left, reduceIte, reduceCtorEq, if_true, if_false, Bool.false_eq_true, Vl.d.injEq, PyData.int.injEq, PyData.bool.injEq, PyData.str.injEq, Bool.not_true, Bool.not_false, cmp_lt, cmp_gt, cmp_le, cmp_ge, cmp_eq, cmp_ne, len_tup, len_lst, len_txt, ix_0, ix_1, ix_l0, ix_l1, ix_l2, bin_add, bin_sub, set_l0, set_l1, set_l2, live_lst, max_int, min_int, take_set, take_snoc, List.set_set, List.length_set, Vl.o.injEq, eq_self, decide_true, decide_false, Int.reduceLT, Int.reduceEq, Int.cast_ofNat_Int, Nat.zero_add, c__law_choice_2, nrm, vs, gs, bin_mulR b 48271 (by decide), bin_mod (b * 48271 + 29 + (c + 1)) 2147483647 (by decide)])
    generalize (b * 48271 + 29 + (c + 1)).fmod 2147483647 = b' at b1 b2 ⊢
    (try simp only [fnW_eq, fnD_nx, fnD_rt, seq_nx, seq_rt, seq_rtF, loop_rtF, seq_bk, seq_ct, loop_nx, loop_rt, loop_bk, loop_ct, wB_cons, wB_nil, wS_asgO, wS_asg, wS_unp, wS_par, wS_parc, wS_sset, wS_sps, wS_exp, wS_ret, wS_retN, wS_ife, wS_pas, wS_brk, wS_cnt, wE, wNs, wAs, wT, wI, wP, norm_d, store_d, vdat_d, norm_new, store_new, norm_newS, store_newS, fin_sh, fin_lst, fresh_lst, walk_d, it_T, it_list, it_tuple, seq_T, seq_list, seq_tuple, seqAll, zipN2, zipN3, bind1, bind2, bind3, wipeS, setAll, seeAll, tru_bool, retv_d, take_all, ex_some,
  List.map_cons, List.map_nil, List.length_cons, List.length_nil, List.cons_append, List.nil_append, List.replicate, List.getElem?_cons_zero, List.getElem?_cons_succ, List.set_cons_zero, List.set_cons_succ, Option.some.injEq, exists_eq_left', exists_eq_left, exists_eq_right, true_and, and_true,
  Nat.reduceAdd, Nat.reduceSub, OO.dat, cmp_in, cmp_notin, exists_and_left, reduceIte, reduceCtorEq, if_true, if_false, Bool.false_eq_true, Vl.d.injEq, PyData.int.injEq, PyData.bool.injEq, PyData.str.injEq, Bool.not_true, Bool.not_false, cmp_lt, cmp_gt, cmp_le, cmp_ge, cmp_eq, cmp_ne, len_tup, len_lst, len_txt, ix_0, ix_1, ix_l0, ix_l1, ix_l2, bin_add, bin_sub, set_l0, set_l1, set_l2, live_lst, max_int, min_int, take_set, take_snoc, List.set_set, List.length_set, Vl.o.injEq, eq_self, decide_true, decide_false, Int.reduceLT, Int.reduceEq, Int.cast_ofNat_Int, Nat.zero_add, c__law_choice_3, nrm, vs, gs, bin_mulR b' b' (by omega), bin_mulL 39373 b' (by decide), bin_mod (b' * b' + 39373 * b' + 7) 2147483629 (by decide)])
    have d1 := fmod_nn (b' * b' + 39373 * b' + 7) (j := 2147483629) (by decide)
    have d2 := fmod_lt (b' * b' + 39373 * b' + 7) (j := 2147483629) (by decide)
    generalize (b' * b' + 39373 * b' + 7).fmod 2147483629 = e at d1 d2 ⊢
    (try simp only [fnW_eq, fnD_nx, fnD_rt, seq_nx, seq_rt, seq_rtF, loop_rtF, seq_bk, seq_ct, loop_nx, loop_rt, loop_bk, loop_ct, wB_cons, wB_nil, wS_asgO, wS_asg, wS_unp, wS_par, wS_parc, wS_sset, wS_sps, wS_exp, wS_ret, wS_retN, wS_ife, wS_pas, wS_brk, wS_cnt, wE, wNs, wAs, wT, wI, wP, norm_d, store_d, vdat_d, norm_new, store_new, norm_newS, store_newS, fin_sh, fin_lst, fresh_lst, walk_d, it_T, it_list, it_tuple, seq_T, seq_list, seq_tuple, seqAll, zipN2, zipN3, bind1, bind2, bind3, wipeS, setAll, seeAll, tru_bool, retv_d, take_all, ex_some,
  List.map_cons, List.map_nil, List.length_cons, List.length_nil, List.cons_append, List.nil_append, List.replicate, List.getElem?_cons_zero, List.getElem?_cons_succ, List.set_cons_zero, List.set_cons_succ, Option.some.injEq, exists_eq_left', exists_eq_left, exists_eq_right, true_and, and_true,
  Nat.reduceAdd, Nat.reduceSub, OO.dat, cmp_in, cmp_notin, exists_and_left, reduceIte, reduceCtorEq, if_true, if_false, Bool.false_eq_true, Vl.d.injEq, PyData.int.injEq, PyData.bool.injEq, PyData.str.injEq, Bool.not_true, Bool.not_false, cmp_lt, cmp_gt, cmp_le, cmp_ge, cmp_eq, cmp_ne, len_tup, len_lst, len_txt, ix_0, ix_1, ix_l0, ix_l1, ix_l2, bin_add, bin_sub, set_l0, set_l1, set_l2, live_lst, max_int, min_int, take_set, take_snoc, List.set_set, List.length_set, Vl.o.injEq, eq_self, decide_true, decide_false, Int.reduceLT, Int.reduceEq, Int.cast_ofNat_Int, Nat.zero_add, c__law_choice_4, bin_mulR e e (by omega), bin_mulL 50021 e (by decide), bin_mod (e * e + 50021 * e) 2147483587 (by decide)])
    generalize (e * e + 50021 * e).fmod 2147483587 = x
    (try simp only [fnW_eq, fnD_nx, fnD_rt, seq_nx, seq_rt, seq_rtF, loop_rtF, seq_bk, seq_ct, loop_nx, loop_rt, loop_bk, loop_ct, wB_cons, wB_nil, wS_asgO, wS_asg, wS_unp, wS_par, wS_parc, wS_sset, wS_sps, wS_exp, wS_ret, wS_retN, wS_ife, wS_pas, wS_brk, wS_cnt, wE, wNs, wAs, wT, wI, wP, norm_d, store_d, vdat_d, norm_new, store_new, norm_newS, store_newS, fin_sh, fin_lst, fresh_lst, walk_d, it_T, it_list, it_tuple, seq_T, seq_list, seq_tuple, seqAll, zipN2, zipN3, bind1, bind2, bind3, wipeS, setAll, seeAll, tru_bool, retv_d, take_all, ex_some,
  List.map_cons, List.map_nil, List.length_cons, List.length_nil, List.cons_append, List.nil_append, List.replicate, List.getElem?_cons_zero, List.getElem?_cons_succ, List.set_cons_zero, List.set_cons_succ, Option.some.injEq, exists_eq_left', exists_eq_left, exists_eq_right, true_and, and_true,
  Nat.reduceAdd, Nat.reduceSub, OO.dat, cmp_in, cmp_notin, exists_and_left, reduceIte, reduceCtorEq, if_true, if_false, Bool.false_eq_true, Vl.d.injEq, PyData.int.injEq, PyData.bool.injEq, PyData.str.injEq, Bool.not_true, Bool.not_false, cmp_lt, cmp_gt, cmp_le, cmp_ge, cmp_eq, cmp_ne, len_tup, len_lst, len_txt, ix_0, ix_1, ix_l0, ix_l1, ix_l2, bin_add, bin_sub, set_l0, set_l1, set_l2, live_lst, max_int, min_int, take_set, take_snoc, List.set_set, List.length_set, Vl.o.injEq, eq_self, decide_true, decide_false, Int.reduceLT, Int.reduceEq, Int.cast_ofNat_Int, Nat.zero_add, c__law_choice_5, bin_div x 8 (by decide), bin_mod (x.fdiv 8) m hm])
    exact q _ _ (fmod_nn _ hm) (fmod_lt _ hm) ⟨_, _, _, rfl, ha, b1, by omega⟩
end Kd

namespace Kd
open PySem PySem.Spec PyProof.Rows L2
theorem bin_T (a b : List Nat) (h : a.length + b.length ≤ 100000) : binD .Add (T a) (T b) = some (.sh (T (a ++ b))) := by
  have e : (⟨a.toArray⟩ : Str) ++ (⟨b.toArray⟩ : Str) = ⟨(a ++ b).toArray⟩ := by
    show (⟨a.toArray ++ b.toArray⟩ : Str) = _
    simp
  show (if Str.length ⟨a.toArray⟩ + Str.length ⟨b.toArray⟩ ≤ sizeLine then _ else _) = _
  rw [len_T, len_T, if_pos (Nat.le_trans h line_1000), e]
  rfl
/-! ### parts of a set of columns -/
theorem cols_nodup : cols.Nodup := by decide
theorem sub_filter : ∀ {r l : List Nat}, r.Sublist l → l.Nodup → r = l.filter fun c => decide (c ∈ r) := by
  intro r l h
  induction h with
  | slnil => intro _; rfl
  | @cons r l a h ih =>
    intro nd
    have nd' := List.nodup_cons.mp nd
    have na : a ∉ r := fun z => nd'.1 (h.subset z)
    rw [List.filter_cons, if_neg (by simpa using na)]
    exact ih nd'.2
  | @cons_cons r l a h ih =>
    intro nd
    have nd' := List.nodup_cons.mp nd
    rw [List.filter_cons, if_pos (by simp)]
    congr 1
    refine (ih nd'.2).trans (List.filter_congr fun c hc => ?_)
    have hne : c ≠ a := fun z => nd'.1 (z ▸ hc)
    rw [Bool.eq_iff_iff]
    simp only [decide_eq_true_eq, List.mem_cons]
    exact ⟨fun q => .inr q, fun q => q.elim (fun z => absurd z hne) id⟩
theorem cs_sub {a : List Nat} (h : IsCS a) : a.Sublist cols := by rw [← h]; exact List.filter_sublist
theorem sub_cs {r a : List Nat} (h : IsCS a) (hr : r.Sublist a) : IsCS r := (sub_filter (hr.trans (cs_sub h)) cols_nodup).symm
theorem cs_nodup {a : List Nat} (h : IsCS a) : a.Nodup := (cs_sub h).nodup cols_nodup
theorem sub_ins {r a : List Nat} (hr : r.Sublist a) : insB r a = true := insB_iff.mpr fun x hx => hr.subset hx
/-! ### _law_bits -/
def S_bits : FSpec := fun rs oh Q _ => ∃ (hd : List Nat) (v : Int), rs = [.d (T hd), .d (.int v)] ∧ hd.length ≤ 1000 ∧ 0 ≤ v ∧ ∀ r : List Nat, r.Sublist hd → (0 < v → v < 2 ^ hd.length → r ≠ []) → Q (.d (T r)) oh
theorem w_bits (Γ : Gv) (rs : List Vl) (oh : OH) (Q : QV) (E : QX) (h : S_bits rs oh Q E) : fnW Γ 4 c__law_bits rs oh Q E := by
  obtain ⟨hd, v, rfl, hl, hv, q⟩ := h
  (try simp only [fnW_eq, fnD_nx, fnD_rt, seq_nx, seq_rt, seq_rtF, loop_rtF, seq_bk, seq_ct, loop_nx, loop_rt, loop_bk, loop_ct, wB_cons, wB_nil, wS_asgO, wS_asg, wS_unp, wS_par, wS_parc, wS_sset, wS_sps, wS_exp, wS_ret, wS_retN, wS_ife, wS_pas, wS_brk, wS_cnt, wE, wNs, wAs, wT, wI, wP, norm_d, store_d, vdat_d, norm_new, store_new, norm_newS, store_newS, fin_sh, fin_lst, fresh_lst, walk_d, it_T, it_list, it_tuple, seq_T, seq_list, seq_tuple, seqAll, zipN2, zipN3, bind1, bind2, bind3, wipeS, setAll, seeAll, tru_bool, retv_d, take_all, ex_some,
  List.map_cons, List.map_nil, List.length_cons, List.length_nil, List.cons_append, List.nil_append, List.replicate, List.getElem?_cons_zero, List.getElem?_cons_succ, List.set_cons_zero, List.set_cons_succ, Option.some.injEq, exists_eq_left', exists_eq_left, exists_eq_right, true_and, and_true,
  Nat.reduceAdd, Nat.reduceSub, OO.dat, cmp_in, cmp_notin, exists_and_left, reduceIte, reduceCtorEq, if_true, if_false, Bool.false_eq_true, Vl.d.injEq, PyData.int.injEq, PyData.bool.injEq, PyData.str.injEq, Bool.not_true, Bool.not_false, cmp_lt, cmp_gt, cmp_le, cmp_ge, cmp_eq, cmp_ne, len_tup, len_lst, len_txt, ix_0, ix_1, ix_l0, ix_l1, ix_l2, bin_add, bin_sub, set_l0, set_l1, set_l2, live_lst, max_int, min_int, take_set, take_snoc, List.set_set, List.length_set, Vl.o.injEq, eq_self, decide_true, decide_false, Int.reduceLT, Int.reduceEq, Int.cast_ofNat_Int, Nat.zero_add, c__law_bits, T_nil])
  rw [c__law_bits_1, wB_cons, wS_for]
  (try simp only [fnW_eq, fnD_nx, fnD_rt, seq_nx, seq_rt, seq_rtF, loop_rtF, seq_bk, seq_ct, loop_nx, loop_rt, loop_bk, loop_ct, wB_cons, wB_nil, wS_asgO, wS_asg, wS_unp, wS_par, wS_parc, wS_sset, wS_sps, wS_exp, wS_ret, wS_retN, wS_ife, wS_pas, wS_brk, wS_cnt, wE, wNs, wAs, wT, wI, wP, norm_d, store_d, vdat_d, norm_new, store_new, norm_newS, store_newS, fin_sh, fin_lst, fresh_lst, walk_d, it_T, it_list, it_tuple, seq_T, seq_list, seq_tuple, seqAll, zipN2, zipN3, bind1, bind2, bind3, wipeS, setAll, seeAll, tru_bool, retv_d, take_all, ex_some,
  List.map_cons, List.map_nil, List.length_cons, List.length_nil, List.cons_append, List.nil_append, List.replicate, List.getElem?_cons_zero, List.getElem?_cons_succ, List.set_cons_zero, List.set_cons_succ, Option.some.injEq, exists_eq_left', exists_eq_left, exists_eq_right, true_and, and_true,
  Nat.reduceAdd, Nat.reduceSub, OO.dat, cmp_in, cmp_notin, exists_and_left, reduceIte, reduceCtorEq, if_true, if_false, Bool.false_eq_true, Vl.d.injEq, PyData.int.injEq, PyData.bool.injEq, PyData.str.injEq, Bool.not_true, Bool.not_false, cmp_lt, cmp_gt, cmp_le, cmp_ge, cmp_eq, cmp_ne, len_tup, len_lst, len_txt, ix_0, ix_1, ix_l0, ix_l1, ix_l2, bin_add, bin_sub, set_l0, set_l1, set_l2, live_lst, max_int, min_int, take_set, take_snoc, List.set_set, List.length_set, Vl.o.injEq, eq_self, decide_true, decide_false, Int.reduceLT, Int.reduceEq, Int.cast_ofNat_Int, Nat.zero_add])
  refine ⟨fun i st => ∃ f x c, st = ⟨[some (.d (T hd)), some (.d (.int x)), some (.d (T f)), c], oh⟩ ∧ f.Sublist (hd.take i) ∧ 0 ≤ x ∧ (f = [] → v = x * 2 ^ i), ⟨[], v, none, rfl, by simp, hv, fun _ => by simp⟩, fun _ _ _ _ => trivial, ?_, ?_⟩
  · rintro i d st hdi ⟨f, x, c, rfl, hf, hx, h0⟩
    rw [List.getElem?_map] at hdi
    obtain ⟨col, hci, rfl⟩ := Option.map_eq_some_iff.mp hdi
    have htake : hd.take (i + 1) = hd.take i ++ [col] := by
      rw [List.take_succ, hci]; rfl
    have hfl : f.length ≤ 1000 := Nat.le_trans hf.length_le (by simp; omega)
    have e2 : x.fmod 2 = x % 2 := Int.fmod_eq_emod_of_nonneg x (by decide)
    have e3 : x.fdiv 2 = x / 2 := Int.fdiv_eq_ediv_of_nonneg x (by decide)
    (try simp only [fnW_eq, fnD_nx, fnD_rt, seq_nx, seq_rt, seq_rtF, loop_rtF, seq_bk, seq_ct, loop_nx, loop_rt, loop_bk, loop_ct, wB_cons, wB_nil, wS_asgO, wS_asg, wS_unp, wS_par, wS_parc, wS_sset, wS_sps, wS_exp, wS_ret, wS_retN, wS_ife, wS_pas, wS_brk, wS_cnt, wE, wNs, wAs, wT, wI, wP, norm_d, store_d, vdat_d, norm_new, store_new, norm_newS, store_newS, fin_sh, fin_lst, fresh_lst, walk_d, it_T, it_list, it_tuple, seq_T, seq_list, seq_tuple, seqAll, zipN2, zipN3, bind1, bind2, bind3, wipeS, setAll, seeAll, tru_bool, retv_d, take_all, ex_some,
  List.map_cons, List.map_nil, List.length_cons, List.length_nil, List.cons_append, List.nil_append, List.replicate, List.getElem?_cons_zero, List.getElem?_cons_succ, List.set_cons_zero, List.set_cons_succ, Option.some.injEq, exists_eq_left', exists_eq_left, exists_eq_right, true_and, and_true,
  Nat.reduceAdd, Nat.reduceSub, OO.dat, cmp_in, cmp_notin, exists_and_left, reduceIte, reduceCtorEq, if_true, if_false, Bool.false_eq_true, Vl.d.injEq, PyData.int.injEq, PyData.bool.injEq, PyData.str.injEq, Bool.not_true, Bool.not_false, cmp_lt, cmp_gt, cmp_le, cmp_ge, cmp_eq, cmp_ne, len_tup, len_lst, len_txt, ix_0, ix_1, ix_l0, ix_l1, ix_l2, bin_add, bin_sub, set_l0, set_l1, set_l2, live_lst, max_int, min_int, take_set, take_snoc, List.set_set, List.length_set, Vl.o.injEq, eq_self, decide_true, decide_false, Int.reduceLT, Int.reduceEq, Int.cast_ofNat_Int, Nat.zero_add, c__law_bits_3, bin_mod x 2 (by decide), e2])
    by_cases hb : x % 2 = 1
    · rw [if_pos (decide_eq_true hb)]
      (try simp only [fnW_eq, fnD_nx, fnD_rt, seq_nx, seq_rt, seq_rtF, loop_rtF, seq_bk, seq_ct, loop_nx, loop_rt, loop_bk, loop_ct, wB_cons, wB_nil, wS_asgO, wS_asg, wS_unp, wS_par, wS_parc, wS_sset, wS_sps, wS_exp, wS_ret, wS_retN, wS_ife, wS_pas, wS_brk, wS_cnt, wE, wNs, wAs, wT, wI, wP, norm_d, store_d, vdat_d, norm_new, store_new, norm_newS, store_newS, fin_sh, fin_lst, fresh_lst, walk_d, it_T, it_list, it_tuple, seq_T, seq_list, seq_tuple, seqAll, zipN2, zipN3, bind1, bind2, bind3, wipeS, setAll, seeAll, tru_bool, retv_d, take_all, ex_some,
  List.map_cons, List.map_nil, List.length_cons, List.length_nil, List.cons_append, List.nil_append, List.replicate, List.getElem?_cons_zero, List.getElem?_cons_succ, List.set_cons_zero, List.set_cons_succ, Option.some.injEq, exists_eq_left', exists_eq_left, exists_eq_right, true_and, and_true,
  Nat.reduceAdd, Nat.reduceSub, OO.dat, cmp_in, cmp_notin, exists_and_left, reduceIte, reduceCtorEq, if_true, if_false, Bool.false_eq_true, Vl.d.injEq, PyData.int.injEq, PyData.bool.injEq, PyData.str.injEq, Bool.not_true, Bool.not_false, cmp_lt, cmp_gt, cmp_le, cmp_ge, cmp_eq, cmp_ne, len_tup, len_lst, len_txt, ix_0, ix_1, ix_l0, ix_l1, ix_l2, bin_add, bin_sub, set_l0, set_l1, set_l2, live_lst, max_int, min_int, take_set, take_snoc, List.set_set, List.length_set, Vl.o.injEq, eq_self, decide_true, decide_false, Int.reduceLT, Int.reduceEq, Int.cast_ofNat_Int, Nat.zero_add, bin_T f [col] (by simp; omega), c__law_bits_4, bin_div x 2 (by decide), e3])
      refine ⟨_, wk_self, f ++ [col], x / 2, _, rfl, ?_, by omega, fun z => by simp at z⟩
      rw [htake]
      exact List.Sublist.append hf (List.Sublist.refl _)
    · rw [if_neg (by simpa using hb)]
      (try simp only [fnW_eq, fnD_nx, fnD_rt, seq_nx, seq_rt, seq_rtF, loop_rtF, seq_bk, seq_ct, loop_nx, loop_rt, loop_bk, loop_ct, wB_cons, wB_nil, wS_asgO, wS_asg, wS_unp, wS_par, wS_parc, wS_sset, wS_sps, wS_exp, wS_ret, wS_retN, wS_ife, wS_pas, wS_brk, wS_cnt, wE, wNs, wAs, wT, wI, wP, norm_d, store_d, vdat_d, norm_new, store_new, norm_newS, store_newS, fin_sh, fin_lst, fresh_lst, walk_d, it_T, it_list, it_tuple, seq_T, seq_list, seq_tuple, seqAll, zipN2, zipN3, bind1, bind2, bind3, wipeS, setAll, seeAll, tru_bool, retv_d, take_all, ex_some,
  List.map_cons, List.map_nil, List.length_cons, List.length_nil, List.cons_append, List.nil_append, List.replicate, List.getElem?_cons_zero, List.getElem?_cons_succ, List.set_cons_zero, List.set_cons_succ, Option.some.injEq, exists_eq_left', exists_eq_left, exists_eq_right, true_and, and_true,
  Nat.reduceAdd, Nat.reduceSub, OO.dat, cmp_in, cmp_notin, exists_and_left, reduceIte, reduceCtorEq, if_true, if_false, Bool.false_eq_true, Vl.d.injEq, PyData.int.injEq, PyData.bool.injEq, PyData.str.injEq, Bool.not_true, Bool.not_false, cmp_lt, cmp_gt, cmp_le, cmp_ge, cmp_eq, cmp_ne, len_tup, len_lst, len_txt, ix_0, ix_1, ix_l0, ix_l1, ix_l2, bin_add, bin_sub, set_l0, set_l1, set_l2, live_lst, max_int, min_int, take_set, take_snoc, List.set_set, List.length_set, Vl.o.injEq, eq_self, decide_true, decide_false, Int.reduceLT, Int.reduceEq, Int.cast_ofNat_Int, Nat.zero_add, c__law_bits_4, bin_div x 2 (by decide), e3])
      refine ⟨_, wk_self, f, x / 2, _, rfl, ?_, by omega, fun z => ?_⟩
      · rw [htake]
        exact hf.trans (List.sublist_append_left _ _)
      · rw [h0 z, Int.pow_succ]
        have : x = x / 2 * 2 := by omega
        generalize x / 2 = y at this
        subst this
        rw [Int.mul_assoc, Int.mul_comm 2]
  · rintro st ⟨f, x, c, rfl, hf, hx, h0⟩
    (try simp only [fnW_eq, fnD_nx, fnD_rt, seq_nx, seq_rt, seq_rtF, loop_rtF, seq_bk, seq_ct, loop_nx, loop_rt, loop_bk, loop_ct, wB_cons, wB_nil, wS_asgO, wS_asg, wS_unp, wS_par, wS_parc, wS_sset, wS_sps, wS_exp, wS_ret, wS_retN, wS_ife, wS_pas, wS_brk, wS_cnt, wE, wNs, wAs, wT, wI, wP, norm_d, store_d, vdat_d, norm_new, store_new, norm_newS, store_newS, fin_sh, fin_lst, fresh_lst, walk_d, it_T, it_list, it_tuple, seq_T, seq_list, seq_tuple, seqAll, zipN2, zipN3, bind1, bind2, bind3, wipeS, setAll, seeAll, tru_bool, retv_d, take_all, ex_some,
  List.map_cons, List.map_nil, List.length_cons, List.length_nil, List.cons_append, List.nil_append, List.replicate, List.getElem?_cons_zero, List.getElem?_cons_succ, List.set_cons_zero, List.set_cons_succ, Option.some.injEq, exists_eq_left', exists_eq_left, exists_eq_right, true_and, and_true,
  Nat.reduceAdd, Nat.reduceSub, OO.dat, cmp_in, cmp_notin, exists_and_left, reduceIte, reduceCtorEq, if_true, if_false, Bool.false_eq_true, Vl.d.injEq, PyData.int.injEq, PyData.bool.injEq, PyData.str.injEq, Bool.not_true, Bool.not_false, cmp_lt, cmp_gt, cmp_le, cmp_ge, cmp_eq, cmp_ne, len_tup, len_lst, len_txt, ix_0, ix_1, ix_l0, ix_l1, ix_l2, bin_add, bin_sub, set_l0, set_l1, set_l2, live_lst, max_int, min_int, take_set, take_snoc, List.set_set, List.length_set, Vl.o.injEq, eq_self, decide_true, decide_false, Int.reduceLT, Int.reduceEq, Int.cast_ofNat_Int, Nat.zero_add, c__law_bits_2])
    rw [List.length_map] at hf h0
    rw [List.take_length] at hf
    refine q f hf fun hv1 hv2 z => ?_
    have e := h0 z
    rw [e] at hv1 hv2
    rcases Int.le_iff_lt_or_eq.mp hx with h1 | h1
    · have : (1 : Int) * 2 ^ hd.length ≤ x * 2 ^ hd.length := Int.mul_le_mul_of_nonneg_right (by omega) (Int.le_of_lt (Int.pow_pos (by decide)))
      omega
    · rw [← h1] at hv1; simp at hv1
/-! ### _law_head -/
def S_head : FSpec := fun rs oh Q _ => ∃ n, rs = [.o n] ∧ StAt oh n ∧ ∀ (hd : List Nat) ob, IsCS hd → hd ≠ [] → StOk ob → Q (.d (T hd)) (oh.set n ob)
theorem cs_cols : IsCS cols := by unfold IsCS csOf; decide
theorem w_head (Γ : Gv) (h1 : Γ.fn "_law_choice" = some S_choice) (h2 : Γ.fn "_law_bits" = some S_bits) (rs : List Vl) (oh : OH) (Q : QV) (E : QX) (h : S_head rs oh Q E) : fnW Γ 2 c__law_head rs oh Q E := by
  obtain ⟨n, rfl, st, q⟩ := h
  have hn := st.lt
  have nrm : ∀ {Q : QV} {oh' : OH}, norm oh.length (.o n) oh' Q = Q (.o n) oh' := norm_o hn
  (try simp only [fnW_eq, fnD_nx, fnD_rt, seq_nx, seq_rt, seq_rtF, loop_rtF, seq_bk, seq_ct, loop_nx, loop_rt, loop_bk, loop_ct, wB_cons, wB_nil, wS_asgO, wS_asg, wS_unp, wS_par, wS_parc, wS_sset, wS_sps, wS_exp, wS_ret, wS_retN, wS_ife, wS_pas, wS_brk, wS_cnt, wE, wNs, wAs, wT, wI, wP, norm_d, store_d, vdat_d, norm_new, store_new, norm_newS, store_newS, fin_sh, fin_lst, fresh_lst, walk_d, it_T, it_list, it_tuple, seq_T, seq_list, seq_tuple, seqAll, zipN2, zipN3, bind1, bind2, bind3, wipeS, setAll, seeAll, tru_bool, retv_d, take_all, ex_some,
  List.map_cons, List.map_nil, List.length_cons, List.length_nil, List.cons_append, List.nil_append, List.replicate, List.getElem?_cons_zero, List.getElem?_cons_succ, List.set_cons_zero, List.set_cons_succ, Option.some.injEq, exists_eq_left', exists_eq_left, exists_eq_right, true_and, and_true,
  Nat.reduceAdd, Nat.reduceSub, OO.dat, cmp_in, cmp_notin, exists_and_left, reduceIte, reduceCtorEq, if_true, if_false, Bool.false_eq_true, Vl.d.injEq, PyData.int.injEq, PyData.bool.injEq, PyData.str.injEq, Bool.not_true, Bool.not_false, cmp_lt, cmp_gt, cmp_le, cmp_ge, cmp_eq, cmp_ne, len_tup, len_lst, len_txt, ix_0, ix_1, ix_l0, ix_l1, ix_l2, bin_add, bin_sub, set_l0, set_l1, set_l2, live_lst, max_int, min_int, take_set, take_snoc, List.set_set, List.length_set, Vl.o.injEq, eq_self, decide_true, decide_false, Int.reduceLT, Int.reduceEq, Int.cast_ofNat_Int, Nat.zero_add, c__law_head, nrm])
  refine ⟨_, h1, n, 4, rfl, st, by decide, by decide, fun v ob v0 v1 ho => ?_⟩
  (try simp only [fnW_eq, fnD_nx, fnD_rt, seq_nx, seq_rt, seq_rtF, loop_rtF, seq_bk, seq_ct, loop_nx, loop_rt, loop_bk, loop_ct, wB_cons, wB_nil, wS_asgO, wS_asg, wS_unp, wS_par, wS_parc, wS_sset, wS_sps, wS_exp, wS_ret, wS_retN, wS_ife, wS_pas, wS_brk, wS_cnt, wE, wNs, wAs, wT, wI, wP, norm_d, store_d, vdat_d, norm_new, store_new, norm_newS, store_newS, fin_sh, fin_lst, fresh_lst, walk_d, it_T, it_list, it_tuple, seq_T, seq_list, seq_tuple, seqAll, zipN2, zipN3, bind1, bind2, bind3, wipeS, setAll, seeAll, tru_bool, retv_d, take_all, ex_some,
  List.map_cons, List.map_nil, List.length_cons, List.length_nil, List.cons_append, List.nil_append, List.replicate, List.getElem?_cons_zero, List.getElem?_cons_succ, List.set_cons_zero, List.set_cons_succ, Option.some.injEq, exists_eq_left', exists_eq_left, exists_eq_right, true_and, and_true,
  Nat.reduceAdd, Nat.reduceSub, OO.dat, cmp_in, cmp_notin, exists_and_left, reduceIte, reduceCtorEq, if_true, if_false, Bool.false_eq_true, Vl.d.injEq, PyData.int.injEq, PyData.bool.injEq, PyData.str.injEq, Bool.not_true, Bool.not_false, cmp_lt, cmp_gt, cmp_le, cmp_ge, cmp_eq, cmp_ne, len_tup, len_lst, len_txt, ix_0, ix_1, ix_l0, ix_l1, ix_l2, bin_add, bin_sub, set_l0, set_l1, set_l2, live_lst, max_int, min_int, take_set, take_snoc, List.set_set, List.length_set, Vl.o.injEq, eq_self, decide_true, decide_false, Int.reduceLT, Int.reduceEq, Int.cast_ofNat_Int, Nat.zero_add, c__law_head_1])
  by_cases hz : v = 0
  · rw [if_pos (decide_eq_true hz)]
    (try simp only [fnW_eq, fnD_nx, fnD_rt, seq_nx, seq_rt, seq_rtF, loop_rtF, seq_bk, seq_ct, loop_nx, loop_rt, loop_bk, loop_ct, wB_cons, wB_nil, wS_asgO, wS_asg, wS_unp, wS_par, wS_parc, wS_sset, wS_sps, wS_exp, wS_ret, wS_retN, wS_ife, wS_pas, wS_brk, wS_cnt, wE, wNs, wAs, wT, wI, wP, norm_d, store_d, vdat_d, norm_new, store_new, norm_newS, store_newS, fin_sh, fin_lst, fresh_lst, walk_d, it_T, it_list, it_tuple, seq_T, seq_list, seq_tuple, seqAll, zipN2, zipN3, bind1, bind2, bind3, wipeS, setAll, seeAll, tru_bool, retv_d, take_all, ex_some,
  List.map_cons, List.map_nil, List.length_cons, List.length_nil, List.cons_append, List.nil_append, List.replicate, List.getElem?_cons_zero, List.getElem?_cons_succ, List.set_cons_zero, List.set_cons_succ, Option.some.injEq, exists_eq_left', exists_eq_left, exists_eq_right, true_and, and_true,
  Nat.reduceAdd, Nat.reduceSub, OO.dat, cmp_in, cmp_notin, exists_and_left, reduceIte, reduceCtorEq, if_true, if_false, Bool.false_eq_true, Vl.d.injEq, PyData.int.injEq, PyData.bool.injEq, PyData.str.injEq, Bool.not_true, Bool.not_false, cmp_lt, cmp_gt, cmp_le, cmp_ge, cmp_eq, cmp_ne, len_tup, len_lst, len_txt, ix_0, ix_1, ix_l0, ix_l1, ix_l2, bin_add, bin_sub, set_l0, set_l1, set_l2, live_lst, max_int, min_int, take_set, take_snoc, List.set_set, List.length_set, Vl.o.injEq, eq_self, decide_true, decide_false, Int.reduceLT, Int.reduceEq, Int.cast_ofNat_Int, Nat.zero_add, T_cols])
    exact q _ _ cs_cols (by decide) ho
  · rw [if_neg (by simpa using hz)]
    (try simp only [fnW_eq, fnD_nx, fnD_rt, seq_nx, seq_rt, seq_rtF, loop_rtF, seq_bk, seq_ct, loop_nx, loop_rt, loop_bk, loop_ct, wB_cons, wB_nil, wS_asgO, wS_asg, wS_unp, wS_par, wS_parc, wS_sset, wS_sps, wS_exp, wS_ret, wS_retN, wS_ife, wS_pas, wS_brk, wS_cnt, wE, wNs, wAs, wT, wI, wP, norm_d, store_d, vdat_d, norm_new, store_new, norm_newS, store_newS, fin_sh, fin_lst, fresh_lst, walk_d, it_T, it_list, it_tuple, seq_T, seq_list, seq_tuple, seqAll, zipN2, zipN3, bind1, bind2, bind3, wipeS, setAll, seeAll, tru_bool, retv_d, take_all, ex_some,
  List.map_cons, List.map_nil, List.length_cons, List.length_nil, List.cons_append, List.nil_append, List.replicate, List.getElem?_cons_zero, List.getElem?_cons_succ, List.set_cons_zero, List.set_cons_succ, Option.some.injEq, exists_eq_left', exists_eq_left, exists_eq_right, true_and, and_true,
  Nat.reduceAdd, Nat.reduceSub, OO.dat, cmp_in, cmp_notin, exists_and_left, reduceIte, reduceCtorEq, if_true, if_false, Bool.false_eq_true, Vl.d.injEq, PyData.int.injEq, PyData.bool.injEq, PyData.str.injEq, Bool.not_true, Bool.not_false, cmp_lt, cmp_gt, cmp_le, cmp_ge, cmp_eq, cmp_ne, len_tup, len_lst, len_txt, ix_0, ix_1, ix_l0, ix_l1, ix_l2, bin_add, bin_sub, set_l0, set_l1, set_l2, live_lst, max_int, min_int, take_set, take_snoc, List.set_set, List.length_set, Vl.o.injEq, eq_self, decide_true, decide_false, Int.reduceLT, Int.reduceEq, Int.cast_ofNat_Int, Nat.zero_add, c__law_head_2, T_cols, nrm])
    refine ⟨_, h1, n, 255, rfl, StAt.set hn ho, by decide, by decide, fun x ob2 x0 x1 ho2 => ?_⟩
    (try simp only [fnW_eq, fnD_nx, fnD_rt, seq_nx, seq_rt, seq_rtF, loop_rtF, seq_bk, seq_ct, loop_nx, loop_rt, loop_bk, loop_ct, wB_cons, wB_nil, wS_asgO, wS_asg, wS_unp, wS_par, wS_parc, wS_sset, wS_sps, wS_exp, wS_ret, wS_retN, wS_ife, wS_pas, wS_brk, wS_cnt, wE, wNs, wAs, wT, wI, wP, norm_d, store_d, vdat_d, norm_new, store_new, norm_newS, store_newS, fin_sh, fin_lst, fresh_lst, walk_d, it_T, it_list, it_tuple, seq_T, seq_list, seq_tuple, seqAll, zipN2, zipN3, bind1, bind2, bind3, wipeS, setAll, seeAll, tru_bool, retv_d, take_all, ex_some,
  List.map_cons, List.map_nil, List.length_cons, List.length_nil, List.cons_append, List.nil_append, List.replicate, List.getElem?_cons_zero, List.getElem?_cons_succ, List.set_cons_zero, List.set_cons_succ, Option.some.injEq, exists_eq_left', exists_eq_left, exists_eq_right, true_and, and_true,
  Nat.reduceAdd, Nat.reduceSub, OO.dat, cmp_in, cmp_notin, exists_and_left, reduceIte, reduceCtorEq, if_true, if_false, Bool.false_eq_true, Vl.d.injEq, PyData.int.injEq, PyData.bool.injEq, PyData.str.injEq, Bool.not_true, Bool.not_false, cmp_lt, cmp_gt, cmp_le, cmp_ge, cmp_eq, cmp_ne, len_tup, len_lst, len_txt, ix_0, ix_1, ix_l0, ix_l1, ix_l2, bin_add, bin_sub, set_l0, set_l1, set_l2, live_lst, max_int, min_int, take_set, take_snoc, List.set_set, List.length_set, Vl.o.injEq, eq_self, decide_true, decide_false, Int.reduceLT, Int.reduceEq, Int.cast_ofNat_Int, Nat.zero_add])
    refine ⟨_, h2, cols, 1 + x, rfl, by decide, by omega, fun r hr hne => ?_⟩
    (try simp only [fnW_eq, fnD_nx, fnD_rt, seq_nx, seq_rt, seq_rtF, loop_rtF, seq_bk, seq_ct, loop_nx, loop_rt, loop_bk, loop_ct, wB_cons, wB_nil, wS_asgO, wS_asg, wS_unp, wS_par, wS_parc, wS_sset, wS_sps, wS_exp, wS_ret, wS_retN, wS_ife, wS_pas, wS_brk, wS_cnt, wE, wNs, wAs, wT, wI, wP, norm_d, store_d, vdat_d, norm_new, store_new, norm_newS, store_newS, fin_sh, fin_lst, fresh_lst, walk_d, it_T, it_list, it_tuple, seq_T, seq_list, seq_tuple, seqAll, zipN2, zipN3, bind1, bind2, bind3, wipeS, setAll, seeAll, tru_bool, retv_d, take_all, ex_some,
  List.map_cons, List.map_nil, List.length_cons, List.length_nil, List.cons_append, List.nil_append, List.replicate, List.getElem?_cons_zero, List.getElem?_cons_succ, List.set_cons_zero, List.set_cons_succ, Option.some.injEq, exists_eq_left', exists_eq_left, exists_eq_right, true_and, and_true,
  Nat.reduceAdd, Nat.reduceSub, OO.dat, cmp_in, cmp_notin, exists_and_left, reduceIte, reduceCtorEq, if_true, if_false, Bool.false_eq_true, Vl.d.injEq, PyData.int.injEq, PyData.bool.injEq, PyData.str.injEq, Bool.not_true, Bool.not_false, cmp_lt, cmp_gt, cmp_le, cmp_ge, cmp_eq, cmp_ne, len_tup, len_lst, len_txt, ix_0, ix_1, ix_l0, ix_l1, ix_l2, bin_add, bin_sub, set_l0, set_l1, set_l2, live_lst, max_int, min_int, take_set, take_snoc, List.set_set, List.length_set, Vl.o.injEq, eq_self, decide_true, decide_false, Int.reduceLT, Int.reduceEq, Int.cast_ofNat_Int, Nat.zero_add])
    exact q _ _ (sub_cs cs_cols hr) (hne (by omega) (by rw [cols_len]; omega)) ho2
end Kd

namespace Kd
open PySem PySem.Spec PyProof.Rows L2
theorem lc_inv {step : D → OH → (Option D → OH → Prop) → Prop} {still : OH → Prop} {Q : List D → OH → Prop} (R : List D → OH → Prop) (hs : ∀ acc oh, R acc oh → still oh)
    (h : ∀ d acc oh (k : Option D → OH → Prop), R acc oh → (∀ o oh', R (acc ++ o.toList) oh' → k o oh') → step d oh k) (hq : ∀ acc oh, R acc oh → Q acc oh) :
    ∀ (items acc : List D) (oh : OH), R acc oh → lcGo step still items acc oh Q
  | [], acc, oh, r => ⟨hs _ _ r, hq _ _ r⟩
  | d :: ds, acc, oh, r => by
    refine ⟨hs _ _ r, h d acc oh _ r fun o oh' r' => ?_⟩
    cases o with
    | none => exact lc_inv R hs h hq ds _ oh' (by simpa using r')
    | some y => exact lc_inv R hs h hq ds _ oh' (by simpa using r')
theorem range_1 (j : Int) (h : 0 ≤ j ∧ j ≤ 1000) : rangeD [.int j] = some (rangeL 0 j.toNat) := by
  have : j.toNat ≤ sizeLine := Nat.le_trans (by omega) line_1000
  simp only [rangeD]
  rw [if_pos ⟨by omega, by omega, this⟩]
theorem flatAll_T (l : List Nat) : flatDictAll (l.map fun c => T [c]) = true := by
  induction l with
  | nil => rfl
  | cons c l ih =>
    simp only [List.map_cons, flatDictAll, ih, Bool.and_true]
    rfl
theorem inList_T (c : Nat) (l : List Nat) : inD (T [c]) (.list (l.map fun c => T [c])) = some (decide (c ∈ l)) := by
  have e : ((l.map fun c => T [c]).any fun z => PyData.eqv z (T [c])) = decide (c ∈ l) := by
    rw [Bool.eq_iff_iff]
    simp only [List.any_eq_true, List.mem_map, decide_eq_true_eq]
    constructor
    · rintro ⟨z, ⟨d, hd, rfl⟩, hz⟩
      have : d = c := by simpa [PyData.eqv, T] using hz
      subst this
      exact hd
    · intro hc
      exact ⟨_, ⟨c, hc, rfl⟩, by simp [PyData.eqv, T]⟩
  have f : (flatDict (T [c]) && flatDictAll (l.map fun c => T [c]) && decide ((T [c]).depth ≤ 64)) = true := by
    rw [flatAll_T]; rfl
  simp only [inD, f, if_true, e]
theorem cmp_inL (c : Nat) (l : List Nat) : cmpD .In (T [c]) (.list (l.map fun c => T [c])) = some (decide (c ∈ l)) := inList_T c l
theorem ix_T (l : List Nat) (i : Int) (h0 : 0 ≤ i) (h1 : i < (l.length : Nat)) : ∃ c, c ∈ l ∧ ixD (T l) (.int i) = some (T [c]) := by
  obtain ⟨n, rfl⟩ : ∃ n : Nat, i = n := ⟨i.toNat, by omega⟩
  have hn : n < l.length := by omega
  refine ⟨l[n], List.getElem_mem hn, ?_⟩
  have e : atI (⟨l.toArray⟩ : Str).cps.toList (n : Int) = some l[n] := at_nat (by simp [List.getElem?_eq_getElem hn])
  show (atI (⟨l.toArray⟩ : Str).cps.toList (n : Int)).map _ = _
  rw [e]
  rfl
def S_pick : FSpec := fun rs oh Q _ => ∃ n hd, rs = [.o n, .d (T hd)] ∧ StAt oh n ∧ IsCS hd ∧ hd ≠ [] ∧ ∀ (r : List Nat) ob, r.Sublist hd → StOk ob → Q (.d (T r)) (oh.set n ob)
theorem w_pick (Γ : Gv) (h1 : Γ.fn "_law_choice" = some S_choice) (h2 : Γ.fn "_law_bits" = some S_bits) (rs : List Vl) (oh : OH) (Q : QV) (E : QX) (h : S_pick rs oh Q E) : fnW Γ 5 c__law_pick rs oh Q E := by
  obtain ⟨n, hd, rfl, st, cs, ne, q⟩ := h
  have hn := st.lt
  have nrm : ∀ {Q : QV} {oh' : OH}, norm oh.length (.o n) oh' Q = Q (.o n) oh' := norm_o hn
  have hlen := cs.len
  have hpos : 0 < hd.length := List.length_pos_iff.mpr ne
  (try simp only [fnW_eq, fnD_nx, fnD_rt, seq_nx, seq_rt, seq_rtF, loop_rtF, seq_bk, seq_ct, loop_nx, loop_rt, loop_bk, loop_ct, wB_cons, wB_nil, wS_asgO, wS_asg, wS_unp, wS_par, wS_parc, wS_sset, wS_sps, wS_exp, wS_ret, wS_retN, wS_ife, wS_pas, wS_brk, wS_cnt, wE, wNs, wAs, wT, wI, wP, norm_d, store_d, vdat_d, norm_new, store_new, norm_newS, store_newS, fin_sh, fin_lst, fresh_lst, walk_d, it_T, it_list, it_tuple, seq_T, seq_list, seq_tuple, seqAll, zipN2, zipN3, bind1, bind2, bind3, wipeS, setAll, seeAll, tru_bool, retv_d, take_all, ex_some,
  List.map_cons, List.map_nil, List.length_cons, List.length_nil, List.cons_append, List.nil_append, List.replicate, List.getElem?_cons_zero, List.getElem?_cons_succ, List.set_cons_zero, List.set_cons_succ, Option.some.injEq, exists_eq_left', exists_eq_left, exists_eq_right, true_and, and_true,
  Nat.reduceAdd, Nat.reduceSub, OO.dat, cmp_in, cmp_notin, exists_and_left, reduceIte, reduceCtorEq, if_true, if_false, Bool.false_eq_true, Vl.d.injEq, PyData.int.injEq, PyData.bool.injEq, PyData.str.injEq, Bool.not_true, Bool.not_false, cmp_lt, cmp_gt, cmp_le, cmp_ge, cmp_eq, cmp_ne, len_tup, len_lst, len_txt, ix_0, ix_1, ix_l0, ix_l1, ix_l2, bin_add, bin_sub, set_l0, set_l1, set_l2, live_lst, max_int, min_int, take_set, take_snoc, List.set_set, List.length_set, Vl.o.injEq, eq_self, decide_true, decide_false, Int.reduceLT, Int.reduceEq, Int.cast_ofNat_Int, Nat.zero_add, c__law_pick, nrm])
  refine ⟨_, h1, n, 3, rfl, st, by decide, by decide, fun v ob v0 v1 ho => ?_⟩
  (try simp only [fnW_eq, fnD_nx, fnD_rt, seq_nx, seq_rt, seq_rtF, loop_rtF, seq_bk, seq_ct, loop_nx, loop_rt, loop_bk, loop_ct, wB_cons, wB_nil, wS_asgO, wS_asg, wS_unp, wS_par, wS_parc, wS_sset, wS_sps, wS_exp, wS_ret, wS_retN, wS_ife, wS_pas, wS_brk, wS_cnt, wE, wNs, wAs, wT, wI, wP, norm_d, store_d, vdat_d, norm_new, store_new, norm_newS, store_newS, fin_sh, fin_lst, fresh_lst, walk_d, it_T, it_list, it_tuple, seq_T, seq_list, seq_tuple, seqAll, zipN2, zipN3, bind1, bind2, bind3, wipeS, setAll, seeAll, tru_bool, retv_d, take_all, ex_some,
  List.map_cons, List.map_nil, List.length_cons, List.length_nil, List.cons_append, List.nil_append, List.replicate, List.getElem?_cons_zero, List.getElem?_cons_succ, List.set_cons_zero, List.set_cons_succ, Option.some.injEq, exists_eq_left', exists_eq_left, exists_eq_right, true_and, and_true,
  Nat.reduceAdd, Nat.reduceSub, OO.dat, cmp_in, cmp_notin, exists_and_left, reduceIte, reduceCtorEq, if_true, if_false, Bool.false_eq_true, Vl.d.injEq, PyData.int.injEq, PyData.bool.injEq, PyData.str.injEq, Bool.not_true, Bool.not_false, cmp_lt, cmp_gt, cmp_le, cmp_ge, cmp_eq, cmp_ne, len_tup, len_lst, len_txt, ix_0, ix_1, ix_l0, ix_l1, ix_l2, bin_add, bin_sub, set_l0, set_l1, set_l2, live_lst, max_int, min_int, take_set, take_snoc, List.set_set, List.length_set, Vl.o.injEq, eq_self, decide_true, decide_false, Int.reduceLT, Int.reduceEq, Int.cast_ofNat_Int, Nat.zero_add])
  by_cases hz : v = 0
  · rw [if_pos (decide_eq_true hz)]
    (try simp only [fnW_eq, fnD_nx, fnD_rt, seq_nx, seq_rt, seq_rtF, loop_rtF, seq_bk, seq_ct, loop_nx, loop_rt, loop_bk, loop_ct, wB_cons, wB_nil, wS_asgO, wS_asg, wS_unp, wS_par, wS_parc, wS_sset, wS_sps, wS_exp, wS_ret, wS_retN, wS_ife, wS_pas, wS_brk, wS_cnt, wE, wNs, wAs, wT, wI, wP, norm_d, store_d, vdat_d, norm_new, store_new, norm_newS, store_newS, fin_sh, fin_lst, fresh_lst, walk_d, it_T, it_list, it_tuple, seq_T, seq_list, seq_tuple, seqAll, zipN2, zipN3, bind1, bind2, bind3, wipeS, setAll, seeAll, tru_bool, retv_d, take_all, ex_some,
  List.map_cons, List.map_nil, List.length_cons, List.length_nil, List.cons_append, List.nil_append, List.replicate, List.getElem?_cons_zero, List.getElem?_cons_succ, List.set_cons_zero, List.set_cons_succ, Option.some.injEq, exists_eq_left', exists_eq_left, exists_eq_right, true_and, and_true,
  Nat.reduceAdd, Nat.reduceSub, OO.dat, cmp_in, cmp_notin, exists_and_left, reduceIte, reduceCtorEq, if_true, if_false, Bool.false_eq_true, Vl.d.injEq, PyData.int.injEq, PyData.bool.injEq, PyData.str.injEq, Bool.not_true, Bool.not_false, cmp_lt, cmp_gt, cmp_le, cmp_ge, cmp_eq, cmp_ne, len_tup, len_lst, len_txt, ix_0, ix_1, ix_l0, ix_l1, ix_l2, bin_add, bin_sub, set_l0, set_l1, set_l2, live_lst, max_int, min_int, take_set, take_snoc, List.set_set, List.length_set, Vl.o.injEq, eq_self, decide_true, decide_false, Int.reduceLT, Int.reduceEq, Int.cast_ofNat_Int, Nat.zero_add, nrm])
    refine ⟨_, h1, n, 256, rfl, StAt.set hn ho, by decide, by decide, fun x ob2 x0 x1 ho2 => ?_⟩
    (try simp only [fnW_eq, fnD_nx, fnD_rt, seq_nx, seq_rt, seq_rtF, loop_rtF, seq_bk, seq_ct, loop_nx, loop_rt, loop_bk, loop_ct, wB_cons, wB_nil, wS_asgO, wS_asg, wS_unp, wS_par, wS_parc, wS_sset, wS_sps, wS_exp, wS_ret, wS_retN, wS_ife, wS_pas, wS_brk, wS_cnt, wE, wNs, wAs, wT, wI, wP, norm_d, store_d, vdat_d, norm_new, store_new, norm_newS, store_newS, fin_sh, fin_lst, fresh_lst, walk_d, it_T, it_list, it_tuple, seq_T, seq_list, seq_tuple, seqAll, zipN2, zipN3, bind1, bind2, bind3, wipeS, setAll, seeAll, tru_bool, retv_d, take_all, ex_some,
  List.map_cons, List.map_nil, List.length_cons, List.length_nil, List.cons_append, List.nil_append, List.replicate, List.getElem?_cons_zero, List.getElem?_cons_succ, List.set_cons_zero, List.set_cons_succ, Option.some.injEq, exists_eq_left', exists_eq_left, exists_eq_right, true_and, and_true,
  Nat.reduceAdd, Nat.reduceSub, OO.dat, cmp_in, cmp_notin, exists_and_left, reduceIte, reduceCtorEq, if_true, if_false, Bool.false_eq_true, Vl.d.injEq, PyData.int.injEq, PyData.bool.injEq, PyData.str.injEq, Bool.not_true, Bool.not_false, cmp_lt, cmp_gt, cmp_le, cmp_ge, cmp_eq, cmp_ne, len_tup, len_lst, len_txt, ix_0, ix_1, ix_l0, ix_l1, ix_l2, bin_add, bin_sub, set_l0, set_l1, set_l2, live_lst, max_int, min_int, take_set, take_snoc, List.set_set, List.length_set, Vl.o.injEq, eq_self, decide_true, decide_false, Int.reduceLT, Int.reduceEq, Int.cast_ofNat_Int, Nat.zero_add])
    refine ⟨_, h2, hd, x, rfl, by omega, x0, fun r hr _ => ?_⟩
    (try simp only [fnW_eq, fnD_nx, fnD_rt, seq_nx, seq_rt, seq_rtF, loop_rtF, seq_bk, seq_ct, loop_nx, loop_rt, loop_bk, loop_ct, wB_cons, wB_nil, wS_asgO, wS_asg, wS_unp, wS_par, wS_parc, wS_sset, wS_sps, wS_exp, wS_ret, wS_retN, wS_ife, wS_pas, wS_brk, wS_cnt, wE, wNs, wAs, wT, wI, wP, norm_d, store_d, vdat_d, norm_new, store_new, norm_newS, store_newS, fin_sh, fin_lst, fresh_lst, walk_d, it_T, it_list, it_tuple, seq_T, seq_list, seq_tuple, seqAll, zipN2, zipN3, bind1, bind2, bind3, wipeS, setAll, seeAll, tru_bool, retv_d, take_all, ex_some,
  List.map_cons, List.map_nil, List.length_cons, List.length_nil, List.cons_append, List.nil_append, List.replicate, List.getElem?_cons_zero, List.getElem?_cons_succ, List.set_cons_zero, List.set_cons_succ, Option.some.injEq, exists_eq_left', exists_eq_left, exists_eq_right, true_and, and_true,
  Nat.reduceAdd, Nat.reduceSub, OO.dat, cmp_in, cmp_notin, exists_and_left, reduceIte, reduceCtorEq, if_true, if_false, Bool.false_eq_true, Vl.d.injEq, PyData.int.injEq, PyData.bool.injEq, PyData.str.injEq, Bool.not_true, Bool.not_false, cmp_lt, cmp_gt, cmp_le, cmp_ge, cmp_eq, cmp_ne, len_tup, len_lst, len_txt, ix_0, ix_1, ix_l0, ix_l1, ix_l2, bin_add, bin_sub, set_l0, set_l1, set_l2, live_lst, max_int, min_int, take_set, take_snoc, List.set_set, List.length_set, Vl.o.injEq, eq_self, decide_true, decide_false, Int.reduceLT, Int.reduceEq, Int.cast_ofNat_Int, Nat.zero_add])
    exact q _ _ hr ho2
  · rw [if_neg (by simpa using hz)]
    (try simp only [fnW_eq, fnD_nx, fnD_rt, seq_nx, seq_rt, seq_rtF, loop_rtF, seq_bk, seq_ct, loop_nx, loop_rt, loop_bk, loop_ct, wB_cons, wB_nil, wS_asgO, wS_asg, wS_unp, wS_par, wS_parc, wS_sset, wS_sps, wS_exp, wS_ret, wS_retN, wS_ife, wS_pas, wS_brk, wS_cnt, wE, wNs, wAs, wT, wI, wP, norm_d, store_d, vdat_d, norm_new, store_new, norm_newS, store_newS, fin_sh, fin_lst, fresh_lst, walk_d, it_T, it_list, it_tuple, seq_T, seq_list, seq_tuple, seqAll, zipN2, zipN3, bind1, bind2, bind3, wipeS, setAll, seeAll, tru_bool, retv_d, take_all, ex_some,
  List.map_cons, List.map_nil, List.length_cons, List.length_nil, List.cons_append, List.nil_append, List.replicate, List.getElem?_cons_zero, List.getElem?_cons_succ, List.set_cons_zero, List.set_cons_succ, Option.some.injEq, exists_eq_left', exists_eq_left, exists_eq_right, true_and, and_true,
  Nat.reduceAdd, Nat.reduceSub, OO.dat, cmp_in, cmp_notin, exists_and_left, reduceIte, reduceCtorEq, if_true, if_false, Bool.false_eq_true, Vl.d.injEq, PyData.int.injEq, PyData.bool.injEq, PyData.str.injEq, Bool.not_true, Bool.not_false, cmp_lt, cmp_gt, cmp_le, cmp_ge, cmp_eq, cmp_ne, len_tup, len_lst, len_txt, ix_0, ix_1, ix_l0, ix_l1, ix_l2, bin_add, bin_sub, set_l0, set_l1, set_l2, live_lst, max_int, min_int, take_set, take_snoc, List.set_set, List.length_set, Vl.o.injEq, eq_self, decide_true, decide_false, Int.reduceLT, Int.reduceEq, Int.cast_ofNat_Int, Nat.zero_add, c__law_pick_1, nrm])
    refine ⟨_, h1, n, 3, rfl, StAt.set hn ho, by decide, by decide, fun x ob2 x0 x1 ho2 => ?_⟩
    (try simp only [fnW_eq, fnD_nx, fnD_rt, seq_nx, seq_rt, seq_rtF, loop_rtF, seq_bk, seq_ct, loop_nx, loop_rt, loop_bk, loop_ct, wB_cons, wB_nil, wS_asgO, wS_asg, wS_unp, wS_par, wS_parc, wS_sset, wS_sps, wS_exp, wS_ret, wS_retN, wS_ife, wS_pas, wS_brk, wS_cnt, wE, wNs, wAs, wT, wI, wP, norm_d, store_d, vdat_d, norm_new, store_new, norm_newS, store_newS, fin_sh, fin_lst, fresh_lst, walk_d, it_T, it_list, it_tuple, seq_T, seq_list, seq_tuple, seqAll, zipN2, zipN3, bind1, bind2, bind3, wipeS, setAll, seeAll, tru_bool, retv_d, take_all, ex_some,
  List.map_cons, List.map_nil, List.length_cons, List.length_nil, List.cons_append, List.nil_append, List.replicate, List.getElem?_cons_zero, List.getElem?_cons_succ, List.set_cons_zero, List.set_cons_succ, Option.some.injEq, exists_eq_left', exists_eq_left, exists_eq_right, true_and, and_true,
  Nat.reduceAdd, Nat.reduceSub, OO.dat, cmp_in, cmp_notin, exists_and_left, reduceIte, reduceCtorEq, if_true, if_false, Bool.false_eq_true, Vl.d.injEq, PyData.int.injEq, PyData.bool.injEq, PyData.str.injEq, Bool.not_true, Bool.not_false, cmp_lt, cmp_gt, cmp_le, cmp_ge, cmp_eq, cmp_ne, len_tup, len_lst, len_txt, ix_0, ix_1, ix_l0, ix_l1, ix_l2, bin_add, bin_sub, set_l0, set_l1, set_l2, live_lst, max_int, min_int, take_set, take_snoc, List.set_set, List.length_set, Vl.o.injEq, eq_self, decide_true, decide_false, Int.reduceLT, Int.reduceEq, Int.cast_ofNat_Int, Nat.zero_add, range_1 x ⟨x0, by omega⟩])
    refine lc_inv (fun acc oh' => ∃ l ob, acc = List.map (fun c => T [c]) l ∧ StOk ob ∧ oh' = oh.set n ob) (fun _ _ _ => trivial) ?_ ?_ _ _ _ ⟨[], ob2, rfl, ho2, rfl⟩
    · rintro d acc oh' k ⟨l, ob3, rfl, ho3, rfl⟩ hk
      (try simp only [fnW_eq, fnD_nx, fnD_rt, seq_nx, seq_rt, seq_rtF, loop_rtF, seq_bk, seq_ct, loop_nx, loop_rt, loop_bk, loop_ct, wB_cons, wB_nil, wS_asgO, wS_asg, wS_unp, wS_par, wS_parc, wS_sset, wS_sps, wS_exp, wS_ret, wS_retN, wS_ife, wS_pas, wS_brk, wS_cnt, wE, wNs, wAs, wT, wI, wP, norm_d, store_d, vdat_d, norm_new, store_new, norm_newS, store_newS, fin_sh, fin_lst, fresh_lst, walk_d, it_T, it_list, it_tuple, seq_T, seq_list, seq_tuple, seqAll, zipN2, zipN3, bind1, bind2, bind3, wipeS, setAll, seeAll, tru_bool, retv_d, take_all, ex_some,
  List.map_cons, List.map_nil, List.length_cons, List.length_nil, List.cons_append, List.nil_append, List.replicate, List.getElem?_cons_zero, List.getElem?_cons_succ, List.set_cons_zero, List.set_cons_succ, Option.some.injEq, exists_eq_left', exists_eq_left, exists_eq_right, true_and, and_true,
  Nat.reduceAdd, Nat.reduceSub, OO.dat, cmp_in, cmp_notin, exists_and_left, reduceIte, reduceCtorEq, if_true, if_false, Bool.false_eq_true, Vl.d.injEq, PyData.int.injEq, PyData.bool.injEq, PyData.str.injEq, Bool.not_true, Bool.not_false, cmp_lt, cmp_gt, cmp_le, cmp_ge, cmp_eq, cmp_ne, len_tup, len_lst, len_txt, ix_0, ix_1, ix_l0, ix_l1, ix_l2, bin_add, bin_sub, set_l0, set_l1, set_l2, live_lst, max_int, min_int, take_set, take_snoc, List.set_set, List.length_set, Vl.o.injEq, eq_self, decide_true, decide_false, Int.reduceLT, Int.reduceEq, Int.cast_ofNat_Int, Nat.zero_add, nrm])
      refine ⟨_, h1, n, hd.length, rfl, StAt.set hn ho3, by omega, by omega, fun y ob4 y0 y1 ho4 => ?_⟩
      obtain ⟨c, hc, e⟩ := ix_T hd y y0 y1
      (try simp only [fnW_eq, fnD_nx, fnD_rt, seq_nx, seq_rt, seq_rtF, loop_rtF, seq_bk, seq_ct, loop_nx, loop_rt, loop_bk, loop_ct, wB_cons, wB_nil, wS_asgO, wS_asg, wS_unp, wS_par, wS_parc, wS_sset, wS_sps, wS_exp, wS_ret, wS_retN, wS_ife, wS_pas, wS_brk, wS_cnt, wE, wNs, wAs, wT, wI, wP, norm_d, store_d, vdat_d, norm_new, store_new, norm_newS, store_newS, fin_sh, fin_lst, fresh_lst, walk_d, it_T, it_list, it_tuple, seq_T, seq_list, seq_tuple, seqAll, zipN2, zipN3, bind1, bind2, bind3, wipeS, setAll, seeAll, tru_bool, retv_d, take_all, ex_some,
  List.map_cons, List.map_nil, List.length_cons, List.length_nil, List.cons_append, List.nil_append, List.replicate, List.getElem?_cons_zero, List.getElem?_cons_succ, List.set_cons_zero, List.set_cons_succ, Option.some.injEq, exists_eq_left', exists_eq_left, exists_eq_right, true_and, and_true,
  Nat.reduceAdd, Nat.reduceSub, OO.dat, cmp_in, cmp_notin, exists_and_left, reduceIte, reduceCtorEq, if_true, if_false, Bool.false_eq_true, Vl.d.injEq, PyData.int.injEq, PyData.bool.injEq, PyData.str.injEq, Bool.not_true, Bool.not_false, cmp_lt, cmp_gt, cmp_le, cmp_ge, cmp_eq, cmp_ne, len_tup, len_lst, len_txt, ix_0, ix_1, ix_l0, ix_l1, ix_l2, bin_add, bin_sub, set_l0, set_l1, set_l2, live_lst, max_int, min_int, take_set, take_snoc, List.set_set, List.length_set, Vl.o.injEq, eq_self, decide_true, decide_false, Int.reduceLT, Int.reduceEq, Int.cast_ofNat_Int, Nat.zero_add, e])
      exact hk (some (T [c])) _ ⟨l ++ [c], ob4, by simp, ho4, rfl⟩
    · rintro acc oh' ⟨l, ob3, rfl, ho3, rfl⟩
      (try simp only [fnW_eq, fnD_nx, fnD_rt, seq_nx, seq_rt, seq_rtF, loop_rtF, seq_bk, seq_ct, loop_nx, loop_rt, loop_bk, loop_ct, wB_cons, wB_nil, wS_asgO, wS_asg, wS_unp, wS_par, wS_parc, wS_sset, wS_sps, wS_exp, wS_ret, wS_retN, wS_ife, wS_pas, wS_brk, wS_cnt, wE, wNs, wAs, wT, wI, wP, norm_d, store_d, vdat_d, norm_new, store_new, norm_newS, store_newS, fin_sh, fin_lst, fresh_lst, walk_d, it_T, it_list, it_tuple, seq_T, seq_list, seq_tuple, seqAll, zipN2, zipN3, bind1, bind2, bind3, wipeS, setAll, seeAll, tru_bool, retv_d, take_all, ex_some,
  List.map_cons, List.map_nil, List.length_cons, List.length_nil, List.cons_append, List.nil_append, List.replicate, List.getElem?_cons_zero, List.getElem?_cons_succ, List.set_cons_zero, List.set_cons_succ, Option.some.injEq, exists_eq_left', exists_eq_left, exists_eq_right, true_and, and_true,
  Nat.reduceAdd, Nat.reduceSub, OO.dat, cmp_in, cmp_notin, exists_and_left, reduceIte, reduceCtorEq, if_true, if_false, Bool.false_eq_true, Vl.d.injEq, PyData.int.injEq, PyData.bool.injEq, PyData.str.injEq, Bool.not_true, Bool.not_false, cmp_lt, cmp_gt, cmp_le, cmp_ge, cmp_eq, cmp_ne, len_tup, len_lst, len_txt, ix_0, ix_1, ix_l0, ix_l1, ix_l2, bin_add, bin_sub, set_l0, set_l1, set_l2, live_lst, max_int, min_int, take_set, take_snoc, List.set_set, List.length_set, Vl.o.injEq, eq_self, decide_true, decide_false, Int.reduceLT, Int.reduceEq, Int.cast_ofNat_Int, Nat.zero_add])
      (try simp only [fnW_eq, fnD_nx, fnD_rt, seq_nx, seq_rt, seq_rtF, loop_rtF, seq_bk, seq_ct, loop_nx, loop_rt, loop_bk, loop_ct, wB_cons, wB_nil, wS_asgO, wS_asg, wS_unp, wS_par, wS_parc, wS_sset, wS_sps, wS_exp, wS_ret, wS_retN, wS_ife, wS_pas, wS_brk, wS_cnt, wE, wNs, wAs, wT, wI, wP, norm_d, store_d, vdat_d, norm_new, store_new, norm_newS, store_newS, fin_sh, fin_lst, fresh_lst, walk_d, it_T, it_list, it_tuple, seq_T, seq_list, seq_tuple, seqAll, zipN2, zipN3, bind1, bind2, bind3, wipeS, setAll, seeAll, tru_bool, retv_d, take_all, ex_some,
  List.map_cons, List.map_nil, List.length_cons, List.length_nil, List.cons_append, List.nil_append, List.replicate, List.getElem?_cons_zero, List.getElem?_cons_succ, List.set_cons_zero, List.set_cons_succ, Option.some.injEq, exists_eq_left', exists_eq_left, exists_eq_right, true_and, and_true,
  Nat.reduceAdd, Nat.reduceSub, OO.dat, cmp_in, cmp_notin, exists_and_left, reduceIte, reduceCtorEq, if_true, if_false, Bool.false_eq_true, Vl.d.injEq, PyData.int.injEq, PyData.bool.injEq, PyData.str.injEq, Bool.not_true, Bool.not_false, cmp_lt, cmp_gt, cmp_le, cmp_ge, cmp_eq, cmp_ne, len_tup, len_lst, len_txt, ix_0, ix_1, ix_l0, ix_l1, ix_l2, bin_add, bin_sub, set_l0, set_l1, set_l2, live_lst, max_int, min_int, take_set, take_snoc, List.set_set, List.length_set, Vl.o.injEq, eq_self, decide_true, decide_false, Int.reduceLT, Int.reduceEq, Int.cast_ofNat_Int, Nat.zero_add, c__law_pick_2])
      refine ⟨rfl, lc_fm (fun c => decide (c ∈ l)) (fun c => T [c]) trivial (fun c hc k hk => ?_) ?_⟩
      · (try simp only [fnW_eq, fnD_nx, fnD_rt, seq_nx, seq_rt, seq_rtF, loop_rtF, seq_bk, seq_ct, loop_nx, loop_rt, loop_bk, loop_ct, wB_cons, wB_nil, wS_asgO, wS_asg, wS_unp, wS_par, wS_parc, wS_sset, wS_sps, wS_exp, wS_ret, wS_retN, wS_ife, wS_pas, wS_brk, wS_cnt, wE, wNs, wAs, wT, wI, wP, norm_d, store_d, vdat_d, norm_new, store_new, norm_newS, store_newS, fin_sh, fin_lst, fresh_lst, walk_d, it_T, it_list, it_tuple, seq_T, seq_list, seq_tuple, seqAll, zipN2, zipN3, bind1, bind2, bind3, wipeS, setAll, seeAll, tru_bool, retv_d, take_all, ex_some,
  List.map_cons, List.map_nil, List.length_cons, List.length_nil, List.cons_append, List.nil_append, List.replicate, List.getElem?_cons_zero, List.getElem?_cons_succ, List.set_cons_zero, List.set_cons_succ, Option.some.injEq, exists_eq_left', exists_eq_left, exists_eq_right, true_and, and_true,
  Nat.reduceAdd, Nat.reduceSub, OO.dat, cmp_in, cmp_notin, exists_and_left, reduceIte, reduceCtorEq, if_true, if_false, Bool.false_eq_true, Vl.d.injEq, PyData.int.injEq, PyData.bool.injEq, PyData.str.injEq, Bool.not_true, Bool.not_false, cmp_lt, cmp_gt, cmp_le, cmp_ge, cmp_eq, cmp_ne, len_tup, len_lst, len_txt, ix_0, ix_1, ix_l0, ix_l1, ix_l2, bin_add, bin_sub, set_l0, set_l1, set_l2, live_lst, max_int, min_int, take_set, take_snoc, List.set_set, List.length_set, Vl.o.injEq, eq_self, decide_true, decide_false, Int.reduceLT, Int.reduceEq, Int.cast_ofNat_Int, Nat.zero_add, cmp_inL])
        exact hk
      · (try simp only [fnW_eq, fnD_nx, fnD_rt, seq_nx, seq_rt, seq_rtF, loop_rtF, seq_bk, seq_ct, loop_nx, loop_rt, loop_bk, loop_ct, wB_cons, wB_nil, wS_asgO, wS_asg, wS_unp, wS_par, wS_parc, wS_sset, wS_sps, wS_exp, wS_ret, wS_retN, wS_ife, wS_pas, wS_brk, wS_cnt, wE, wNs, wAs, wT, wI, wP, norm_d, store_d, vdat_d, norm_new, store_new, norm_newS, store_newS, fin_sh, fin_lst, fresh_lst, walk_d, it_T, it_list, it_tuple, seq_T, seq_list, seq_tuple, seqAll, zipN2, zipN3, bind1, bind2, bind3, wipeS, setAll, seeAll, tru_bool, retv_d, take_all, ex_some,
  List.map_cons, List.map_nil, List.length_cons, List.length_nil, List.cons_append, List.nil_append, List.replicate, List.getElem?_cons_zero, List.getElem?_cons_succ, List.set_cons_zero, List.set_cons_succ, Option.some.injEq, exists_eq_left', exists_eq_left, exists_eq_right, true_and, and_true,
  Nat.reduceAdd, Nat.reduceSub, OO.dat, cmp_in, cmp_notin, exists_and_left, reduceIte, reduceCtorEq, if_true, if_false, Bool.false_eq_true, Vl.d.injEq, PyData.int.injEq, PyData.bool.injEq, PyData.str.injEq, Bool.not_true, Bool.not_false, cmp_lt, cmp_gt, cmp_le, cmp_ge, cmp_eq, cmp_ne, len_tup, len_lst, len_txt, ix_0, ix_1, ix_l0, ix_l1, ix_l2, bin_add, bin_sub, set_l0, set_l1, set_l2, live_lst, max_int, min_int, take_set, take_snoc, List.set_set, List.length_set, Vl.o.injEq, eq_self, decide_true, decide_false, Int.reduceLT, Int.reduceEq, Int.cast_ofNat_Int, Nat.zero_add])
        refine ⟨_, me_join1 _ ?_, ?_⟩
        · have := List.length_filter_le (fun c => decide (c ∈ l)) hd
          omega
        · (try simp only [fnW_eq, fnD_nx, fnD_rt, seq_nx, seq_rt, seq_rtF, loop_rtF, seq_bk, seq_ct, loop_nx, loop_rt, loop_bk, loop_ct, wB_cons, wB_nil, wS_asgO, wS_asg, wS_unp, wS_par, wS_parc, wS_sset, wS_sps, wS_exp, wS_ret, wS_retN, wS_ife, wS_pas, wS_brk, wS_cnt, wE, wNs, wAs, wT, wI, wP, norm_d, store_d, vdat_d, norm_new, store_new, norm_newS, store_newS, fin_sh, fin_lst, fresh_lst, walk_d, it_T, it_list, it_tuple, seq_T, seq_list, seq_tuple, seqAll, zipN2, zipN3, bind1, bind2, bind3, wipeS, setAll, seeAll, tru_bool, retv_d, take_all, ex_some,
  List.map_cons, List.map_nil, List.length_cons, List.length_nil, List.cons_append, List.nil_append, List.replicate, List.getElem?_cons_zero, List.getElem?_cons_succ, List.set_cons_zero, List.set_cons_succ, Option.some.injEq, exists_eq_left', exists_eq_left, exists_eq_right, true_and, and_true,
  Nat.reduceAdd, Nat.reduceSub, OO.dat, cmp_in, cmp_notin, exists_and_left, reduceIte, reduceCtorEq, if_true, if_false, Bool.false_eq_true, Vl.d.injEq, PyData.int.injEq, PyData.bool.injEq, PyData.str.injEq, Bool.not_true, Bool.not_false, cmp_lt, cmp_gt, cmp_le, cmp_ge, cmp_eq, cmp_ne, len_tup, len_lst, len_txt, ix_0, ix_1, ix_l0, ix_l1, ix_l2, bin_add, bin_sub, set_l0, set_l1, set_l2, live_lst, max_int, min_int, take_set, take_snoc, List.set_set, List.length_set, Vl.o.injEq, eq_self, decide_true, decide_false, Int.reduceLT, Int.reduceEq, Int.cast_ofNat_Int, Nat.zero_add])
          exact q _ _ List.filter_sublist ho3
end Kd

namespace Kd
open PySem PySem.Spec PyProof.Rows L2
/-! ### the order of pairs -/
theorem eqv_T (a b : List Nat) : PyData.eqv (T a) (T b) = decide (a = b) := by
  by_cases h : a = b
  · subst h; simp [PyData.eqv, T]
  · simp [PyData.eqv, T, h]
theorem lt_T (a b : List Nat) : PySem.W.dataLt (T a) (T b) = decide (a < b) := by
  unfold T
  rw [PySem.W.dataLt_str]
theorem ltP_iff (p q : Hn) : ltP p q = true ↔ p.1 < q.1 ∨ (p.1 = q.1 ∧ p.2 < q.2) := by
  unfold ltP hp
  rw [PySem.W.dataLt_pair (by simp [T, PySem.W.alike]) (by simp [T, PySem.W.alike]), eqv_T, eqv_T, lt_T, lt_T]
  by_cases h1 : p.1 = q.1
  · by_cases h2 : p.2 = q.2
    · simp [h1, h2, List.lt_irrefl]
    · simp [h1, h2, List.lt_irrefl]
  · simp [h1]
def leP (p q : Hn) : Bool := !ltP q p
theorem leP_iff (p q : Hn) : leP p q = true ↔ p.1 < q.1 ∨ (p.1 = q.1 ∧ p.2 ≤ q.2) := by
  unfold leP
  rw [Bool.not_eq_true', ← Bool.not_eq_true, ltP_iff]
  constructor
  · intro h
    have h1 : ¬ q.1 < p.1 := fun z => h (.inl z)
    rcases List.le_iff_lt_or_eq.mp (List.not_lt.mp h1) with z | z
    · exact .inl z
    · exact .inr ⟨z, List.not_lt.mp fun y => h (.inr ⟨z.symm, y⟩)⟩
  · rintro (h | ⟨h, h2⟩) (z | ⟨z, z2⟩)
    · exact List.lt_asymm h z
    · rw [z] at h; exact List.lt_irrefl _ h
    · rw [h] at z; exact List.lt_irrefl _ z
    · exact List.not_lt.mpr h2 z2
theorem leP_trans (a b c : Hn) (h1 : leP a b = true) (h2 : leP b c = true) : leP a c = true := by
  rw [leP_iff] at *
  rcases h1 with h1 | ⟨h1, h1'⟩ <;> rcases h2 with h2 | ⟨h2, h2'⟩
  · exact .inl (List.lt_trans h1 h2)
  · exact .inl (h2 ▸ h1)
  · exact .inl (h1 ▸ h2)
  · exact .inr ⟨h1.trans h2, List.le_trans h1' h2'⟩
theorem leP_total (a b : Hn) : (leP a b || leP b a) = true := by
  rw [Bool.or_eq_true]
  by_cases h : leP a b = true
  · exact .inl h
  · right
    unfold leP at h ⊢
    simp only [Bool.not_eq_true', Bool.not_eq_false] at h ⊢
    rw [← Bool.not_eq_true]
    intro z
    rw [ltP_iff] at h z
    rcases h with h | ⟨h, h'⟩ <;> rcases z with z | ⟨z, z'⟩
    · exact List.lt_asymm h z
    · rw [z] at h; exact List.lt_irrefl _ h
    · rw [h] at z; exact List.lt_irrefl _ z
    · exact List.lt_asymm h' z'
theorem alike_hp (p q : Hn) : PySem.W.alike (hp p) (hp q) = true := by simp [hp, T, PySem.W.alike, PySem.W.alikeAll]
theorem flatAll_hp (l : List Hn) : flatDictAll (l.map hp) = true := by
  induction l with
  | nil => rfl
  | cons p l ih => simp only [List.map_cons, flatDictAll, ih, Bool.and_true]; rfl
theorem canSort_hp (l : List Hn) : canSort (l.map hp) = true := by
  unfold canSort
  have h1 : allAlike (l.map hp) = true := by
    unfold allAlike
    rw [List.all_eq_true]
    intro a ha
    rw [List.all_eq_true]
    intro b hb
    obtain ⟨p, _, rfl⟩ := List.mem_map.mp ha
    obtain ⟨q, _, rfl⟩ := List.mem_map.mp hb
    exact alike_hp p q
  have h2 : allTup (l.map hp) = true := by
    clear h1
    induction l with
    | nil => rfl
    | cons p l ih => simp only [List.map_cons, hp, allTup]; exact ih
  have h3 : ((l.map hp).all fun d => decide (d.depth ≤ 64)) = true := by
    rw [List.all_eq_true]
    intro a ha
    obtain ⟨p, _, rfl⟩ := List.mem_map.mp ha
    simp [hp, T, PyData.depth, PyData.depthAll]
  rw [h1, h2, flatAll_hp, h3]
  rfl
theorem sort_hp (l : List Hn) : sortD (l.map hp) = (l.mergeSort leP).map hp := by
  unfold sortD
  exact (List.map_mergeSort (f := hp) (r := leP) (s := PySem.W.dataLe false id) (l := l) fun a _ b _ => rfl).symm
theorem ris_of : ∀ (h : List Hn), h.Pairwise (fun a b => leP a b = true) → h.Nodup → risB h = true
  | [], _, _ => rfl
  | [x], _, _ => rfl
  | x :: y :: h, hp', nd => by
    have hp1 := List.pairwise_cons.mp hp'
    have nd1 := List.nodup_cons.mp nd
    have ih := ris_of (y :: h) hp1.2 nd1.2
    have e : risB (x :: y :: h) = (ltP x y && risB (y :: h)) := rfl
    rw [e, ih, Bool.and_true]
    have l := hp1.1 y List.mem_cons_self
    rw [leP_iff] at l
    rw [ltP_iff]
    rcases l with l | ⟨l1, l2⟩
    · exact .inl l
    · rcases List.le_iff_lt_or_eq.mp l2 with z | z
      · exact .inr ⟨l1, z⟩
      · exact absurd (Prod.ext l1 z ▸ List.mem_cons_self) nd1.1
/-! ### the dict of pairs -/
def kp (p : Hn) : List Key := [.inr ⟨p.1.toArray⟩, .inr ⟨p.2.toArray⟩]
theorem kp_inj {p q : Hn} (h : kp p = kp q) : p = q := by
  simp only [kp, List.cons.injEq, Sum.inr.injEq, Str.mk.injEq, and_true] at h
  exact Prod.ext (List.toArray_inj h.1) (List.toArray_inj h.2)
theorem put_ps (l : List Hn) (p : Hn) : putD (l.map fun q => (kp q, (.bool true : D))) (kp p) (.bool true) = (if p ∈ l then l else l ++ [p]).map fun q => (kp q, (.bool true : D)) := by
  unfold putD
  by_cases hm : p ∈ l
  · have h1 : ((l.map fun q => (kp q, (.bool true : D))).any fun x => decide (x.1 = kp p)) = true := by
      simp only [List.any_map, List.any_eq_true]
      exact ⟨p, hm, by simp⟩
    rw [if_pos h1, if_pos hm, List.map_map]
    refine List.map_congr_left fun q _ => ?_
    simp only [Function.comp]
    split <;> rfl
  · have h1 : ((l.map fun q => (kp q, (.bool true : D))).any fun x => decide (x.1 = kp p)) ≠ true := by
      simp only [List.any_map, ne_eq, List.any_eq_true, Function.comp, decide_eq_true_eq, not_exists, not_and]
      intro q hq z
      exact hm (kp_inj z ▸ hq)
    rw [if_neg h1, if_neg hm]
    simp
theorem items_ps (l : List Hn) : itemsD (OO.dT (l.map fun q => (kp q, (.bool true : D)))).dat = some (l.map hp) := by
  have e : (OO.dT (l.map fun q => (kp q, (.bool true : D)))).dat = .dict (l.map fun q => (hp q, (.bool true : D))) := by
    simp only [OO.dat, List.map_map]
    congr 1
    induction l with
    | nil => rfl
    | cons p l ih => simp only [List.map_cons, List.zip_cons_cons, ih]; rfl
  rw [e]
  simp only [itemsD]
  have h : ((l.map fun q => (hp q, (.bool true : D))).all fun p => notNone p.1) = true := by
    rw [List.all_map, List.all_eq_true]
    intro p _
    rfl
  rw [if_pos h]
  simp
theorem set_same {oh : OH} {n : Nat} {ob : OO} (h : oh[n]? = some ob) : oh.set n ob = oh := by
  refine List.ext_getElem? fun i => ?_
  rw [List.getElem?_set]
  split
  · rename_i e
    subst e
    rw [if_pos (lt_get h), h]
  · rfl
/-! ### _law_hangings -/
def S_hangings : FSpec := fun rs oh Q _ => ∃ n hd m, rs = [.o n, .d (T hd), .d (.int m)] ∧ StAt oh n ∧ IsCS hd ∧ hd ≠ [] ∧ 0 ≤ m ∧ m ≤ 12 ∧ ∀ (h : List Hn) ob, BookOk hd h → StOk ob → Q (.d (HG h)) (oh.set n ob)
theorem w_hangings (Γ : Gv) (h1 : Γ.fn "_law_pick" = some S_pick) (rs : List Vl) (oh : OH) (Q : QV) (E : QX) (h : S_hangings rs oh Q E) : fnW Γ 5 c__law_hangings rs oh Q E := by
  obtain ⟨n, hd, m, rfl, st, cs, ne, m0, m1, q⟩ := h
  have hn := st.lt
  obtain ⟨ob0, ho0, hs0⟩ := st.ex
  have nB : ∀ (ob : OO) (x : OO) {Q : QV} {oh' : OH}, norm (oh.set n ob ++ [x]).length (.o n) oh' Q = Q (.o n) oh' := fun ob x => norm_o (by simp; omega)
  have sB : ∀ (ob ob' x : OO), (oh.set n ob ++ [x]).set n ob' = oh.set n ob' ++ [x] := fun ob ob' x => by rw [List.set_append_left _ _ (by simpa using hn), List.set_set]
  have gL : ∀ (ob x : OO), (oh.set n ob ++ [x])[oh.length]? = some x := fun ob x => by simp
  have sL : ∀ (ob x y : OO), (oh.set n ob ++ [x]).set oh.length y = oh.set n ob ++ [y] := fun ob x y => by rw [List.set_append_right _ _ (by simp)]; simp
  have stB : ∀ (ob x : OO), StOk ob → StAt (oh.set n ob ++ [x]) n := fun ob x hs => ⟨ob, by rw [List.getElem?_append_left (by simpa using hn)]; exact get_set hn ob, hs⟩
  (try simp only [fnW_eq, fnD_nx, fnD_rt, seq_nx, seq_rt, seq_rtF, loop_rtF, seq_bk, seq_ct, loop_nx, loop_rt, loop_bk, loop_ct, wB_cons, wB_nil, wS_asgO, wS_asg, wS_unp, wS_par, wS_parc, wS_sset, wS_sps, wS_exp, wS_ret, wS_retN, wS_ife, wS_pas, wS_brk, wS_cnt, wE, wNs, wAs, wT, wI, wP, norm_d, store_d, vdat_d, norm_new, store_new, norm_newS, store_newS, fin_sh, fin_lst, fresh_lst, walk_d, it_T, it_list, it_tuple, seq_T, seq_list, seq_tuple, seqAll, zipN2, zipN3, bind1, bind2, bind3, wipeS, setAll, seeAll, tru_bool, retv_d, take_all, ex_some,
  List.map_cons, List.map_nil, List.length_cons, List.length_nil, List.cons_append, List.nil_append, List.replicate, List.getElem?_cons_zero, List.getElem?_cons_succ, List.set_cons_zero, List.set_cons_succ, Option.some.injEq, exists_eq_left', exists_eq_left, exists_eq_right, true_and, and_true,
  Nat.reduceAdd, Nat.reduceSub, OO.dat, cmp_in, cmp_notin, exists_and_left, reduceIte, reduceCtorEq, if_true, if_false, Bool.false_eq_true, Vl.d.injEq, PyData.int.injEq, PyData.bool.injEq, PyData.str.injEq, Bool.not_true, Bool.not_false, cmp_lt, cmp_gt, cmp_le, cmp_ge, cmp_eq, cmp_ne, len_tup, len_lst, len_txt, ix_0, ix_1, ix_l0, ix_l1, ix_l2, bin_add, bin_sub, set_l0, set_l1, set_l2, live_lst, max_int, min_int, take_set, take_snoc, List.set_set, List.length_set, Vl.o.injEq, eq_self, decide_true, decide_false, Int.reduceLT, Int.reduceEq, Int.cast_ofNat_Int, Nat.zero_add, c__law_hangings])
  rw [c__law_hangings_1, wB_cons, wS_for]
  (try simp only [fnW_eq, fnD_nx, fnD_rt, seq_nx, seq_rt, seq_rtF, loop_rtF, seq_bk, seq_ct, loop_nx, loop_rt, loop_bk, loop_ct, wB_cons, wB_nil, wS_asgO, wS_asg, wS_unp, wS_par, wS_parc, wS_sset, wS_sps, wS_exp, wS_ret, wS_retN, wS_ife, wS_pas, wS_brk, wS_cnt, wE, wNs, wAs, wT, wI, wP, norm_d, store_d, vdat_d, norm_new, store_new, norm_newS, store_newS, fin_sh, fin_lst, fresh_lst, walk_d, it_T, it_list, it_tuple, seq_T, seq_list, seq_tuple, seqAll, zipN2, zipN3, bind1, bind2, bind3, wipeS, setAll, seeAll, tru_bool, retv_d, take_all, ex_some,
  List.map_cons, List.map_nil, List.length_cons, List.length_nil, List.cons_append, List.nil_append, List.replicate, List.getElem?_cons_zero, List.getElem?_cons_succ, List.set_cons_zero, List.set_cons_succ, Option.some.injEq, exists_eq_left', exists_eq_left, exists_eq_right, true_and, and_true,
  Nat.reduceAdd, Nat.reduceSub, OO.dat, cmp_in, cmp_notin, exists_and_left, reduceIte, reduceCtorEq, if_true, if_false, Bool.false_eq_true, Vl.d.injEq, PyData.int.injEq, PyData.bool.injEq, PyData.str.injEq, Bool.not_true, Bool.not_false, cmp_lt, cmp_gt, cmp_le, cmp_ge, cmp_eq, cmp_ne, len_tup, len_lst, len_txt, ix_0, ix_1, ix_l0, ix_l1, ix_l2, bin_add, bin_sub, set_l0, set_l1, set_l2, live_lst, max_int, min_int, take_set, take_snoc, List.set_set, List.length_set, Vl.o.injEq, eq_self, decide_true, decide_false, Int.reduceLT, Int.reduceEq, Int.cast_ofNat_Int, Nat.zero_add, range_1 m ⟨m0, by omega⟩])
  refine ⟨fun i st => ∃ (ob : OO) (l : List Hn) (c : Option Vl), st = ⟨[some (.o n), some (.d (T hd)), some (.d (.int m)), some (.o oh.length), c], oh.set n ob ++ [.dT (l.map fun q => (kp q, (.bool true : D)))]⟩ ∧ StOk ob ∧ l.Nodup ∧ (∀ p ∈ l, p.1.Sublist hd ∧ p.2.Sublist hd) ∧ l.length ≤ i,
    ⟨ob0, [], none, ?_, hs0, .nil, (fun p hp => by simp at hp), Nat.le_refl _⟩, fun _ _ _ _ => trivial, ?_, ?_⟩
  · rw [set_same ho0]
    rfl
  · rintro i d st hdi ⟨ob, l, c, rfl, hs, nd, sub, hl⟩
    have hi : i < m.toNat := by have := lt_get hdi; rwa [rangeL_len] at this
    (try simp only [fnW_eq, fnD_nx, fnD_rt, seq_nx, seq_rt, seq_rtF, loop_rtF, seq_bk, seq_ct, loop_nx, loop_rt, loop_bk, loop_ct, wB_cons, wB_nil, wS_asgO, wS_asg, wS_unp, wS_par, wS_parc, wS_sset, wS_sps, wS_exp, wS_ret, wS_retN, wS_ife, wS_pas, wS_brk, wS_cnt, wE, wNs, wAs, wT, wI, wP, norm_d, store_d, vdat_d, norm_new, store_new, norm_newS, store_newS, fin_sh, fin_lst, fresh_lst, walk_d, it_T, it_list, it_tuple, seq_T, seq_list, seq_tuple, seqAll, zipN2, zipN3, bind1, bind2, bind3, wipeS, setAll, seeAll, tru_bool, retv_d, take_all, ex_some,
  List.map_cons, List.map_nil, List.length_cons, List.length_nil, List.cons_append, List.nil_append, List.replicate, List.getElem?_cons_zero, List.getElem?_cons_succ, List.set_cons_zero, List.set_cons_succ, Option.some.injEq, exists_eq_left', exists_eq_left, exists_eq_right, true_and, and_true,
  Nat.reduceAdd, Nat.reduceSub, OO.dat, cmp_in, cmp_notin, exists_and_left, reduceIte, reduceCtorEq, if_true, if_false, Bool.false_eq_true, Vl.d.injEq, PyData.int.injEq, PyData.bool.injEq, PyData.str.injEq, Bool.not_true, Bool.not_false, cmp_lt, cmp_gt, cmp_le, cmp_ge, cmp_eq, cmp_ne, len_tup, len_lst, len_txt, ix_0, ix_1, ix_l0, ix_l1, ix_l2, bin_add, bin_sub, set_l0, set_l1, set_l2, live_lst, max_int, min_int, take_set, take_snoc, List.set_set, List.length_set, Vl.o.injEq, eq_self, decide_true, decide_false, Int.reduceLT, Int.reduceEq, Int.cast_ofNat_Int, Nat.zero_add, nB])
    refine ⟨_, h1, n, hd, rfl, stB _ _ hs, cs, ne, fun a ob1 ha hs1 => ?_⟩
    rw [sB]
    (try simp only [fnW_eq, fnD_nx, fnD_rt, seq_nx, seq_rt, seq_rtF, loop_rtF, seq_bk, seq_ct, loop_nx, loop_rt, loop_bk, loop_ct, wB_cons, wB_nil, wS_asgO, wS_asg, wS_unp, wS_par, wS_parc, wS_sset, wS_sps, wS_exp, wS_ret, wS_retN, wS_ife, wS_pas, wS_brk, wS_cnt, wE, wNs, wAs, wT, wI, wP, norm_d, store_d, vdat_d, norm_new, store_new, norm_newS, store_newS, fin_sh, fin_lst, fresh_lst, walk_d, it_T, it_list, it_tuple, seq_T, seq_list, seq_tuple, seqAll, zipN2, zipN3, bind1, bind2, bind3, wipeS, setAll, seeAll, tru_bool, retv_d, take_all, ex_some,
  List.map_cons, List.map_nil, List.length_cons, List.length_nil, List.cons_append, List.nil_append, List.replicate, List.getElem?_cons_zero, List.getElem?_cons_succ, List.set_cons_zero, List.set_cons_succ, Option.some.injEq, exists_eq_left', exists_eq_left, exists_eq_right, true_and, and_true,
  Nat.reduceAdd, Nat.reduceSub, OO.dat, cmp_in, cmp_notin, exists_and_left, reduceIte, reduceCtorEq, if_true, if_false, Bool.false_eq_true, Vl.d.injEq, PyData.int.injEq, PyData.bool.injEq, PyData.str.injEq, Bool.not_true, Bool.not_false, cmp_lt, cmp_gt, cmp_le, cmp_ge, cmp_eq, cmp_ne, len_tup, len_lst, len_txt, ix_0, ix_1, ix_l0, ix_l1, ix_l2, bin_add, bin_sub, set_l0, set_l1, set_l2, live_lst, max_int, min_int, take_set, take_snoc, List.set_set, List.length_set, Vl.o.injEq, eq_self, decide_true, decide_false, Int.reduceLT, Int.reduceEq, Int.cast_ofNat_Int, Nat.zero_add, nB])
    refine ⟨_, h1, n, hd, rfl, stB _ _ hs1, cs, ne, fun b ob2 hb hs2 => ?_⟩
    rw [sB]
    have e1 : setD (.dT (l.map fun q => (kp q, (.bool true : D)))) (.tuple [T a, T b]) (.bool true) = some (.dT ((if (a, b) ∈ l then l else l ++ [(a, b)]).map fun q => (kp q, (.bool true : D)))) := by
      have e2 : keysOf [T a, T b] = some (kp (a, b)) := rfl
      have e3 : l.length < sizeLine := Nat.lt_of_lt_of_le (by omega) line_1000
      simp only [setD, e2, List.length_map]
      rw [if_pos e3, put_ps]
    (try simp only [fnW_eq, fnD_nx, fnD_rt, seq_nx, seq_rt, seq_rtF, loop_rtF, seq_bk, seq_ct, loop_nx, loop_rt, loop_bk, loop_ct, wB_cons, wB_nil, wS_asgO, wS_asg, wS_unp, wS_par, wS_parc, wS_sset, wS_sps, wS_exp, wS_ret, wS_retN, wS_ife, wS_pas, wS_brk, wS_cnt, wE, wNs, wAs, wT, wI, wP, norm_d, store_d, vdat_d, norm_new, store_new, norm_newS, store_newS, fin_sh, fin_lst, fresh_lst, walk_d, it_T, it_list, it_tuple, seq_T, seq_list, seq_tuple, seqAll, zipN2, zipN3, bind1, bind2, bind3, wipeS, setAll, seeAll, tru_bool, retv_d, take_all, ex_some,
  List.map_cons, List.map_nil, List.length_cons, List.length_nil, List.cons_append, List.nil_append, List.replicate, List.getElem?_cons_zero, List.getElem?_cons_succ, List.set_cons_zero, List.set_cons_succ, Option.some.injEq, exists_eq_left', exists_eq_left, exists_eq_right, true_and, and_true,
  Nat.reduceAdd, Nat.reduceSub, OO.dat, cmp_in, cmp_notin, exists_and_left, reduceIte, reduceCtorEq, if_true, if_false, Bool.false_eq_true, Vl.d.injEq, PyData.int.injEq, PyData.bool.injEq, PyData.str.injEq, Bool.not_true, Bool.not_false, cmp_lt, cmp_gt, cmp_le, cmp_ge, cmp_eq, cmp_ne, len_tup, len_lst, len_txt, ix_0, ix_1, ix_l0, ix_l1, ix_l2, bin_add, bin_sub, set_l0, set_l1, set_l2, live_lst, max_int, min_int, take_set, take_snoc, List.set_set, List.length_set, Vl.o.injEq, eq_self, decide_true, decide_false, Int.reduceLT, Int.reduceEq, Int.cast_ofNat_Int, Nat.zero_add, gL])
    refine ⟨rfl, _, e1, rfl, ?_⟩
    rw [sL]
    refine ⟨_, wk_self, ob2, _, _, rfl, hs2, ?_, ?_, ?_⟩
    · split
      · exact nd
      · rename_i hm
        exact List.nodup_append.mpr ⟨nd, by simp, fun x hx y hy => by simp at hy; subst hy; exact fun z => hm (z ▸ hx)⟩
    · intro p hp
      split at hp
      · exact sub p hp
      · rcases List.mem_append.mp hp with z | z
        · exact sub p z
        · simp at z; subst z; exact ⟨ha, hb⟩
    · split
      · omega
      · simp; omega
  · rintro st ⟨ob, l, c, rfl, hs, nd, sub, hl⟩
    rw [rangeL_len] at hl
    have nL : ∀ {Q : QV} {oh' : OH} (x : OO), norm (oh.set n ob ++ [x]).length (.o oh.length) oh' Q = Q (.o oh.length) oh' := fun x => norm_o (by simp)
    have vL : ∀ x : OO, vdat (oh.set n ob ++ [x]) (.o oh.length) = some x.dat := fun x => vdat_o (gL ob x)
    have e1 : biD .sorted [(OO.dT (l.map fun q => (kp q, (.bool true : D)))).dat] = some (.fr (.lst ((l.mergeSort leP).map hp))) := by
      show biSorted _ = _
      unfold biSorted
      rw [items_ps]
      simp only [canSort_hp, if_true, sort_hp]
    have e2 : ∀ ds : List D, biD .tuple [.list ds] = some (.sh (.tuple ds)) := fun _ => rfl
    simp only [c__law_hangings_2, wB_cons, wS_ret, wE, wNs, List.getElem?_cons_zero, List.getElem?_cons_succ, Option.some.injEq, exists_eq_left', nL, seeAll, vL]
    (try simp only [fnW_eq, fnD_nx, fnD_rt, seq_nx, seq_rt, seq_rtF, loop_rtF, seq_bk, seq_ct, loop_nx, loop_rt, loop_bk, loop_ct, wB_cons, wB_nil, wS_asgO, wS_asg, wS_unp, wS_par, wS_parc, wS_sset, wS_sps, wS_exp, wS_ret, wS_retN, wS_ife, wS_pas, wS_brk, wS_cnt, wE, wNs, wAs, wT, wI, wP, norm_d, store_d, vdat_d, norm_new, store_new, norm_newS, store_newS, fin_sh, fin_lst, fresh_lst, walk_d, it_T, it_list, it_tuple, seq_T, seq_list, seq_tuple, seqAll, zipN2, zipN3, bind1, bind2, bind3, wipeS, setAll, seeAll, tru_bool, retv_d, take_all, ex_some,
  List.map_cons, List.map_nil, List.length_cons, List.length_nil, List.cons_append, List.nil_append, List.replicate, List.getElem?_cons_zero, List.getElem?_cons_succ, List.set_cons_zero, List.set_cons_succ, Option.some.injEq, exists_eq_left', exists_eq_left, exists_eq_right, true_and, and_true,
  Nat.reduceAdd, Nat.reduceSub, OO.dat, cmp_in, cmp_notin, exists_and_left, reduceIte, reduceCtorEq, if_true, if_false, Bool.false_eq_true, Vl.d.injEq, PyData.int.injEq, PyData.bool.injEq, PyData.str.injEq, Bool.not_true, Bool.not_false, cmp_lt, cmp_gt, cmp_le, cmp_ge, cmp_eq, cmp_ne, len_tup, len_lst, len_txt, ix_0, ix_1, ix_l0, ix_l1, ix_l2, bin_add, bin_sub, set_l0, set_l1, set_l2, live_lst, max_int, min_int, take_set, take_snoc, List.set_set, List.length_set, Vl.o.injEq, eq_self, decide_true, decide_false, Int.reduceLT, Int.reduceEq, Int.cast_ofNat_Int, Nat.zero_add])
    refine ⟨_, e1, ?_⟩
    (try simp only [fnW_eq, fnD_nx, fnD_rt, seq_nx, seq_rt, seq_rtF, loop_rtF, seq_bk, seq_ct, loop_nx, loop_rt, loop_bk, loop_ct, wB_cons, wB_nil, wS_asgO, wS_asg, wS_unp, wS_par, wS_parc, wS_sset, wS_sps, wS_exp, wS_ret, wS_retN, wS_ife, wS_pas, wS_brk, wS_cnt, wE, wNs, wAs, wT, wI, wP, norm_d, store_d, vdat_d, norm_new, store_new, norm_newS, store_newS, fin_sh, fin_lst, fresh_lst, walk_d, it_T, it_list, it_tuple, seq_T, seq_list, seq_tuple, seqAll, zipN2, zipN3, bind1, bind2, bind3, wipeS, setAll, seeAll, tru_bool, retv_d, take_all, ex_some,
  List.map_cons, List.map_nil, List.length_cons, List.length_nil, List.cons_append, List.nil_append, List.replicate, List.getElem?_cons_zero, List.getElem?_cons_succ, List.set_cons_zero, List.set_cons_succ, Option.some.injEq, exists_eq_left', exists_eq_left, exists_eq_right, true_and, and_true,
  Nat.reduceAdd, Nat.reduceSub, OO.dat, cmp_in, cmp_notin, exists_and_left, reduceIte, reduceCtorEq, if_true, if_false, Bool.false_eq_true, Vl.d.injEq, PyData.int.injEq, PyData.bool.injEq, PyData.str.injEq, Bool.not_true, Bool.not_false, cmp_lt, cmp_gt, cmp_le, cmp_ge, cmp_eq, cmp_ne, len_tup, len_lst, len_txt, ix_0, ix_1, ix_l0, ix_l1, ix_l2, bin_add, bin_sub, set_l0, set_l1, set_l2, live_lst, max_int, min_int, take_set, take_snoc, List.set_set, List.length_set, Vl.o.injEq, eq_self, decide_true, decide_false, Int.reduceLT, Int.reduceEq, Int.cast_ofNat_Int, Nat.zero_add, e2])
    have e3 : (oh.set n ob ++ [OO.dT (l.map fun q => (kp q, (.bool true : D)))]).take oh.length = oh.set n ob := by
      have := @take_snoc (oh.set n ob) (OO.dT (l.map fun q => (kp q, (.bool true : D))))
      rwa [List.length_set] at this
    rw [e3]
    have pm : (l.mergeSort leP).Perm l := List.mergeSort_perm l leP
    refine q (l.mergeSort leP) ob ⟨cs, ne, ?_, fun p hp => ?_, ris_of _ (List.pairwise_mergeSort leP_trans leP_total l) (pm.nodup_iff.mpr nd)⟩ hs
    · rw [pm.length_eq]; omega
    · obtain ⟨s1, s2⟩ := sub p (pm.mem_iff.mp hp)
      simp only [okH, List.all_cons, List.all_nil, Bool.and_true, Bool.and_eq_true, decide_eq_true_eq]
      exact ⟨⟨(sub_cs cs s1).symm, sub_ins s1⟩, ⟨(sub_cs cs s2).symm, sub_ins s2⟩⟩
end Kd

namespace Kd
open PySem PySem.Spec PyProof.Rows L2
def S_book : FSpec := fun rs oh Q _ => ∃ n, rs = [.o n] ∧ StAt oh n ∧ ∀ (hd : List Nat) (h : List Hn) ob, BookOk hd h → StOk ob → Q (.d (BK hd h)) (oh.set n ob)
theorem w_book (Γ : Gv) (h1 : Γ.fn "_law_choice" = some S_choice) (h2 : Γ.fn "_law_head" = some S_head) (h3 : Γ.fn "_law_hangings" = some S_hangings) (rs : List Vl) (oh : OH) (Q : QV) (E : QX) (h : S_book rs oh Q E) : fnW Γ 3 c__law_book rs oh Q E := by
  obtain ⟨n, rfl, st, q⟩ := h
  have hn := st.lt
  have nrm : ∀ {Q : QV} {oh' : OH}, norm oh.length (.o n) oh' Q = Q (.o n) oh' := norm_o hn
  (try simp only [fnW_eq, fnD_nx, fnD_rt, seq_nx, seq_rt, seq_rtF, loop_rtF, seq_bk, seq_ct, loop_nx, loop_rt, loop_bk, loop_ct, wB_cons, wB_nil, wS_asgO, wS_asg, wS_unp, wS_par, wS_parc, wS_sset, wS_sps, wS_exp, wS_ret, wS_retN, wS_ife, wS_pas, wS_brk, wS_cnt, wE, wNs, wAs, wT, wI, wP, norm_d, store_d, vdat_d, norm_new, store_new, norm_newS, store_newS, fin_sh, fin_lst, fresh_lst, walk_d, it_T, it_list, it_tuple, seq_T, seq_list, seq_tuple, seqAll, zipN2, zipN3, bind1, bind2, bind3, wipeS, setAll, seeAll, tru_bool, retv_d, take_all, ex_some,
  List.map_cons, List.map_nil, List.length_cons, List.length_nil, List.cons_append, List.nil_append, List.replicate, List.getElem?_cons_zero, List.getElem?_cons_succ, List.set_cons_zero, List.set_cons_succ, Option.some.injEq, exists_eq_left', exists_eq_left, exists_eq_right, true_and, and_true,
  Nat.reduceAdd, Nat.reduceSub, OO.dat, cmp_in, cmp_notin, exists_and_left, reduceIte, reduceCtorEq, if_true, if_false, Bool.false_eq_true, Vl.d.injEq, PyData.int.injEq, PyData.bool.injEq, PyData.str.injEq, Bool.not_true, Bool.not_false, cmp_lt, cmp_gt, cmp_le, cmp_ge, cmp_eq, cmp_ne, len_tup, len_lst, len_txt, ix_0, ix_1, ix_l0, ix_l1, ix_l2, bin_add, bin_sub, set_l0, set_l1, set_l2, live_lst, max_int, min_int, take_set, take_snoc, List.set_set, List.length_set, Vl.o.injEq, eq_self, decide_true, decide_false, Int.reduceLT, Int.reduceEq, Int.cast_ofNat_Int, Nat.zero_add, c__law_book, nrm])
  refine ⟨_, h2, n, rfl, st, fun hd ob cs ne ho => ?_⟩
  (try simp only [fnW_eq, fnD_nx, fnD_rt, seq_nx, seq_rt, seq_rtF, loop_rtF, seq_bk, seq_ct, loop_nx, loop_rt, loop_bk, loop_ct, wB_cons, wB_nil, wS_asgO, wS_asg, wS_unp, wS_par, wS_parc, wS_sset, wS_sps, wS_exp, wS_ret, wS_retN, wS_ife, wS_pas, wS_brk, wS_cnt, wE, wNs, wAs, wT, wI, wP, norm_d, store_d, vdat_d, norm_new, store_new, norm_newS, store_newS, fin_sh, fin_lst, fresh_lst, walk_d, it_T, it_list, it_tuple, seq_T, seq_list, seq_tuple, seqAll, zipN2, zipN3, bind1, bind2, bind3, wipeS, setAll, seeAll, tru_bool, retv_d, take_all, ex_some,
  List.map_cons, List.map_nil, List.length_cons, List.length_nil, List.cons_append, List.nil_append, List.replicate, List.getElem?_cons_zero, List.getElem?_cons_succ, List.set_cons_zero, List.set_cons_succ, Option.some.injEq, exists_eq_left', exists_eq_left, exists_eq_right, true_and, and_true,
  Nat.reduceAdd, Nat.reduceSub, OO.dat, cmp_in, cmp_notin, exists_and_left, reduceIte, reduceCtorEq, if_true, if_false, Bool.false_eq_true, Vl.d.injEq, PyData.int.injEq, PyData.bool.injEq, PyData.str.injEq, Bool.not_true, Bool.not_false, cmp_lt, cmp_gt, cmp_le, cmp_ge, cmp_eq, cmp_ne, len_tup, len_lst, len_txt, ix_0, ix_1, ix_l0, ix_l1, ix_l2, bin_add, bin_sub, set_l0, set_l1, set_l2, live_lst, max_int, min_int, take_set, take_snoc, List.set_set, List.length_set, Vl.o.injEq, eq_self, decide_true, decide_false, Int.reduceLT, Int.reduceEq, Int.cast_ofNat_Int, Nat.zero_add, c__law_book_1, nrm])
  refine ⟨_, h1, n, 6, rfl, StAt.set hn ho, by decide, by decide, fun v ob2 v0 v1 ho2 => ?_⟩
  have key : ∃ m : Int, 2 ≤ m ∧ m ≤ 12 ∧ ixD (.list [.int 12, .int 4, .int 2, .int 7, .int 5, .int 3]) (.int v) = some (.int m) := by
    have : v = 0 ∨ v = 1 ∨ v = 2 ∨ v = 3 ∨ v = 4 ∨ v = 5 := by omega
    rcases this with rfl | rfl | rfl | rfl | rfl | rfl
    · exact ⟨12, by decide, by decide, at_nat (n := 0) rfl⟩
    · exact ⟨4, by decide, by decide, at_nat (n := 1) rfl⟩
    · exact ⟨2, by decide, by decide, at_nat (n := 2) rfl⟩
    · exact ⟨7, by decide, by decide, at_nat (n := 3) rfl⟩
    · exact ⟨5, by decide, by decide, at_nat (n := 4) rfl⟩
    · exact ⟨3, by decide, by decide, at_nat (n := 5) rfl⟩
  obtain ⟨m, m0, m1, e⟩ := key
  (try simp only [fnW_eq, fnD_nx, fnD_rt, seq_nx, seq_rt, seq_rtF, loop_rtF, seq_bk, seq_ct, loop_nx, loop_rt, loop_bk, loop_ct, wB_cons, wB_nil, wS_asgO, wS_asg, wS_unp, wS_par, wS_parc, wS_sset, wS_sps, wS_exp, wS_ret, wS_retN, wS_ife, wS_pas, wS_brk, wS_cnt, wE, wNs, wAs, wT, wI, wP, norm_d, store_d, vdat_d, norm_new, store_new, norm_newS, store_newS, fin_sh, fin_lst, fresh_lst, walk_d, it_T, it_list, it_tuple, seq_T, seq_list, seq_tuple, seqAll, zipN2, zipN3, bind1, bind2, bind3, wipeS, setAll, seeAll, tru_bool, retv_d, take_all, ex_some,
  List.map_cons, List.map_nil, List.length_cons, List.length_nil, List.cons_append, List.nil_append, List.replicate, List.getElem?_cons_zero, List.getElem?_cons_succ, List.set_cons_zero, List.set_cons_succ, Option.some.injEq, exists_eq_left', exists_eq_left, exists_eq_right, true_and, and_true,
  Nat.reduceAdd, Nat.reduceSub, OO.dat, cmp_in, cmp_notin, exists_and_left, reduceIte, reduceCtorEq, if_true, if_false, Bool.false_eq_true, Vl.d.injEq, PyData.int.injEq, PyData.bool.injEq, PyData.str.injEq, Bool.not_true, Bool.not_false, cmp_lt, cmp_gt, cmp_le, cmp_ge, cmp_eq, cmp_ne, len_tup, len_lst, len_txt, ix_0, ix_1, ix_l0, ix_l1, ix_l2, bin_add, bin_sub, set_l0, set_l1, set_l2, live_lst, max_int, min_int, take_set, take_snoc, List.set_set, List.length_set, Vl.o.injEq, eq_self, decide_true, decide_false, Int.reduceLT, Int.reduceEq, Int.cast_ofNat_Int, Nat.zero_add, e])
  (try simp only [fnW_eq, fnD_nx, fnD_rt, seq_nx, seq_rt, seq_rtF, loop_rtF, seq_bk, seq_ct, loop_nx, loop_rt, loop_bk, loop_ct, wB_cons, wB_nil, wS_asgO, wS_asg, wS_unp, wS_par, wS_parc, wS_sset, wS_sps, wS_exp, wS_ret, wS_retN, wS_ife, wS_pas, wS_brk, wS_cnt, wE, wNs, wAs, wT, wI, wP, norm_d, store_d, vdat_d, norm_new, store_new, norm_newS, store_newS, fin_sh, fin_lst, fresh_lst, walk_d, it_T, it_list, it_tuple, seq_T, seq_list, seq_tuple, seqAll, zipN2, zipN3, bind1, bind2, bind3, wipeS, setAll, seeAll, tru_bool, retv_d, take_all, ex_some,
  List.map_cons, List.map_nil, List.length_cons, List.length_nil, List.cons_append, List.nil_append, List.replicate, List.getElem?_cons_zero, List.getElem?_cons_succ, List.set_cons_zero, List.set_cons_succ, Option.some.injEq, exists_eq_left', exists_eq_left, exists_eq_right, true_and, and_true,
  Nat.reduceAdd, Nat.reduceSub, OO.dat, cmp_in, cmp_notin, exists_and_left, reduceIte, reduceCtorEq, if_true, if_false, Bool.false_eq_true, Vl.d.injEq, PyData.int.injEq, PyData.bool.injEq, PyData.str.injEq, Bool.not_true, Bool.not_false, cmp_lt, cmp_gt, cmp_le, cmp_ge, cmp_eq, cmp_ne, len_tup, len_lst, len_txt, ix_0, ix_1, ix_l0, ix_l1, ix_l2, bin_add, bin_sub, set_l0, set_l1, set_l2, live_lst, max_int, min_int, take_set, take_snoc, List.set_set, List.length_set, Vl.o.injEq, eq_self, decide_true, decide_false, Int.reduceLT, Int.reduceEq, Int.cast_ofNat_Int, Nat.zero_add, c__law_book_2, nrm])
  refine ⟨_, h1, n, m + 1, rfl, StAt.set hn ho2, by omega, by omega, fun x ob3 x0 x1 ho3 => ?_⟩
  (try simp only [fnW_eq, fnD_nx, fnD_rt, seq_nx, seq_rt, seq_rtF, loop_rtF, seq_bk, seq_ct, loop_nx, loop_rt, loop_bk, loop_ct, wB_cons, wB_nil, wS_asgO, wS_asg, wS_unp, wS_par, wS_parc, wS_sset, wS_sps, wS_exp, wS_ret, wS_retN, wS_ife, wS_pas, wS_brk, wS_cnt, wE, wNs, wAs, wT, wI, wP, norm_d, store_d, vdat_d, norm_new, store_new, norm_newS, store_newS, fin_sh, fin_lst, fresh_lst, walk_d, it_T, it_list, it_tuple, seq_T, seq_list, seq_tuple, seqAll, zipN2, zipN3, bind1, bind2, bind3, wipeS, setAll, seeAll, tru_bool, retv_d, take_all, ex_some,
  List.map_cons, List.map_nil, List.length_cons, List.length_nil, List.cons_append, List.nil_append, List.replicate, List.getElem?_cons_zero, List.getElem?_cons_succ, List.set_cons_zero, List.set_cons_succ, Option.some.injEq, exists_eq_left', exists_eq_left, exists_eq_right, true_and, and_true,
  Nat.reduceAdd, Nat.reduceSub, OO.dat, cmp_in, cmp_notin, exists_and_left, reduceIte, reduceCtorEq, if_true, if_false, Bool.false_eq_true, Vl.d.injEq, PyData.int.injEq, PyData.bool.injEq, PyData.str.injEq, Bool.not_true, Bool.not_false, cmp_lt, cmp_gt, cmp_le, cmp_ge, cmp_eq, cmp_ne, len_tup, len_lst, len_txt, ix_0, ix_1, ix_l0, ix_l1, ix_l2, bin_add, bin_sub, set_l0, set_l1, set_l2, live_lst, max_int, min_int, take_set, take_snoc, List.set_set, List.length_set, Vl.o.injEq, eq_self, decide_true, decide_false, Int.reduceLT, Int.reduceEq, Int.cast_ofNat_Int, Nat.zero_add])
  refine ⟨_, h3, n, hd, x, rfl, StAt.set hn ho3, cs, ne, x0, by omega, fun hh ob4 ok ho4 => ?_⟩
  (try simp only [fnW_eq, fnD_nx, fnD_rt, seq_nx, seq_rt, seq_rtF, loop_rtF, seq_bk, seq_ct, loop_nx, loop_rt, loop_bk, loop_ct, wB_cons, wB_nil, wS_asgO, wS_asg, wS_unp, wS_par, wS_parc, wS_sset, wS_sps, wS_exp, wS_ret, wS_retN, wS_ife, wS_pas, wS_brk, wS_cnt, wE, wNs, wAs, wT, wI, wP, norm_d, store_d, vdat_d, norm_new, store_new, norm_newS, store_newS, fin_sh, fin_lst, fresh_lst, walk_d, it_T, it_list, it_tuple, seq_T, seq_list, seq_tuple, seqAll, zipN2, zipN3, bind1, bind2, bind3, wipeS, setAll, seeAll, tru_bool, retv_d, take_all, ex_some,
  List.map_cons, List.map_nil, List.length_cons, List.length_nil, List.cons_append, List.nil_append, List.replicate, List.getElem?_cons_zero, List.getElem?_cons_succ, List.set_cons_zero, List.set_cons_succ, Option.some.injEq, exists_eq_left', exists_eq_left, exists_eq_right, true_and, and_true,
  Nat.reduceAdd, Nat.reduceSub, OO.dat, cmp_in, cmp_notin, exists_and_left, reduceIte, reduceCtorEq, if_true, if_false, Bool.false_eq_true, Vl.d.injEq, PyData.int.injEq, PyData.bool.injEq, PyData.str.injEq, Bool.not_true, Bool.not_false, cmp_lt, cmp_gt, cmp_le, cmp_ge, cmp_eq, cmp_ne, len_tup, len_lst, len_txt, ix_0, ix_1, ix_l0, ix_l1, ix_l2, bin_add, bin_sub, set_l0, set_l1, set_l2, live_lst, max_int, min_int, take_set, take_snoc, List.set_set, List.length_set, Vl.o.injEq, eq_self, decide_true, decide_false, Int.reduceLT, Int.reduceEq, Int.cast_ofNat_Int, Nat.zero_add])
  exact q hd hh ob4 ok ho4
/-! ### _law_same: where both are the same -/
theorem norm_old {oh : OH} {r : Vl} {d : D} {Q : QV} (h : vdat oh r = some d) : norm oh.length r oh Q = Q r oh := by
  cases r with
  | d d' => rfl
  | o n =>
    refine norm_o ?_
    cases e : oh[n]? with
    | none => simp [vdat, e] at h
    | some ob => exact lt_get e
  | l ns => rfl
def S_same : FSpec := fun rs oh Q _ => ∃ ra rb d, rs = [ra, rb] ∧ vdat oh ra = some d ∧ vdat oh rb = some d ∧ canRepr d = true ∧ Q (.d (.bool true)) oh
theorem w_same (Γ : Gv) (rs : List Vl) (oh : OH) (Q : QV) (E : QX) (h : S_same rs oh Q E) : fnW Γ 2 c__law_same rs oh Q E := by
  obtain ⟨ra, rb, d, rfl, ha, hb, hc, q⟩ := h
  have e : biD .repr [d] = some (.sh (.str d.shown)) := by
    show biRepr d = _
    unfold biRepr
    rw [if_pos hc]
  have e2 : cmpD .Eq (.str d.shown) (.str d.shown) = some true := by
    have c : canEq (.str d.shown) (.str d.shown) = true := by simp [canEq, flatDict, PyData.depth]
    simp only [cmpD, c, if_true, PyData.eqv, beq_self_eq_true]
  (try simp only [fnW_eq, fnD_nx, fnD_rt, seq_nx, seq_rt, seq_rtF, loop_rtF, seq_bk, seq_ct, loop_nx, loop_rt, loop_bk, loop_ct, wB_cons, wB_nil, wS_asgO, wS_asg, wS_unp, wS_par, wS_parc, wS_sset, wS_sps, wS_exp, wS_ret, wS_retN, wS_ife, wS_pas, wS_brk, wS_cnt, wE, wNs, wAs, wT, wI, wP, norm_d, store_d, vdat_d, norm_new, store_new, norm_newS, store_newS, fin_sh, fin_lst, fresh_lst, walk_d, it_T, it_list, it_tuple, seq_T, seq_list, seq_tuple, seqAll, zipN2, zipN3, bind1, bind2, bind3, wipeS, setAll, seeAll, tru_bool, retv_d, take_all, ex_some,
  List.map_cons, List.map_nil, List.length_cons, List.length_nil, List.cons_append, List.nil_append, List.replicate, List.getElem?_cons_zero, List.getElem?_cons_succ, List.set_cons_zero, List.set_cons_succ, Option.some.injEq, exists_eq_left', exists_eq_left, exists_eq_right, true_and, and_true,
  Nat.reduceAdd, Nat.reduceSub, OO.dat, cmp_in, cmp_notin, exists_and_left, reduceIte, reduceCtorEq, if_true, if_false, Bool.false_eq_true, Vl.d.injEq, PyData.int.injEq, PyData.bool.injEq, PyData.str.injEq, Bool.not_true, Bool.not_false, cmp_lt, cmp_gt, cmp_le, cmp_ge, cmp_eq, cmp_ne, len_tup, len_lst, len_txt, ix_0, ix_1, ix_l0, ix_l1, ix_l2, bin_add, bin_sub, set_l0, set_l1, set_l2, live_lst, max_int, min_int, take_set, take_snoc, List.set_set, List.length_set, Vl.o.injEq, eq_self, decide_true, decide_false, Int.reduceLT, Int.reduceEq, Int.cast_ofNat_Int, Nat.zero_add, c__law_same, norm_old ha, norm_old hb, ha, hb, e, e2])
  exact q
/-! ### _law_lies -/
theorem eq_nilL (l : List Nat) : cmpD .Eq (.list (l.map fun c => T [c])) (.list []) = some (decide (l = [])) := by
  have c : canEq (.list (l.map fun c => T [c])) (.list []) = true := by
    have : (PyData.list (l.map fun c => T [c])).depth ≤ 64 := by
      have e : ∀ l : List Nat, PyData.depthAll (l.map fun c => T [c]) = 0 := fun l => by
        induction l with
        | nil => rfl
        | cons c l ih => simp [PyData.depthAll, T, PyData.depth] at ih ⊢; exact ih
      simp [PyData.depth, e]
    simp only [canEq, flatDict, flatAll_T, flatDictAll, Bool.and_self, Bool.true_and, decide_eq_true_eq]
    exact this
  have e : PyData.eqv (.list (l.map fun c => T [c])) (.list []) = decide (l = []) := by
    cases l with
    | nil => rfl
    | cons c l => simp [PyData.eqv, PyData.eqvAll]
  simp only [cmpD, c, if_true, e]
def S_lies : FSpec := fun rs oh Q _ => ∃ a b, rs = [.d (T a), .d (T b)] ∧ Q (.d (.bool (insB a b))) oh
theorem w_lies (Γ : Gv) (rs : List Vl) (oh : OH) (Q : QV) (E : QX) (h : S_lies rs oh Q E) : fnW Γ 3 c__law_lies rs oh Q E := by
  obtain ⟨a, b, rfl, q⟩ := h
  (try simp only [fnW_eq, fnD_nx, fnD_rt, seq_nx, seq_rt, seq_rtF, loop_rtF, seq_bk, seq_ct, loop_nx, loop_rt, loop_bk, loop_ct, wB_cons, wB_nil, wS_asgO, wS_asg, wS_unp, wS_par, wS_parc, wS_sset, wS_sps, wS_exp, wS_ret, wS_retN, wS_ife, wS_pas, wS_brk, wS_cnt, wE, wNs, wAs, wT, wI, wP, norm_d, store_d, vdat_d, norm_new, store_new, norm_newS, store_newS, fin_sh, fin_lst, fresh_lst, walk_d, it_T, it_list, it_tuple, seq_T, seq_list, seq_tuple, seqAll, zipN2, zipN3, bind1, bind2, bind3, wipeS, setAll, seeAll, tru_bool, retv_d, take_all, ex_some,
  List.map_cons, List.map_nil, List.length_cons, List.length_nil, List.cons_append, List.nil_append, List.replicate, List.getElem?_cons_zero, List.getElem?_cons_succ, List.set_cons_zero, List.set_cons_succ, Option.some.injEq, exists_eq_left', exists_eq_left, exists_eq_right, true_and, and_true,
  Nat.reduceAdd, Nat.reduceSub, OO.dat, cmp_in, cmp_notin, exists_and_left, reduceIte, reduceCtorEq, if_true, if_false, Bool.false_eq_true, Vl.d.injEq, PyData.int.injEq, PyData.bool.injEq, PyData.str.injEq, Bool.not_true, Bool.not_false, cmp_lt, cmp_gt, cmp_le, cmp_ge, cmp_eq, cmp_ne, len_tup, len_lst, len_txt, ix_0, ix_1, ix_l0, ix_l1, ix_l2, bin_add, bin_sub, set_l0, set_l1, set_l2, live_lst, max_int, min_int, take_set, take_snoc, List.set_set, List.length_set, Vl.o.injEq, eq_self, decide_true, decide_false, Int.reduceLT, Int.reduceEq, Int.cast_ofNat_Int, Nat.zero_add, c__law_lies])
  refine lc_fm (fun c => !decide (c ∈ b)) (fun c => T [c]) trivial (fun c hc k hk => ?_) ?_
  · (try simp only [fnW_eq, fnD_nx, fnD_rt, seq_nx, seq_rt, seq_rtF, loop_rtF, seq_bk, seq_ct, loop_nx, loop_rt, loop_bk, loop_ct, wB_cons, wB_nil, wS_asgO, wS_asg, wS_unp, wS_par, wS_parc, wS_sset, wS_sps, wS_exp, wS_ret, wS_retN, wS_ife, wS_pas, wS_brk, wS_cnt, wE, wNs, wAs, wT, wI, wP, norm_d, store_d, vdat_d, norm_new, store_new, norm_newS, store_newS, fin_sh, fin_lst, fresh_lst, walk_d, it_T, it_list, it_tuple, seq_T, seq_list, seq_tuple, seqAll, zipN2, zipN3, bind1, bind2, bind3, wipeS, setAll, seeAll, tru_bool, retv_d, take_all, ex_some,
  List.map_cons, List.map_nil, List.length_cons, List.length_nil, List.cons_append, List.nil_append, List.replicate, List.getElem?_cons_zero, List.getElem?_cons_succ, List.set_cons_zero, List.set_cons_succ, Option.some.injEq, exists_eq_left', exists_eq_left, exists_eq_right, true_and, and_true,
  Nat.reduceAdd, Nat.reduceSub, OO.dat, cmp_in, cmp_notin, exists_and_left, reduceIte, reduceCtorEq, if_true, if_false, Bool.false_eq_true, Vl.d.injEq, PyData.int.injEq, PyData.bool.injEq, PyData.str.injEq, Bool.not_true, Bool.not_false, cmp_lt, cmp_gt, cmp_le, cmp_ge, cmp_eq, cmp_ne, len_tup, len_lst, len_txt, ix_0, ix_1, ix_l0, ix_l1, ix_l2, bin_add, bin_sub, set_l0, set_l1, set_l2, live_lst, max_int, min_int, take_set, take_snoc, List.set_set, List.length_set, Vl.o.injEq, eq_self, decide_true, decide_false, Int.reduceLT, Int.reduceEq, Int.cast_ofNat_Int, Nat.zero_add])
    exact hk
  · (try simp only [fnW_eq, fnD_nx, fnD_rt, seq_nx, seq_rt, seq_rtF, loop_rtF, seq_bk, seq_ct, loop_nx, loop_rt, loop_bk, loop_ct, wB_cons, wB_nil, wS_asgO, wS_asg, wS_unp, wS_par, wS_parc, wS_sset, wS_sps, wS_exp, wS_ret, wS_retN, wS_ife, wS_pas, wS_brk, wS_cnt, wE, wNs, wAs, wT, wI, wP, norm_d, store_d, vdat_d, norm_new, store_new, norm_newS, store_newS, fin_sh, fin_lst, fresh_lst, walk_d, it_T, it_list, it_tuple, seq_T, seq_list, seq_tuple, seqAll, zipN2, zipN3, bind1, bind2, bind3, wipeS, setAll, seeAll, tru_bool, retv_d, take_all, ex_some,
  List.map_cons, List.map_nil, List.length_cons, List.length_nil, List.cons_append, List.nil_append, List.replicate, List.getElem?_cons_zero, List.getElem?_cons_succ, List.set_cons_zero, List.set_cons_succ, Option.some.injEq, exists_eq_left', exists_eq_left, exists_eq_right, true_and, and_true,
  Nat.reduceAdd, Nat.reduceSub, OO.dat, cmp_in, cmp_notin, exists_and_left, reduceIte, reduceCtorEq, if_true, if_false, Bool.false_eq_true, Vl.d.injEq, PyData.int.injEq, PyData.bool.injEq, PyData.str.injEq, Bool.not_true, Bool.not_false, cmp_lt, cmp_gt, cmp_le, cmp_ge, cmp_eq, cmp_ne, len_tup, len_lst, len_txt, ix_0, ix_1, ix_l0, ix_l1, ix_l2, bin_add, bin_sub, set_l0, set_l1, set_l2, live_lst, max_int, min_int, take_set, take_snoc, List.set_set, List.length_set, Vl.o.injEq, eq_self, decide_true, decide_false, Int.reduceLT, Int.reduceEq, Int.cast_ofNat_Int, Nat.zero_add, eq_nilL])
    have e : decide (a.filter (fun c => !decide (c ∈ b)) = []) = insB a b := out_nil a b
    rw [e]
    exact q
end Kd

namespace Kd
open PySem PySem.Spec PyProof.Rows L2
/-! ### signs sorted -/
theorem lt_sing (a b : Nat) : ([a] < [b]) ↔ a < b := by
  constructor
  · intro h
    cases h with
    | rel h => exact h
    | cons h => cases h
  · intro h; exact .rel h
theorem inc_sub : ∀ (m l : List Nat), l.Pairwise (· < ·) → m.Pairwise (· < ·) → (∀ x ∈ l, x ∈ m) → l.Sublist m
  | [], l, _, _, h => by
    cases l with
    | nil => exact .slnil
    | cons b l => cases h b List.mem_cons_self
  | a :: m, [], _, _, _ => List.nil_sublist _
  | a :: m, b :: l, hl, hm, h => by
    have hl' := List.pairwise_cons.mp hl
    have hm' := List.pairwise_cons.mp hm
    by_cases e : b = a
    · subst e
      refine .cons_cons _ (inc_sub m l hl'.2 hm'.2 fun x hx => ?_)
      rcases List.mem_cons.mp (h x (List.mem_cons_of_mem _ hx)) with z | z
      · have := hl'.1 x hx; omega
      · exact z
    · refine .cons _ (inc_sub m (b :: l) hl hm'.2 fun x hx => ?_)
      have hb : b ∈ m := (List.mem_cons.mp (h b List.mem_cons_self)).resolve_left e
      have hab := hm'.1 b hb
      rcases List.mem_cons.mp (h x hx) with z | z
      · rcases List.mem_cons.mp hx with y | y
        · omega
        · have := hl'.1 x y; omega
      · exact z
def leN (a b : Nat) : Bool := decide (a ≤ b)
def srt (l : List Nat) : List Nat := l.mergeSort leN
theorem srt_cs {l : List Nat} (nd : l.Nodup) (hc : ∀ x ∈ l, x ∈ cols) : IsCS (srt l) := by
  have pm : (srt l).Perm l := List.mergeSort_perm l leN
  have pw : (srt l).Pairwise (fun a b => leN a b = true) := List.pairwise_mergeSort (fun a b c h1 h2 => by simp [leN] at *; omega) (fun a b => by simp [leN]; omega) l
  have nd2 : (srt l).Nodup := pm.nodup_iff.mpr nd
  have pw2 : (srt l).Pairwise (· < ·) := by
    have := List.Pairwise.and pw nd2
    exact this.imp fun {a b} h => by have := of_decide_eq_true h.1; have := h.2; omega
  have sub : (srt l).Sublist cols := inc_sub cols _ pw2 (by decide) fun x hx => hc x (pm.mem_iff.mp hx)
  exact sub_cs cs_cols sub
theorem mem_srt {l : List Nat} {x : Nat} : x ∈ srt l ↔ x ∈ l := (List.mergeSort_perm l leN).mem_iff
theorem canSort_sing (l : List Nat) : canSort (l.map fun c => T [c]) = true := by
  unfold canSort
  have h1 : allAlike (l.map fun c => T [c]) = true := by
    unfold allAlike
    rw [List.all_eq_true]
    intro a ha
    rw [List.all_eq_true]
    intro b hb
    obtain ⟨p, _, rfl⟩ := List.mem_map.mp ha
    obtain ⟨q, _, rfl⟩ := List.mem_map.mp hb
    simp [T, PySem.W.alike]
  have h2 : noTup (l.map fun c => T [c]) = true := by
    clear h1
    induction l with
    | nil => rfl
    | cons p l ih => simp only [List.map_cons, T, noTup]; exact ih
  have h3 : ((l.map fun c => T [c]).all fun d => decide (d.depth ≤ 64)) = true := by
    rw [List.all_eq_true]
    intro a ha
    obtain ⟨p, _, rfl⟩ := List.mem_map.mp ha
    simp [T, PyData.depth]
  rw [h1, h2, flatAll_T, h3]
  simp
theorem sort_sing (l : List Nat) : sortD (l.map fun c => T [c]) = (srt l).map fun c => T [c] := by
  unfold sortD srt
  refine (List.map_mergeSort (f := fun c => T [c]) (r := leN) (s := PySem.W.dataLe false id) (l := l) fun a _ b _ => ?_).symm
  show leN a b = !PySem.W.dataLt (T [b]) (T [a])
  rw [lt_T, Bool.eq_iff_iff]
  simp [leN, lt_sing]
theorem sorted_T (l : List Nat) : biD .sorted [T l] = some (.fr (.lst ((srt l).map fun c => T [c]))) := by
  show biSorted (T l) = _
  have e : itemsD (T l) = some (l.map fun c => T [c]) := seq_T l
  unfold biSorted
  rw [e]
  simp only [canSort_sing, if_true, sort_sing]
/-! ### _law_cover -/
def ahD : Option (List Nat) → D
  | none => .none
  | some g => T g
theorem ne_ah (f : List Nat) (a : Option (List Nat)) : cmpD .NotEq (T f) (ahD a) = some (!decide (a = some f)) := by
  cases a with
  | none =>
    have c : canEq (T f) .none = true := by simp [canEq, T, flatDict, PyData.depth]
    simp only [ahD, cmpD, c, if_true, Option.some.injEq]
    simp [T, PyData.eqv]
  | some g =>
    show cmpD .NotEq (T f) (T g) = _
    rw [ne_T]
    by_cases h : f = g
    · subst h; simp
    · have : ¬ (some g = some f) := fun z => h (Option.some.inj z).symm
      simp [h, this]
theorem nd_cols {l : List Nat} (nd : l.Nodup) (hc : ∀ x ∈ l, x ∈ cols) : l.length ≤ 8 := by
  have := (srt_cs nd hc).len
  have pm : (srt l).Perm l := List.mergeSort_perm l leN
  rwa [pm.length_eq] at this
def S_lcover : FSpec := fun rs oh Q _ => ∃ dh h s, rs = [.d dh, .d (T s)] ∧ itemsD dh = some (h.map hp) ∧ (∀ p ∈ h, IsCS p.1 ∧ IsCS p.2) ∧ IsCS s ∧ Q (.d (T (clL h s))) oh
theorem w_lcover (Γ : Gv) (h1 : Γ.fn "_law_lies" = some S_lies) (rs : List Vl) (oh : OH) (Q : QV) (E : QX) (h : S_lcover rs oh Q E) : fnW Γ 7 c__law_cover rs oh Q E := by
  obtain ⟨dh, h, s, rfl, edh, hh, hs, q⟩ := h
  (try simp only [fnW_eq, fnD_nx, fnD_rt, seq_nx, seq_rt, seq_rtF, loop_rtF, seq_bk, seq_ct, loop_nx, loop_rt, loop_bk, loop_ct, wB_cons, wB_nil, wS_asgO, wS_asg, wS_unp, wS_par, wS_parc, wS_sset, wS_sps, wS_exp, wS_ret, wS_retN, wS_ife, wS_pas, wS_brk, wS_cnt, wE, wNs, wAs, wT, wI, wP, norm_d, store_d, vdat_d, norm_new, store_new, norm_newS, store_newS, fin_sh, fin_lst, fresh_lst, walk_d, it_T, it_list, it_tuple, seq_T, seq_list, seq_tuple, seqAll, zipN2, zipN3, bind1, bind2, bind3, wipeS, setAll, seeAll, tru_bool, retv_d, take_all, ex_some,
  List.map_cons, List.map_nil, List.length_cons, List.length_nil, List.cons_append, List.nil_append, List.replicate, List.getElem?_cons_zero, List.getElem?_cons_succ, List.set_cons_zero, List.set_cons_succ, Option.some.injEq, exists_eq_left', exists_eq_left, exists_eq_right, true_and, and_true,
  Nat.reduceAdd, Nat.reduceSub, OO.dat, cmp_in, cmp_notin, exists_and_left, reduceIte, reduceCtorEq, if_true, if_false, Bool.false_eq_true, Vl.d.injEq, PyData.int.injEq, PyData.bool.injEq, PyData.str.injEq, Bool.not_true, Bool.not_false, cmp_lt, cmp_gt, cmp_le, cmp_ge, cmp_eq, cmp_ne, len_tup, len_lst, len_txt, ix_0, ix_1, ix_l0, ix_l1, ix_l2, bin_add, bin_sub, set_l0, set_l1, set_l2, live_lst, max_int, min_int, take_set, take_snoc, List.set_set, List.length_set, Vl.o.injEq, eq_self, decide_true, decide_false, Int.reduceLT, Int.reduceEq, Int.cast_ofNat_Int, Nat.zero_add, c__law_cover])
  rw [c__law_cover_1, wB_cons, wS_whl]
  refine ⟨fun m st => ∃ f a l r c, st = ⟨[some (.d dh), some (.d (T s)), some (.d (T f)), some (.d (ahD a)), l, r, c], oh⟩ ∧ f.Nodup ∧ (∀ x ∈ f, x ∈ cols) ∧ (∀ x ∈ s, x ∈ f) ∧ (∀ x ∈ f, Clo h s x) ∧
      (a = some f → ∀ p ∈ h, (∀ x ∈ p.1, x ∈ f) → ∀ x ∈ p.2, x ∈ f) ∧ m = 2 * (8 - f.length) + (if a = some f then 0 else 1),
    ⟨_, s, none, none, none, none, rfl, cs_nodup hs, fun x hx => mem_cs hs hx, fun _ z => z, fun x z => clo_base z, (fun z => by cases z), rfl⟩, ?_⟩
  rintro m st ⟨f, a, l, r, c, rfl, nd, fcl, sf, fc, cl, rfl⟩
  have fl8 := nd_cols nd fcl
  (try simp only [fnW_eq, fnD_nx, fnD_rt, seq_nx, seq_rt, seq_rtF, loop_rtF, seq_bk, seq_ct, loop_nx, loop_rt, loop_bk, loop_ct, wB_cons, wB_nil, wS_asgO, wS_asg, wS_unp, wS_par, wS_parc, wS_sset, wS_sps, wS_exp, wS_ret, wS_retN, wS_ife, wS_pas, wS_brk, wS_cnt, wE, wNs, wAs, wT, wI, wP, norm_d, store_d, vdat_d, norm_new, store_new, norm_newS, store_newS, fin_sh, fin_lst, fresh_lst, walk_d, it_T, it_list, it_tuple, seq_T, seq_list, seq_tuple, seqAll, zipN2, zipN3, bind1, bind2, bind3, wipeS, setAll, seeAll, tru_bool, retv_d, take_all, ex_some,
  List.map_cons, List.map_nil, List.length_cons, List.length_nil, List.cons_append, List.nil_append, List.replicate, List.getElem?_cons_zero, List.getElem?_cons_succ, List.set_cons_zero, List.set_cons_succ, Option.some.injEq, exists_eq_left', exists_eq_left, exists_eq_right, true_and, and_true,
  Nat.reduceAdd, Nat.reduceSub, OO.dat, cmp_in, cmp_notin, exists_and_left, reduceIte, reduceCtorEq, if_true, if_false, Bool.false_eq_true, Vl.d.injEq, PyData.int.injEq, PyData.bool.injEq, PyData.str.injEq, Bool.not_true, Bool.not_false, cmp_lt, cmp_gt, cmp_le, cmp_ge, cmp_eq, cmp_ne, len_tup, len_lst, len_txt, ix_0, ix_1, ix_l0, ix_l1, ix_l2, bin_add, bin_sub, set_l0, set_l1, set_l2, live_lst, max_int, min_int, take_set, take_snoc, List.set_set, List.length_set, Vl.o.injEq, eq_self, decide_true, decide_false, Int.reduceLT, Int.reduceEq, Int.cast_ofNat_Int, Nat.zero_add, ne_ah])
  by_cases ha : a = some f
  · rw [decide_eq_true ha]
    (try simp only [fnW_eq, fnD_nx, fnD_rt, seq_nx, seq_rt, seq_rtF, loop_rtF, seq_bk, seq_ct, loop_nx, loop_rt, loop_bk, loop_ct, wB_cons, wB_nil, wS_asgO, wS_asg, wS_unp, wS_par, wS_parc, wS_sset, wS_sps, wS_exp, wS_ret, wS_retN, wS_ife, wS_pas, wS_brk, wS_cnt, wE, wNs, wAs, wT, wI, wP, norm_d, store_d, vdat_d, norm_new, store_new, norm_newS, store_newS, fin_sh, fin_lst, fresh_lst, walk_d, it_T, it_list, it_tuple, seq_T, seq_list, seq_tuple, seqAll, zipN2, zipN3, bind1, bind2, bind3, wipeS, setAll, seeAll, tru_bool, retv_d, take_all, ex_some,
  List.map_cons, List.map_nil, List.length_cons, List.length_nil, List.cons_append, List.nil_append, List.replicate, List.getElem?_cons_zero, List.getElem?_cons_succ, List.set_cons_zero, List.set_cons_succ, Option.some.injEq, exists_eq_left', exists_eq_left, exists_eq_right, true_and, and_true,
  Nat.reduceAdd, Nat.reduceSub, OO.dat, cmp_in, cmp_notin, exists_and_left, reduceIte, reduceCtorEq, if_true, if_false, Bool.false_eq_true, Vl.d.injEq, PyData.int.injEq, PyData.bool.injEq, PyData.str.injEq, Bool.not_true, Bool.not_false, cmp_lt, cmp_gt, cmp_le, cmp_ge, cmp_eq, cmp_ne, len_tup, len_lst, len_txt, ix_0, ix_1, ix_l0, ix_l1, ix_l2, bin_add, bin_sub, set_l0, set_l1, set_l2, live_lst, max_int, min_int, take_set, take_snoc, List.set_set, List.length_set, Vl.o.injEq, eq_self, decide_true, decide_false, Int.reduceLT, Int.reduceEq, Int.cast_ofNat_Int, Nat.zero_add, c__law_cover_2, sorted_T])
    refine ⟨rfl, ?_⟩
    have ls : (srt f).length ≤ 100000 := by have e := (List.mergeSort_perm f leN).length_eq; show (f.mergeSort leN).length ≤ _; omega
    (try simp only [fnW_eq, fnD_nx, fnD_rt, seq_nx, seq_rt, seq_rtF, loop_rtF, seq_bk, seq_ct, loop_nx, loop_rt, loop_bk, loop_ct, wB_cons, wB_nil, wS_asgO, wS_asg, wS_unp, wS_par, wS_parc, wS_sset, wS_sps, wS_exp, wS_ret, wS_retN, wS_ife, wS_pas, wS_brk, wS_cnt, wE, wNs, wAs, wT, wI, wP, norm_d, store_d, vdat_d, norm_new, store_new, norm_newS, store_newS, fin_sh, fin_lst, fresh_lst, walk_d, it_T, it_list, it_tuple, seq_T, seq_list, seq_tuple, seqAll, zipN2, zipN3, bind1, bind2, bind3, wipeS, setAll, seeAll, tru_bool, retv_d, take_all, ex_some,
  List.map_cons, List.map_nil, List.length_cons, List.length_nil, List.cons_append, List.nil_append, List.replicate, List.getElem?_cons_zero, List.getElem?_cons_succ, List.set_cons_zero, List.set_cons_succ, Option.some.injEq, exists_eq_left', exists_eq_left, exists_eq_right, true_and, and_true,
  Nat.reduceAdd, Nat.reduceSub, OO.dat, cmp_in, cmp_notin, exists_and_left, reduceIte, reduceCtorEq, if_true, if_false, Bool.false_eq_true, Vl.d.injEq, PyData.int.injEq, PyData.bool.injEq, PyData.str.injEq, Bool.not_true, Bool.not_false, cmp_lt, cmp_gt, cmp_le, cmp_ge, cmp_eq, cmp_ne, len_tup, len_lst, len_txt, ix_0, ix_1, ix_l0, ix_l1, ix_l2, bin_add, bin_sub, set_l0, set_l1, set_l2, live_lst, max_int, min_int, take_set, take_snoc, List.set_set, List.length_set, Vl.o.injEq, eq_self, decide_true, decide_false, Int.reduceLT, Int.reduceEq, Int.cast_ofNat_Int, Nat.zero_add, me_join1 _ ls])
    have e : srt f = clL h s := clL_char (srt_cs nd fcl) (fun x hx => mem_srt.mpr (sf x hx)) (fun x hx => fc x (mem_srt.mp hx)) fun p hp hall x hx => mem_srt.mpr (cl ha p hp (fun y hy => mem_srt.mp (hall y hy)) x hx)
    rw [e]
    exact q
  · rw [decide_eq_false ha]
    (try simp only [fnW_eq, fnD_nx, fnD_rt, seq_nx, seq_rt, seq_rtF, loop_rtF, seq_bk, seq_ct, loop_nx, loop_rt, loop_bk, loop_ct, wB_cons, wB_nil, wS_asgO, wS_asg, wS_unp, wS_par, wS_parc, wS_sset, wS_sps, wS_exp, wS_ret, wS_retN, wS_ife, wS_pas, wS_brk, wS_cnt, wE, wNs, wAs, wT, wI, wP, norm_d, store_d, vdat_d, norm_new, store_new, norm_newS, store_newS, fin_sh, fin_lst, fresh_lst, walk_d, it_T, it_list, it_tuple, seq_T, seq_list, seq_tuple, seqAll, zipN2, zipN3, bind1, bind2, bind3, wipeS, setAll, seeAll, tru_bool, retv_d, take_all, ex_some,
  List.map_cons, List.map_nil, List.length_cons, List.length_nil, List.cons_append, List.nil_append, List.replicate, List.getElem?_cons_zero, List.getElem?_cons_succ, List.set_cons_zero, List.set_cons_succ, Option.some.injEq, exists_eq_left', exists_eq_left, exists_eq_right, true_and, and_true,
  Nat.reduceAdd, Nat.reduceSub, OO.dat, cmp_in, cmp_notin, exists_and_left, reduceIte, reduceCtorEq, if_true, if_false, Bool.false_eq_true, Vl.d.injEq, PyData.int.injEq, PyData.bool.injEq, PyData.str.injEq, Bool.not_true, Bool.not_false, cmp_lt, cmp_gt, cmp_le, cmp_ge, cmp_eq, cmp_ne, len_tup, len_lst, len_txt, ix_0, ix_1, ix_l0, ix_l1, ix_l2, bin_add, bin_sub, set_l0, set_l1, set_l2, live_lst, max_int, min_int, take_set, take_snoc, List.set_set, List.length_set, Vl.o.injEq, eq_self, decide_true, decide_false, Int.reduceLT, Int.reduceEq, Int.cast_ofNat_Int, Nat.zero_add, c__law_cover_3])
    rw [c__law_cover_4, wB_cons, wS_for]
    (try simp only [fnW_eq, fnD_nx, fnD_rt, seq_nx, seq_rt, seq_rtF, loop_rtF, seq_bk, seq_ct, loop_nx, loop_rt, loop_bk, loop_ct, wB_cons, wB_nil, wS_asgO, wS_asg, wS_unp, wS_par, wS_parc, wS_sset, wS_sps, wS_exp, wS_ret, wS_retN, wS_ife, wS_pas, wS_brk, wS_cnt, wE, wNs, wAs, wT, wI, wP, norm_d, store_d, vdat_d, norm_new, store_new, norm_newS, store_newS, fin_sh, fin_lst, fresh_lst, walk_d, it_T, it_list, it_tuple, seq_T, seq_list, seq_tuple, seqAll, zipN2, zipN3, bind1, bind2, bind3, wipeS, setAll, seeAll, tru_bool, retv_d, take_all, ex_some,
  List.map_cons, List.map_nil, List.length_cons, List.length_nil, List.cons_append, List.nil_append, List.replicate, List.getElem?_cons_zero, List.getElem?_cons_succ, List.set_cons_zero, List.set_cons_succ, Option.some.injEq, exists_eq_left', exists_eq_left, exists_eq_right, true_and, and_true,
  Nat.reduceAdd, Nat.reduceSub, OO.dat, cmp_in, cmp_notin, exists_and_left, reduceIte, reduceCtorEq, if_true, if_false, Bool.false_eq_true, Vl.d.injEq, PyData.int.injEq, PyData.bool.injEq, PyData.str.injEq, Bool.not_true, Bool.not_false, cmp_lt, cmp_gt, cmp_le, cmp_ge, cmp_eq, cmp_ne, len_tup, len_lst, len_txt, ix_0, ix_1, ix_l0, ix_l1, ix_l2, bin_add, bin_sub, set_l0, set_l1, set_l2, live_lst, max_int, min_int, take_set, take_snoc, List.set_set, List.length_set, Vl.o.injEq, eq_self, decide_true, decide_false, Int.reduceLT, Int.reduceEq, Int.cast_ofNat_Int, Nat.zero_add, edh])
    refine ⟨fun i st => ∃ f' l r c, st = ⟨[some (.d dh), some (.d (T s)), some (.d (T f')), some (.d (T f)), l, r, c], oh⟩ ∧ f'.Nodup ∧ (∀ x ∈ f', x ∈ cols) ∧ (∀ x ∈ f, x ∈ f') ∧ (∀ x ∈ f', Clo h s x) ∧
      f.length ≤ f'.length ∧ (f'.length = f.length → f' = f ∧ ∀ p ∈ h.take i, (∀ x ∈ p.1, x ∈ f) → ∀ x ∈ p.2, x ∈ f), ⟨f, l, r, c, rfl, nd, fcl, fun _ z => z, fc, Nat.le_refl _, fun _ => ⟨rfl, fun p hp => by simp at hp⟩⟩, fun _ _ _ _ => trivial, ?_, ?_⟩
    · rintro i d st hd ⟨f', l', r', c', rfl, nd', fcl', sf', fc', len', alt⟩
      rw [List.getElem?_map] at hd
      obtain ⟨p, hpi, rfl⟩ := Option.map_eq_some_iff.mp hd
      have hpm : p ∈ h := List.mem_of_getElem? hpi
      obtain ⟨c1, c2⟩ := hh p hpm
      have htake : h.take (i + 1) = h.take i ++ [p] := by
        rw [List.take_succ, hpi]; rfl
      have fl8' := nd_cols nd' fcl'
      have c2l := c2.len
      unfold hp
      (try simp only [fnW_eq, fnD_nx, fnD_rt, seq_nx, seq_rt, seq_rtF, loop_rtF, seq_bk, seq_ct, loop_nx, loop_rt, loop_bk, loop_ct, wB_cons, wB_nil, wS_asgO, wS_asg, wS_unp, wS_par, wS_parc, wS_sset, wS_sps, wS_exp, wS_ret, wS_retN, wS_ife, wS_pas, wS_brk, wS_cnt, wE, wNs, wAs, wT, wI, wP, norm_d, store_d, vdat_d, norm_new, store_new, norm_newS, store_newS, fin_sh, fin_lst, fresh_lst, walk_d, it_T, it_list, it_tuple, seq_T, seq_list, seq_tuple, seqAll, zipN2, zipN3, bind1, bind2, bind3, wipeS, setAll, seeAll, tru_bool, retv_d, take_all, ex_some,
  List.map_cons, List.map_nil, List.length_cons, List.length_nil, List.cons_append, List.nil_append, List.replicate, List.getElem?_cons_zero, List.getElem?_cons_succ, List.set_cons_zero, List.set_cons_succ, Option.some.injEq, exists_eq_left', exists_eq_left, exists_eq_right, true_and, and_true,
  Nat.reduceAdd, Nat.reduceSub, OO.dat, cmp_in, cmp_notin, exists_and_left, reduceIte, reduceCtorEq, if_true, if_false, Bool.false_eq_true, Vl.d.injEq, PyData.int.injEq, PyData.bool.injEq, PyData.str.injEq, Bool.not_true, Bool.not_false, cmp_lt, cmp_gt, cmp_le, cmp_ge, cmp_eq, cmp_ne, len_tup, len_lst, len_txt, ix_0, ix_1, ix_l0, ix_l1, ix_l2, bin_add, bin_sub, set_l0, set_l1, set_l2, live_lst, max_int, min_int, take_set, take_snoc, List.set_set, List.length_set, Vl.o.injEq, eq_self, decide_true, decide_false, Int.reduceLT, Int.reduceEq, Int.cast_ofNat_Int, Nat.zero_add, c__law_cover_5])
      refine ⟨_, h1, p.1, f', rfl, ?_⟩
      (try simp only [fnW_eq, fnD_nx, fnD_rt, seq_nx, seq_rt, seq_rtF, loop_rtF, seq_bk, seq_ct, loop_nx, loop_rt, loop_bk, loop_ct, wB_cons, wB_nil, wS_asgO, wS_asg, wS_unp, wS_par, wS_parc, wS_sset, wS_sps, wS_exp, wS_ret, wS_retN, wS_ife, wS_pas, wS_brk, wS_cnt, wE, wNs, wAs, wT, wI, wP, norm_d, store_d, vdat_d, norm_new, store_new, norm_newS, store_newS, fin_sh, fin_lst, fresh_lst, walk_d, it_T, it_list, it_tuple, seq_T, seq_list, seq_tuple, seqAll, zipN2, zipN3, bind1, bind2, bind3, wipeS, setAll, seeAll, tru_bool, retv_d, take_all, ex_some,
  List.map_cons, List.map_nil, List.length_cons, List.length_nil, List.cons_append, List.nil_append, List.replicate, List.getElem?_cons_zero, List.getElem?_cons_succ, List.set_cons_zero, List.set_cons_succ, Option.some.injEq, exists_eq_left', exists_eq_left, exists_eq_right, true_and, and_true,
  Nat.reduceAdd, Nat.reduceSub, OO.dat, cmp_in, cmp_notin, exists_and_left, reduceIte, reduceCtorEq, if_true, if_false, Bool.false_eq_true, Vl.d.injEq, PyData.int.injEq, PyData.bool.injEq, PyData.str.injEq, Bool.not_true, Bool.not_false, cmp_lt, cmp_gt, cmp_le, cmp_ge, cmp_eq, cmp_ne, len_tup, len_lst, len_txt, ix_0, ix_1, ix_l0, ix_l1, ix_l2, bin_add, bin_sub, set_l0, set_l1, set_l2, live_lst, max_int, min_int, take_set, take_snoc, List.set_set, List.length_set, Vl.o.injEq, eq_self, decide_true, decide_false, Int.reduceLT, Int.reduceEq, Int.cast_ofNat_Int, Nat.zero_add])
      by_cases q1 : insB p.1 f' = true
      · rw [if_pos q1]
        (try simp only [fnW_eq, fnD_nx, fnD_rt, seq_nx, seq_rt, seq_rtF, loop_rtF, seq_bk, seq_ct, loop_nx, loop_rt, loop_bk, loop_ct, wB_cons, wB_nil, wS_asgO, wS_asg, wS_unp, wS_par, wS_parc, wS_sset, wS_sps, wS_exp, wS_ret, wS_retN, wS_ife, wS_pas, wS_brk, wS_cnt, wE, wNs, wAs, wT, wI, wP, norm_d, store_d, vdat_d, norm_new, store_new, norm_newS, store_newS, fin_sh, fin_lst, fresh_lst, walk_d, it_T, it_list, it_tuple, seq_T, seq_list, seq_tuple, seqAll, zipN2, zipN3, bind1, bind2, bind3, wipeS, setAll, seeAll, tru_bool, retv_d, take_all, ex_some,
  List.map_cons, List.map_nil, List.length_cons, List.length_nil, List.cons_append, List.nil_append, List.replicate, List.getElem?_cons_zero, List.getElem?_cons_succ, List.set_cons_zero, List.set_cons_succ, Option.some.injEq, exists_eq_left', exists_eq_left, exists_eq_right, true_and, and_true,
  Nat.reduceAdd, Nat.reduceSub, OO.dat, cmp_in, cmp_notin, exists_and_left, reduceIte, reduceCtorEq, if_true, if_false, Bool.false_eq_true, Vl.d.injEq, PyData.int.injEq, PyData.bool.injEq, PyData.str.injEq, Bool.not_true, Bool.not_false, cmp_lt, cmp_gt, cmp_le, cmp_ge, cmp_eq, cmp_ne, len_tup, len_lst, len_txt, ix_0, ix_1, ix_l0, ix_l1, ix_l2, bin_add, bin_sub, set_l0, set_l1, set_l2, live_lst, max_int, min_int, take_set, take_snoc, List.set_set, List.length_set, Vl.o.injEq, eq_self, decide_true, decide_false, Int.reduceLT, Int.reduceEq, Int.cast_ofNat_Int, Nat.zero_add])
        refine ⟨rfl, lc_fm (fun c => !decide (c ∈ f')) (fun c => T [c]) trivial (fun c hc k hk => ?_) ?_⟩
        · (try simp only [fnW_eq, fnD_nx, fnD_rt, seq_nx, seq_rt, seq_rtF, loop_rtF, seq_bk, seq_ct, loop_nx, loop_rt, loop_bk, loop_ct, wB_cons, wB_nil, wS_asgO, wS_asg, wS_unp, wS_par, wS_parc, wS_sset, wS_sps, wS_exp, wS_ret, wS_retN, wS_ife, wS_pas, wS_brk, wS_cnt, wE, wNs, wAs, wT, wI, wP, norm_d, store_d, vdat_d, norm_new, store_new, norm_newS, store_newS, fin_sh, fin_lst, fresh_lst, walk_d, it_T, it_list, it_tuple, seq_T, seq_list, seq_tuple, seqAll, zipN2, zipN3, bind1, bind2, bind3, wipeS, setAll, seeAll, tru_bool, retv_d, take_all, ex_some,
  List.map_cons, List.map_nil, List.length_cons, List.length_nil, List.cons_append, List.nil_append, List.replicate, List.getElem?_cons_zero, List.getElem?_cons_succ, List.set_cons_zero, List.set_cons_succ, Option.some.injEq, exists_eq_left', exists_eq_left, exists_eq_right, true_and, and_true,
  Nat.reduceAdd, Nat.reduceSub, OO.dat, cmp_in, cmp_notin, exists_and_left, reduceIte, reduceCtorEq, if_true, if_false, Bool.false_eq_true, Vl.d.injEq, PyData.int.injEq, PyData.bool.injEq, PyData.str.injEq, Bool.not_true, Bool.not_false, cmp_lt, cmp_gt, cmp_le, cmp_ge, cmp_eq, cmp_ne, len_tup, len_lst, len_txt, ix_0, ix_1, ix_l0, ix_l1, ix_l2, bin_add, bin_sub, set_l0, set_l1, set_l2, live_lst, max_int, min_int, take_set, take_snoc, List.set_set, List.length_set, Vl.o.injEq, eq_self, decide_true, decide_false, Int.reduceLT, Int.reduceEq, Int.cast_ofNat_Int, Nat.zero_add])
          exact hk
        · have hlen := List.length_filter_le (fun c => !decide (c ∈ f')) p.2
          (try simp only [fnW_eq, fnD_nx, fnD_rt, seq_nx, seq_rt, seq_rtF, loop_rtF, seq_bk, seq_ct, loop_nx, loop_rt, loop_bk, loop_ct, wB_cons, wB_nil, wS_asgO, wS_asg, wS_unp, wS_par, wS_parc, wS_sset, wS_sps, wS_exp, wS_ret, wS_retN, wS_ife, wS_pas, wS_brk, wS_cnt, wE, wNs, wAs, wT, wI, wP, norm_d, store_d, vdat_d, norm_new, store_new, norm_newS, store_newS, fin_sh, fin_lst, fresh_lst, walk_d, it_T, it_list, it_tuple, seq_T, seq_list, seq_tuple, seqAll, zipN2, zipN3, bind1, bind2, bind3, wipeS, setAll, seeAll, tru_bool, retv_d, take_all, ex_some,
  List.map_cons, List.map_nil, List.length_cons, List.length_nil, List.cons_append, List.nil_append, List.replicate, List.getElem?_cons_zero, List.getElem?_cons_succ, List.set_cons_zero, List.set_cons_succ, Option.some.injEq, exists_eq_left', exists_eq_left, exists_eq_right, true_and, and_true,
  Nat.reduceAdd, Nat.reduceSub, OO.dat, cmp_in, cmp_notin, exists_and_left, reduceIte, reduceCtorEq, if_true, if_false, Bool.false_eq_true, Vl.d.injEq, PyData.int.injEq, PyData.bool.injEq, PyData.str.injEq, Bool.not_true, Bool.not_false, cmp_lt, cmp_gt, cmp_le, cmp_ge, cmp_eq, cmp_ne, len_tup, len_lst, len_txt, ix_0, ix_1, ix_l0, ix_l1, ix_l2, bin_add, bin_sub, set_l0, set_l1, set_l2, live_lst, max_int, min_int, take_set, take_snoc, List.set_set, List.length_set, Vl.o.injEq, eq_self, decide_true, decide_false, Int.reduceLT, Int.reduceEq, Int.cast_ofNat_Int, Nat.zero_add, me_join1 (p.2.filter fun c => !decide (c ∈ f')) (by omega), bin_T f' (p.2.filter fun c => !decide (c ∈ f')) (by omega)])
          refine ⟨_, wk_self, f' ++ p.2.filter (fun c => !decide (c ∈ f')), _, _, _, rfl, ?_, ?_, fun x hx => List.mem_append_left _ (sf' x hx), ?_, ?_, ?_⟩
          · refine List.nodup_append.mpr ⟨nd', (cs_nodup c2).sublist List.filter_sublist, fun x hx y hy => ?_⟩
            have := (List.mem_filter.mp hy).2
            intro z
            subst z
            simp [hx] at this
          · intro x hx
            rcases List.mem_append.mp hx with z | z
            · exact fcl' x z
            · exact mem_cs c2 (List.mem_filter.mp z).1
          · intro x hx
            rcases List.mem_append.mp hx with z | z
            · exact fc' x z
            · exact clo_step hpm (fun y hy => fc' y (insB_iff.mp q1 y hy)) x (List.mem_filter.mp z).1
          · simp; omega
          · intro z
            have z1 : (p.2.filter fun c => !decide (c ∈ f')).length = 0 := by simp at z; omega
            have z2 : f'.length = f.length := by simp at z; omega
            have z3 := List.length_eq_zero_iff.mp z1
            obtain ⟨e1, e2⟩ := alt z2
            rw [z3, List.append_nil]
            refine ⟨e1, fun p' hp' => ?_⟩
            rw [htake] at hp'
            rcases List.mem_append.mp hp' with y | y
            · exact e2 p' y
            · simp at y
              subst y
              intro _ x hx
              rw [← e1]
              have : insB p'.2 f' = true := by rw [← out_nil]; exact decide_eq_true z3
              exact insB_iff.mp this x hx
      · rw [if_neg q1]
        (try simp only [fnW_eq, fnD_nx, fnD_rt, seq_nx, seq_rt, seq_rtF, loop_rtF, seq_bk, seq_ct, loop_nx, loop_rt, loop_bk, loop_ct, wB_cons, wB_nil, wS_asgO, wS_asg, wS_unp, wS_par, wS_parc, wS_sset, wS_sps, wS_exp, wS_ret, wS_retN, wS_ife, wS_pas, wS_brk, wS_cnt, wE, wNs, wAs, wT, wI, wP, norm_d, store_d, vdat_d, norm_new, store_new, norm_newS, store_newS, fin_sh, fin_lst, fresh_lst, walk_d, it_T, it_list, it_tuple, seq_T, seq_list, seq_tuple, seqAll, zipN2, zipN3, bind1, bind2, bind3, wipeS, setAll, seeAll, tru_bool, retv_d, take_all, ex_some,
  List.map_cons, List.map_nil, List.length_cons, List.length_nil, List.cons_append, List.nil_append, List.replicate, List.getElem?_cons_zero, List.getElem?_cons_succ, List.set_cons_zero, List.set_cons_succ, Option.some.injEq, exists_eq_left', exists_eq_left, exists_eq_right, true_and, and_true,
  Nat.reduceAdd, Nat.reduceSub, OO.dat, cmp_in, cmp_notin, exists_and_left, reduceIte, reduceCtorEq, if_true, if_false, Bool.false_eq_true, Vl.d.injEq, PyData.int.injEq, PyData.bool.injEq, PyData.str.injEq, Bool.not_true, Bool.not_false, cmp_lt, cmp_gt, cmp_le, cmp_ge, cmp_eq, cmp_ne, len_tup, len_lst, len_txt, ix_0, ix_1, ix_l0, ix_l1, ix_l2, bin_add, bin_sub, set_l0, set_l1, set_l2, live_lst, max_int, min_int, take_set, take_snoc, List.set_set, List.length_set, Vl.o.injEq, eq_self, decide_true, decide_false, Int.reduceLT, Int.reduceEq, Int.cast_ofNat_Int, Nat.zero_add])
        refine ⟨_, wk_self, f', _, _, _, rfl, nd', fcl', sf', fc', len', fun z => ?_⟩
        obtain ⟨e1, e2⟩ := alt z
        refine ⟨e1, fun p' hp' => ?_⟩
        rw [htake] at hp'
        rcases List.mem_append.mp hp' with y | y
        · exact e2 p' y
        · simp at y
          subst y
          intro hall
          exact absurd (insB_iff.mpr fun x hx => by rw [e1]; exact hall x hx) q1
    · rintro st ⟨f', l', r', c', rfl, nd', fcl', sf', fc', len', alt⟩
      (try simp only [fnW_eq, fnD_nx, fnD_rt, seq_nx, seq_rt, seq_rtF, loop_rtF, seq_bk, seq_ct, loop_nx, loop_rt, loop_bk, loop_ct, wB_cons, wB_nil, wS_asgO, wS_asg, wS_unp, wS_par, wS_parc, wS_sset, wS_sps, wS_exp, wS_ret, wS_retN, wS_ife, wS_pas, wS_brk, wS_cnt, wE, wNs, wAs, wT, wI, wP, norm_d, store_d, vdat_d, norm_new, store_new, norm_newS, store_newS, fin_sh, fin_lst, fresh_lst, walk_d, it_T, it_list, it_tuple, seq_T, seq_list, seq_tuple, seqAll, zipN2, zipN3, bind1, bind2, bind3, wipeS, setAll, seeAll, tru_bool, retv_d, take_all, ex_some,
  List.map_cons, List.map_nil, List.length_cons, List.length_nil, List.cons_append, List.nil_append, List.replicate, List.getElem?_cons_zero, List.getElem?_cons_succ, List.set_cons_zero, List.set_cons_succ, Option.some.injEq, exists_eq_left', exists_eq_left, exists_eq_right, true_and, and_true,
  Nat.reduceAdd, Nat.reduceSub, OO.dat, cmp_in, cmp_notin, exists_and_left, reduceIte, reduceCtorEq, if_true, if_false, Bool.false_eq_true, Vl.d.injEq, PyData.int.injEq, PyData.bool.injEq, PyData.str.injEq, Bool.not_true, Bool.not_false, cmp_lt, cmp_gt, cmp_le, cmp_ge, cmp_eq, cmp_ne, len_tup, len_lst, len_txt, ix_0, ix_1, ix_l0, ix_l1, ix_l2, bin_add, bin_sub, set_l0, set_l1, set_l2, live_lst, max_int, min_int, take_set, take_snoc, List.set_set, List.length_set, Vl.o.injEq, eq_self, decide_true, decide_false, Int.reduceLT, Int.reduceEq, Int.cast_ofNat_Int, Nat.zero_add])
      have fl8' := nd_cols nd' fcl'
      rw [List.length_map, List.take_length] at alt
      refine ⟨2 * (8 - f'.length) + (if some f = some f' then 0 else 1), ?_, _, wk_self, f', some f, l', r', c', rfl, nd', fcl', fun x hx => sf' x (sf x hx), fc', ?_, rfl⟩
      · rw [if_neg ha]
        by_cases z : f'.length = f.length
        · rw [if_pos (by rw [(alt z).1])]; omega
        · split <;> omega
      · intro z
        have z := Option.some.inj z
        subst z
        exact (alt rfl).2
end Kd

namespace Kd
open PySem PySem.Spec PyProof.Rows L2
def leL (a b : List Nat) : Bool := !decide (b < a)
theorem flatAll_TT (l : List (List Nat)) : flatDictAll (l.map T) = true := by
  induction l with
  | nil => rfl
  | cons c l ih => simp only [List.map_cons, flatDictAll, ih, Bool.and_true]; rfl
theorem canSort_T (l : List (List Nat)) : canSort (l.map T) = true := by
  unfold canSort
  have h1 : allAlike (l.map T) = true := by
    unfold allAlike
    rw [List.all_eq_true]
    intro a ha
    rw [List.all_eq_true]
    intro b hb
    obtain ⟨p, _, rfl⟩ := List.mem_map.mp ha
    obtain ⟨q, _, rfl⟩ := List.mem_map.mp hb
    simp [T, PySem.W.alike]
  have h2 : noTup (l.map T) = true := by
    clear h1
    induction l with
    | nil => rfl
    | cons p l ih => simp only [List.map_cons, T, noTup]; exact ih
  have h3 : ((l.map T).all fun d => decide (d.depth ≤ 64)) = true := by
    rw [List.all_eq_true]
    intro a ha
    obtain ⟨p, _, rfl⟩ := List.mem_map.mp ha
    simp [T, PyData.depth]
  rw [h1, h2, flatAll_TT, h3]
  simp
theorem sort_T (l : List (List Nat)) : sortD (l.map T) = (l.mergeSort leL).map T := by
  unfold sortD
  refine (List.map_mergeSort (f := T) (r := leL) (s := PySem.W.dataLe false id) (l := l) fun a _ b _ => ?_).symm
  show leL a b = !PySem.W.dataLt (T b) (T a)
  rw [lt_T]
  rfl
theorem sorted_TL (l : List (List Nat)) : biD .sorted [.list (l.map T)] = some (.fr (.lst ((l.mergeSort leL).map T))) := by
  show biSorted (.list (l.map T)) = _
  unfold biSorted
  simp only [itemsD, canSort_T, if_true, sort_T]
/-! ### all parts of a set -/
def addC (acc : List (List Nat)) (c : Nat) : List (List Nat) := acc ++ acc.map (· ++ [c])
def subL (l : List Nat) : List (List Nat) := l.foldl addC [[]]
theorem subL_snoc (l : List Nat) (c : Nat) : subL (l ++ [c]) = addC (subL l) c := by simp [subL]
theorem subL_len : ∀ r : List Nat, (subL r.reverse).length = 2 ^ r.length
  | [] => rfl
  | c :: r => by
    rw [List.reverse_cons, subL_snoc]
    have := subL_len r
    simp only [addC, List.length_append, List.length_map, this, List.length_cons, Nat.pow_succ]
    omega
theorem mem_subL' : ∀ (r s : List Nat), s ∈ subL r.reverse ↔ s.Sublist r.reverse
  | [], s => by simp [subL]
  | c :: r, s => by
    rw [List.reverse_cons, subL_snoc]
    have ih := mem_subL' r
    simp only [addC, List.mem_append, List.mem_map, ih, List.sublist_append_iff]
    constructor
    · rintro (h | ⟨t, h, rfl⟩)
      · exact ⟨s, [], by simp, h, List.nil_sublist _⟩
      · exact ⟨t, [c], rfl, h, List.Sublist.refl _⟩
    · rintro ⟨a, b, rfl, h1, h2⟩
      cases h2 with
      | cons _ h => cases h; exact .inl (by simpa using h1)
      | cons_cons _ h => cases h; exact .inr ⟨a, h1, rfl⟩
theorem mem_subL {s l : List Nat} : s ∈ subL l ↔ s.Sublist l := by
  have := mem_subL' l.reverse s
  rwa [List.reverse_reverse] at this
theorem subL_len' (l : List Nat) : (subL l).length = 2 ^ l.length := by
  have := subL_len l.reverse
  rwa [List.reverse_reverse, List.length_reverse] at this
def setsL (l : List Nat) : List (List Nat) := (subL l).mergeSort leL
theorem mem_setsL {s l : List Nat} : s ∈ setsL l ↔ s.Sublist l := by
  unfold setsL
  rw [(List.mergeSort_perm (subL l) leL).mem_iff]
  exact mem_subL
theorem bin_L (xs ys : List D) (h : xs.length + ys.length ≤ 100000) : binD .Add (.list xs) (.list ys) = some (.fr (.lst (xs ++ ys))) := if_pos (Nat.le_trans h line_1000)
theorem addC_map (acc : List (List Nat)) (c : Nat) : (addC acc c).map T = acc.map T ++ acc.map fun s => T (s ++ [c]) := by simp [addC]
theorem pow8 {n : Nat} (h : n ≤ 8) : 2 ^ n ≤ 256 := Nat.le_trans (Nat.pow_le_pow_right (by decide) h) (by decide)
def S_lsets : FSpec := fun rs oh Q _ => ∃ hd, rs = [.d (T hd)] ∧ hd.length ≤ 8 ∧ Q (.o oh.length) (oh ++ [.lst ((setsL hd).map T)])
theorem w_lsets (Γ : Gv) (rs : List Vl) (oh : OH) (Q : QV) (E : QX) (h : S_lsets rs oh Q E) : fnW Γ 4 c__law_sets rs oh Q E := by
  obtain ⟨hd, rfl, hl, q⟩ := h
  (try simp only [fnW_eq, fnD_nx, fnD_rt, seq_nx, seq_rt, seq_rtF, loop_rtF, seq_bk, seq_ct, loop_nx, loop_rt, loop_bk, loop_ct, wB_cons, wB_nil, wS_asgO, wS_asg, wS_unp, wS_par, wS_parc, wS_sset, wS_sps, wS_exp, wS_ret, wS_retN, wS_ife, wS_pas, wS_brk, wS_cnt, wE, wNs, wAs, wT, wI, wP, norm_d, store_d, vdat_d, norm_new, store_new, norm_newS, store_newS, fin_sh, fin_lst, fresh_lst, walk_d, it_T, it_list, it_tuple, seq_T, seq_list, seq_tuple, seqAll, zipN2, zipN3, bind1, bind2, bind3, wipeS, setAll, seeAll, tru_bool, retv_d, take_all, ex_some,
  List.map_cons, List.map_nil, List.length_cons, List.length_nil, List.cons_append, List.nil_append, List.replicate, List.getElem?_cons_zero, List.getElem?_cons_succ, List.set_cons_zero, List.set_cons_succ, Option.some.injEq, exists_eq_left', exists_eq_left, exists_eq_right, true_and, and_true,
  Nat.reduceAdd, Nat.reduceSub, OO.dat, cmp_in, cmp_notin, exists_and_left, reduceIte, reduceCtorEq, if_true, if_false, Bool.false_eq_true, Vl.d.injEq, PyData.int.injEq, PyData.bool.injEq, PyData.str.injEq, Bool.not_true, Bool.not_false, cmp_lt, cmp_gt, cmp_le, cmp_ge, cmp_eq, cmp_ne, len_tup, len_lst, len_txt, ix_0, ix_1, ix_l0, ix_l1, ix_l2, bin_add, bin_sub, set_l0, set_l1, set_l2, live_lst, max_int, min_int, take_set, take_snoc, List.set_set, List.length_set, Vl.o.injEq, eq_self, decide_true, decide_false, Int.reduceLT, Int.reduceEq, Int.cast_ofNat_Int, Nat.zero_add, c__law_sets, T_nil])
  rw [c__law_sets_1, wB_cons, wS_for]
  (try simp only [fnW_eq, fnD_nx, fnD_rt, seq_nx, seq_rt, seq_rtF, loop_rtF, seq_bk, seq_ct, loop_nx, loop_rt, loop_bk, loop_ct, wB_cons, wB_nil, wS_asgO, wS_asg, wS_unp, wS_par, wS_parc, wS_sset, wS_sps, wS_exp, wS_ret, wS_retN, wS_ife, wS_pas, wS_brk, wS_cnt, wE, wNs, wAs, wT, wI, wP, norm_d, store_d, vdat_d, norm_new, store_new, norm_newS, store_newS, fin_sh, fin_lst, fresh_lst, walk_d, it_T, it_list, it_tuple, seq_T, seq_list, seq_tuple, seqAll, zipN2, zipN3, bind1, bind2, bind3, wipeS, setAll, seeAll, tru_bool, retv_d, take_all, ex_some,
  List.map_cons, List.map_nil, List.length_cons, List.length_nil, List.cons_append, List.nil_append, List.replicate, List.getElem?_cons_zero, List.getElem?_cons_succ, List.set_cons_zero, List.set_cons_succ, Option.some.injEq, exists_eq_left', exists_eq_left, exists_eq_right, true_and, and_true,
  Nat.reduceAdd, Nat.reduceSub, OO.dat, cmp_in, cmp_notin, exists_and_left, reduceIte, reduceCtorEq, if_true, if_false, Bool.false_eq_true, Vl.d.injEq, PyData.int.injEq, PyData.bool.injEq, PyData.str.injEq, Bool.not_true, Bool.not_false, cmp_lt, cmp_gt, cmp_le, cmp_ge, cmp_eq, cmp_ne, len_tup, len_lst, len_txt, ix_0, ix_1, ix_l0, ix_l1, ix_l2, bin_add, bin_sub, set_l0, set_l1, set_l2, live_lst, max_int, min_int, take_set, take_snoc, List.set_set, List.length_set, Vl.o.injEq, eq_self, decide_true, decide_false, Int.reduceLT, Int.reduceEq, Int.cast_ofNat_Int, Nat.zero_add])
  refine ⟨fun i st => ∃ c e, st = ⟨[some (.d (T hd)), some (.d (.list ((subL (hd.take i)).map T))), c, e], oh⟩, ⟨none, none, rfl⟩, fun _ _ _ _ => trivial, ?_, ?_⟩
  · rintro i d st hdi ⟨c, e, rfl⟩
    rw [List.getElem?_map] at hdi
    obtain ⟨col, hci, rfl⟩ := Option.map_eq_some_iff.mp hdi
    have htake : hd.take (i + 1) = hd.take i ++ [col] := by
      rw [List.take_succ, hci]; rfl
    have hlen : (subL (hd.take i)).length ≤ 256 := by
      rw [subL_len']
      exact pow8 (by simp; omega)
    (try simp only [fnW_eq, fnD_nx, fnD_rt, seq_nx, seq_rt, seq_rtF, loop_rtF, seq_bk, seq_ct, loop_nx, loop_rt, loop_bk, loop_ct, wB_cons, wB_nil, wS_asgO, wS_asg, wS_unp, wS_par, wS_parc, wS_sset, wS_sps, wS_exp, wS_ret, wS_retN, wS_ife, wS_pas, wS_brk, wS_cnt, wE, wNs, wAs, wT, wI, wP, norm_d, store_d, vdat_d, norm_new, store_new, norm_newS, store_newS, fin_sh, fin_lst, fresh_lst, walk_d, it_T, it_list, it_tuple, seq_T, seq_list, seq_tuple, seqAll, zipN2, zipN3, bind1, bind2, bind3, wipeS, setAll, seeAll, tru_bool, retv_d, take_all, ex_some,
  List.map_cons, List.map_nil, List.length_cons, List.length_nil, List.cons_append, List.nil_append, List.replicate, List.getElem?_cons_zero, List.getElem?_cons_succ, List.set_cons_zero, List.set_cons_succ, Option.some.injEq, exists_eq_left', exists_eq_left, exists_eq_right, true_and, and_true,
  Nat.reduceAdd, Nat.reduceSub, OO.dat, cmp_in, cmp_notin, exists_and_left, reduceIte, reduceCtorEq, if_true, if_false, Bool.false_eq_true, Vl.d.injEq, PyData.int.injEq, PyData.bool.injEq, PyData.str.injEq, Bool.not_true, Bool.not_false, cmp_lt, cmp_gt, cmp_le, cmp_ge, cmp_eq, cmp_ne, len_tup, len_lst, len_txt, ix_0, ix_1, ix_l0, ix_l1, ix_l2, bin_add, bin_sub, set_l0, set_l1, set_l2, live_lst, max_int, min_int, take_set, take_snoc, List.set_set, List.length_set, Vl.o.injEq, eq_self, decide_true, decide_false, Int.reduceLT, Int.reduceEq, Int.cast_ofNat_Int, Nat.zero_add])
    refine lc_map (fun s => T (s ++ [col])) trivial (fun s hs k hk => ?_) ?_
    · have : s.length ≤ 8 := by
        have := (mem_subL.mp hs).length_le
        simp at this; omega
      (try simp only [fnW_eq, fnD_nx, fnD_rt, seq_nx, seq_rt, seq_rtF, loop_rtF, seq_bk, seq_ct, loop_nx, loop_rt, loop_bk, loop_ct, wB_cons, wB_nil, wS_asgO, wS_asg, wS_unp, wS_par, wS_parc, wS_sset, wS_sps, wS_exp, wS_ret, wS_retN, wS_ife, wS_pas, wS_brk, wS_cnt, wE, wNs, wAs, wT, wI, wP, norm_d, store_d, vdat_d, norm_new, store_new, norm_newS, store_newS, fin_sh, fin_lst, fresh_lst, walk_d, it_T, it_list, it_tuple, seq_T, seq_list, seq_tuple, seqAll, zipN2, zipN3, bind1, bind2, bind3, wipeS, setAll, seeAll, tru_bool, retv_d, take_all, ex_some,
  List.map_cons, List.map_nil, List.length_cons, List.length_nil, List.cons_append, List.nil_append, List.replicate, List.getElem?_cons_zero, List.getElem?_cons_succ, List.set_cons_zero, List.set_cons_succ, Option.some.injEq, exists_eq_left', exists_eq_left, exists_eq_right, true_and, and_true,
  Nat.reduceAdd, Nat.reduceSub, OO.dat, cmp_in, cmp_notin, exists_and_left, reduceIte, reduceCtorEq, if_true, if_false, Bool.false_eq_true, Vl.d.injEq, PyData.int.injEq, PyData.bool.injEq, PyData.str.injEq, Bool.not_true, Bool.not_false, cmp_lt, cmp_gt, cmp_le, cmp_ge, cmp_eq, cmp_ne, len_tup, len_lst, len_txt, ix_0, ix_1, ix_l0, ix_l1, ix_l2, bin_add, bin_sub, set_l0, set_l1, set_l2, live_lst, max_int, min_int, take_set, take_snoc, List.set_set, List.length_set, Vl.o.injEq, eq_self, decide_true, decide_false, Int.reduceLT, Int.reduceEq, Int.cast_ofNat_Int, Nat.zero_add, bin_T s [col] (by simp; omega)])
      exact hk
    · (try simp only [fnW_eq, fnD_nx, fnD_rt, seq_nx, seq_rt, seq_rtF, loop_rtF, seq_bk, seq_ct, loop_nx, loop_rt, loop_bk, loop_ct, wB_cons, wB_nil, wS_asgO, wS_asg, wS_unp, wS_par, wS_parc, wS_sset, wS_sps, wS_exp, wS_ret, wS_retN, wS_ife, wS_pas, wS_brk, wS_cnt, wE, wNs, wAs, wT, wI, wP, norm_d, store_d, vdat_d, norm_new, store_new, norm_newS, store_newS, fin_sh, fin_lst, fresh_lst, walk_d, it_T, it_list, it_tuple, seq_T, seq_list, seq_tuple, seqAll, zipN2, zipN3, bind1, bind2, bind3, wipeS, setAll, seeAll, tru_bool, retv_d, take_all, ex_some,
  List.map_cons, List.map_nil, List.length_cons, List.length_nil, List.cons_append, List.nil_append, List.replicate, List.getElem?_cons_zero, List.getElem?_cons_succ, List.set_cons_zero, List.set_cons_succ, Option.some.injEq, exists_eq_left', exists_eq_left, exists_eq_right, true_and, and_true,
  Nat.reduceAdd, Nat.reduceSub, OO.dat, cmp_in, cmp_notin, exists_and_left, reduceIte, reduceCtorEq, if_true, if_false, Bool.false_eq_true, Vl.d.injEq, PyData.int.injEq, PyData.bool.injEq, PyData.str.injEq, Bool.not_true, Bool.not_false, cmp_lt, cmp_gt, cmp_le, cmp_ge, cmp_eq, cmp_ne, len_tup, len_lst, len_txt, ix_0, ix_1, ix_l0, ix_l1, ix_l2, bin_add, bin_sub, set_l0, set_l1, set_l2, live_lst, max_int, min_int, take_set, take_snoc, List.set_set, List.length_set, Vl.o.injEq, eq_self, decide_true, decide_false, Int.reduceLT, Int.reduceEq, Int.cast_ofNat_Int, Nat.zero_add, bin_L ((subL (hd.take i)).map T) ((subL (hd.take i)).map fun s => T (s ++ [col])) (by simp; omega)])
      refine ⟨_, wk_self, some (.d (T [col])), e, ?_⟩
      rw [htake, subL_snoc, addC_map]
  · rintro st ⟨c, e, rfl⟩
    rw [List.length_map, List.take_length]
    (try simp only [fnW_eq, fnD_nx, fnD_rt, seq_nx, seq_rt, seq_rtF, loop_rtF, seq_bk, seq_ct, loop_nx, loop_rt, loop_bk, loop_ct, wB_cons, wB_nil, wS_asgO, wS_asg, wS_unp, wS_par, wS_parc, wS_sset, wS_sps, wS_exp, wS_ret, wS_retN, wS_ife, wS_pas, wS_brk, wS_cnt, wE, wNs, wAs, wT, wI, wP, norm_d, store_d, vdat_d, norm_new, store_new, norm_newS, store_newS, fin_sh, fin_lst, fresh_lst, walk_d, it_T, it_list, it_tuple, seq_T, seq_list, seq_tuple, seqAll, zipN2, zipN3, bind1, bind2, bind3, wipeS, setAll, seeAll, tru_bool, retv_d, take_all, ex_some,
  List.map_cons, List.map_nil, List.length_cons, List.length_nil, List.cons_append, List.nil_append, List.replicate, List.getElem?_cons_zero, List.getElem?_cons_succ, List.set_cons_zero, List.set_cons_succ, Option.some.injEq, exists_eq_left', exists_eq_left, exists_eq_right, true_and, and_true,
  Nat.reduceAdd, Nat.reduceSub, OO.dat, cmp_in, cmp_notin, exists_and_left, reduceIte, reduceCtorEq, if_true, if_false, Bool.false_eq_true, Vl.d.injEq, PyData.int.injEq, PyData.bool.injEq, PyData.str.injEq, Bool.not_true, Bool.not_false, cmp_lt, cmp_gt, cmp_le, cmp_ge, cmp_eq, cmp_ne, len_tup, len_lst, len_txt, ix_0, ix_1, ix_l0, ix_l1, ix_l2, bin_add, bin_sub, set_l0, set_l1, set_l2, live_lst, max_int, min_int, take_set, take_snoc, List.set_set, List.length_set, Vl.o.injEq, eq_self, decide_true, decide_false, Int.reduceLT, Int.reduceEq, Int.cast_ofNat_Int, Nat.zero_add, c__law_sets_2, sorted_TL, retv_lst])
    exact q
end Kd

namespace Kd
open PySem PySem.Spec PyProof.Rows L2
open Classical in
noncomputable def shutB (h : List Hn) (s : List Nat) : Bool := decide (clL h s = s)
noncomputable def shutL (hd : List Nat) (h : List Hn) : List (List Nat) := (setsL hd).filter (shutB h)
theorem BookOk.parts {hd : List Nat} {h : List Hn} (ok : BookOk hd h) : ∀ p ∈ h, IsCS p.1 ∧ IsCS p.2 := fun p hp => by
  obtain ⟨a, b⟩ := okH_parts (ok.each p hp)
  exact ⟨a.1, b.1⟩
/-! ### _law_common -/
end Kd

namespace Kd
open PySem PySem.Spec PyProof.Rows L2
theorem cs_inc {a : List Nat} (h : IsCS a) : a.Pairwise (· < ·) := (show cols.Pairwise (· < ·) by decide).sublist (cs_sub h)
theorem cs_subl {a b : List Nat} (ha : IsCS a) (hb : IsCS b) (h : ∀ x ∈ a, x ∈ b) : a.Sublist b := inc_sub b a (cs_inc ha) (cs_inc hb) h
theorem cs_ext {a b : List Nat} (ha : IsCS a) (hb : IsCS b) (h : ∀ x, x ∈ a ↔ x ∈ b) : a = b := by
  rw [← ha, ← hb]
  unfold csOf
  exact List.filter_congr fun c _ => by rw [Bool.eq_iff_iff]; simp [h c]
section
variable {h : List Hn} {s hd : List Nat}
theorem mem_clL {c : Nat} : c ∈ clL h s ↔ c ∈ cols ∧ Clo h s c := by
  unfold clL
  simp
theorem cl_up (hs : IsCS s) : ∀ x ∈ s, x ∈ clL h s := fun x hx => mem_clL.mpr ⟨mem_cs hs hx, clo_base hx⟩
theorem cl_closed (hh : ∀ p ∈ h, IsCS p.1 ∧ IsCS p.2) : ∀ p ∈ h, (∀ x ∈ p.1, x ∈ clL h s) → ∀ x ∈ p.2, x ∈ clL h s := fun p hp ha x hx =>
  mem_clL.mpr ⟨mem_cs (hh p hp).2 hx, clo_step hp (fun y hy => (mem_clL.mp (ha y hy)).2) x hx⟩
theorem cl_min {t : List Nat} (h1 : ∀ x ∈ s, x ∈ t) (h2 : ∀ p ∈ h, (∀ x ∈ p.1, x ∈ t) → ∀ x ∈ p.2, x ∈ t) : ∀ x ∈ clL h s, x ∈ t := fun x hx => (mem_clL.mp hx).2 (· ∈ t) h1 h2
theorem book_closed (ok : BookOk hd h) : ∀ p ∈ h, (∀ x ∈ p.1, x ∈ hd) → ∀ x ∈ p.2, x ∈ hd := fun p hp _ => by
  obtain ⟨_, b⟩ := okH_parts (ok.each p hp)
  exact insB_iff.mp b.2
theorem mem_shut (ok : BookOk hd h) : s ∈ shutL hd h ↔ s.Sublist hd ∧ clL h s = s := by
  unfold shutL shutB
  simp [List.mem_filter, mem_setsL]
theorem cl_in (ok : BookOk hd h) (hs : s.Sublist hd) : ∀ x ∈ clL h s, x ∈ hd := cl_min (fun x hx => hs.subset hx) (book_closed ok)
end
end Kd

namespace Kd
open PySem PySem.Spec PyProof.Rows L2
/-! ### what repr shows is short -/
theorem fold_len (q : Nat) : ∀ (l : List Nat) (acc : Array Nat), (∀ c ∈ l, (Builtin.Str.reprChar q c).length ≤ 10) → (l.foldl (fun out c => out ++ (Builtin.Str.reprChar q c).toArray) acc).size ≤ acc.size + 10 * l.length
  | [], acc, _ => by simp
  | c :: l, acc, h => by
    have ih := fold_len q l (acc ++ (Builtin.Str.reprChar q c).toArray) fun d hd => h d (List.mem_cons_of_mem _ hd)
    have hc := h c List.mem_cons_self
    simp only [List.foldl_cons, Array.size_append, List.size_toArray, List.length_cons] at ih ⊢
    omega
theorem text_ub : ∀ (ts : List Str) (k : Nat) (acc : Str), (textFrom k acc ts).length ≤ acc.length + (ts.map fun t => t.length + 2).sum
  | [], k, acc => by simp [textFrom]
  | t :: ts, k, acc => by
    have ih := text_ub ts (k + 1) (acc ++ (if k > 0 then ", " else "" : String) ++ t)
    have e : (acc ++ (if k > 0 then ", " else "" : String) ++ t).length ≤ acc.length + 2 + t.length := by
      rw [len_app, len_app]
      have : Str.length (Str.ofString (if k > 0 then ", " else "" : String)) ≤ 2 := by split <;> decide +kernel
      omega
    simp only [textFrom, List.map_cons, List.sum_cons]
    omega
/-! ### lists of texts searched, cut -/
theorem eq_nil_TL (l : List (List Nat)) : cmpD .Eq (.list (l.map T)) (.list []) = some (decide (l = [])) := by
  have h2 : PyData.depthAll (l.map T) = 0 := by
    induction l with
    | nil => rfl
    | cons x l ih => simp [PyData.depthAll, T, PyData.depth] at ih ⊢; exact ih
  have c : canEq (.list (l.map T)) (.list []) = true := by
    simp [canEq, flatDict, flatAll_TT, flatDictAll, PyData.depth, h2]
  have e : PyData.eqv (.list (l.map T)) (.list []) = decide (l = []) := by
    cases l with
    | nil => rfl
    | cons c l => simp [PyData.eqv, PyData.eqvAll]
  simp only [cmpD, c, if_true, e]
/-! ### a dict of texts -/
/-! ### slots forgotten -/
inductive SubS (b : Nat) : Sl → Sl → Prop
  | nil : SubS b [] []
  | drop {x : Option Vl} {s t : Sl} : SubS b s t → SubS b (x :: s) (none :: t)
  | keep {d : D} {s t : Sl} : SubS b s t → SubS b (some (.d d) :: s) (some (.d d) :: t)
  | obj {n : Nat} {s t : Sl} : n < b → SubS b s t → SubS b (some (.o n) :: s) (some (.o n) :: t)
  | objs {ns : List Nat} {s t : Sl} : (∀ n ∈ ns, n < b) → SubS b s t → SubS b (some (.l ns) :: s) (some (.l ns) :: t)
theorem SubS.len {b : Nat} {s t : Sl} (h : SubS b s t) : t.length = s.length := by
  induction h with
  | nil => rfl
  | drop _ ih => simp [ih]
  | keep _ ih => simp [ih]
  | obj _ _ ih => simp [ih]
  | objs _ _ ih => simp [ih]
theorem SubS.get {b : Nat} {s t : Sl} (h : SubS b s t) : ∀ (i : Nat) (r : Vl), t[i]? = some (some r) → s[i]? = some (some r) ∧ (∀ n, r = .o n → n < b) ∧ ∀ ns, r = .l ns → ∀ n ∈ ns, n < b := by
  induction h with
  | nil => intro i r e; simp at e
  | drop _ ih =>
    intro i r e
    cases i with
    | zero => simp at e
    | succ i => simpa using ih i r (by simpa using e)
  | keep _ ih =>
    intro i r e
    cases i with
    | zero => simp at e; subst e; exact ⟨rfl, (fun n z => by cases z), fun n z => by cases z⟩
    | succ i => simpa using ih i r (by simpa using e)
  | obj hn _ ih =>
    intro i r e
    cases i with
    | zero => simp at e; subst e; exact ⟨rfl, (fun n z => by cases z; exact hn), fun n z => by cases z⟩
    | succ i => simpa using ih i r (by simpa using e)
  | objs hn _ ih =>
    intro i r e
    cases i with
    | zero => simp at e; subst e; exact ⟨rfl, (fun n z => by cases z), fun n z => by cases z; exact hn⟩
    | succ i => simpa using ih i r (by simpa using e)
theorem wk_by {base : Nat} {sl sl2 : Sl} {oh oh2 : OH} (b : Nat) (hb : base ≤ b) (ho : oh2 = oh.take b) (h : SubS b sl sl2) : Wk base ⟨sl, oh⟩ ⟨sl2, oh2⟩ :=
  ⟨h.len, b, hb, ho, h.get⟩
end Kd

namespace Kd
open PySem PySem.Spec PyProof.Rows L2
theorem rc_128 : ((List.range 128).all fun c => decide ((Builtin.Str.reprChar 39 c).length ≤ 10) && decide ((Builtin.Str.reprChar 34 c).length ≤ 10)) = true := by decide +kernel
theorem repr_lenA {l : List Nat} (h : ∀ c ∈ l, c < 128) : (PyData.shown (T l)).length ≤ 10 * l.length + 2 := by
  show (reprText ⟨l.toArray⟩).length ≤ _
  have hq : reprQuote ⟨l.toArray⟩ = 39 ∨ reprQuote ⟨l.toArray⟩ = 34 := by
    unfold reprQuote
    split
    · exact .inr rfl
    · exact .inl rfl
  unfold reprText
  show (Array.push _ _).size ≤ _
  rw [Array.size_push]
  have hb : ∀ c ∈ l, (Builtin.Str.reprChar (reprQuote ⟨l.toArray⟩) c).length ≤ 10 := fun c hc => by
    have := List.all_eq_true.mp rc_128 c (List.mem_range.mpr (h c hc))
    simp only [Bool.and_eq_true, decide_eq_true_eq] at this
    rcases hq with e | e <;> rw [e]
    · exact this.1
    · exact this.2
  have := fold_len (reprQuote ⟨l.toArray⟩) l #[reprQuote ⟨l.toArray⟩] hb
  simp only [List.foldl_toArray'] at this ⊢
  have e1 : (#[reprQuote (⟨l.toArray⟩ : Str)] : Array Nat).size = 1 := rfl
  rw [e1] at this
  simpa using by omega
theorem shownAll_eq : ∀ ds : List D, PyData.shownAll ds = ds.map PyData.shown
  | [] => rfl
  | d :: ds => by simp [PyData.shownAll, shownAll_eq ds]
theorem flatAll_iff : ∀ {ds : List D}, (∀ d ∈ ds, flatDict d = true) → flatDictAll ds = true
  | [], _ => rfl
  | d :: ds, h => by
    simp only [flatDictAll, Bool.and_eq_true]
    exact ⟨h d List.mem_cons_self, flatAll_iff fun e he => h e (List.mem_cons_of_mem _ he)⟩
theorem showAll_iff : ∀ {ds : List D}, (∀ d ∈ ds, PyData.showable d = true) → PyData.showableAll ds = true
  | [], _ => rfl
  | d :: ds, h => by
    simp only [PyData.showableAll, Bool.and_eq_true]
    exact ⟨h d List.mem_cons_self, showAll_iff fun e he => h e (List.mem_cons_of_mem _ he)⟩
theorem depthAll_le {k : Nat} : ∀ {ds : List D}, (∀ d ∈ ds, PyData.depth d ≤ k) → PyData.depthAll ds ≤ k
  | [], _ => Nat.zero_le _
  | d :: ds, h => by
    simp only [PyData.depthAll]
    exact Nat.max_le.mpr ⟨h d List.mem_cons_self, depthAll_le fun e he => h e (List.mem_cons_of_mem _ he)⟩
theorem sum_le {n : Nat} : ∀ {ts : List Str}, (∀ t ∈ ts, t.length ≤ n) → (ts.map fun t => t.length + 2).sum ≤ ts.length * (n + 2)
  | [], _ => by simp
  | t :: ts, h => by
    have ih := sum_le fun u hu => h u (List.mem_cons_of_mem t hu)
    have := h t List.mem_cons_self
    simp only [List.map_cons, List.sum_cons, List.length_cons, Nat.add_mul, Nat.one_mul]
    omega
inductive Sh : Nat → Nat → D → Prop
  | non {k n : Nat} (hn : 4 ≤ n) : Sh k n .none
  | bl {k n : Nat} (b : Bool) (hn : 5 ≤ n) : Sh k n (.bool b)
  | int {i : Int} {k n : Nat} (h : i.natAbs ≤ 100000) (hn : i.natAbs + 2 ≤ n) : Sh k n (.int i)
  | txt {l : List Nat} {k n : Nat} (h : ∀ c ∈ l, c < 128) (hn : 10 * l.length + 2 ≤ n) : Sh k n (T l)
  | lst {ds : List D} {k n m : Nat} (h : ∀ d ∈ ds, Sh k n d) (hn : ds.length * (n + 2) + 3 ≤ m) : Sh (k + 1) m (.list ds)
  | tup {ds : List D} {k n m : Nat} (h : ∀ d ∈ ds, Sh k n d) (hn : ds.length * (n + 2) + 4 ≤ m) : Sh (k + 1) m (.tuple ds)
theorem Sh.facts {k n : Nat} {d : D} (h : Sh k n d) : flatDict d = true ∧ PyData.showable d = true ∧ PyData.depth d ≤ k ∧ (PyData.shown d).length ≤ n := by
  induction h with
  | non hn => exact ⟨rfl, rfl, Nat.zero_le _, Nat.le_trans (by decide +kernel) hn⟩
  | bl b hn => cases b <;> exact ⟨rfl, rfl, Nat.zero_le _, Nat.le_trans (by decide +kernel) hn⟩
  | @int i k n h hn =>
    refine ⟨rfl, ?_, Nat.zero_le _, ?_⟩
    · simp only [PyData.showable, decide_eq_true_eq]
      by_cases e : i.natAbs = 0
      · rw [e]; decide
      · exact Nat.lt_trans ((Nat.log2_lt e).mpr (show i.natAbs < 2 ^ 20 by omega)) (by decide)
    · have := PyProof.Rows.len_str_of_int i
      show (Str.ofString (toString i)).length ≤ n
      omega
  | txt h hn => exact ⟨rfl, rfl, Nat.zero_le _, Nat.le_trans (repr_lenA h) hn⟩
  | @lst ds k n m h hn ih =>
    refine ⟨flatAll_iff fun d hd => (ih d hd).1, showAll_iff fun d hd => (ih d hd).2.1, ?_, ?_⟩
    · simp only [PyData.depth]
      exact Nat.succ_le_succ (depthAll_le fun d hd => (ih d hd).2.2.1)
    · show (textFrom 0 "[" (PyData.shownAll ds) ++ "]").length ≤ _
      rw [len_app, shownAll_eq]
      have u := text_ub (ds.map PyData.shown) 0 "["
      have e1 : Str.length ("[" : Str) = 1 := by decide +kernel
      have e2 : Str.length ("]" : Str) = 1 := by decide +kernel
      have s := sum_le (ts := ds.map PyData.shown) (n := n) fun t ht => by
        obtain ⟨d, hd, rfl⟩ := List.mem_map.mp ht
        exact (ih d hd).2.2.2
      rw [List.length_map] at s
      omega
  | @tup ds k n m h hn ih =>
    refine ⟨flatAll_iff fun d hd => (ih d hd).1, showAll_iff fun d hd => (ih d hd).2.1, ?_, ?_⟩
    · simp only [PyData.depth]
      exact Nat.succ_le_succ (depthAll_le fun d hd => (ih d hd).2.2.1)
    · show (tupleText (PyData.shownAll ds)).length ≤ _
      unfold tupleText
      rw [len_app, len_app, shownAll_eq]
      have u := join_len ", " (ds.map PyData.shown)
      have e1 : Str.length ("(" : Str) = 1 := by decide +kernel
      have e2 : Str.length (", " : Str) = 2 := by decide +kernel
      have e3 : Str.length (Str.ofString (if ((ds.map PyData.shown).length == 1) = true then ",)" else ")" : String)) ≤ 2 := by split <;> decide +kernel
      have s := sum_le (ts := ds.map PyData.shown) (n := n) fun t ht => by
        obtain ⟨d, hd, rfl⟩ := List.mem_map.mp ht
        exact (ih d hd).2.2.2
      have e4 : ((ds.map PyData.shown).map fun t => t.length + 2).sum = ((ds.map PyData.shown).map (·.length)).sum + (ds.map PyData.shown).length * 2 := by
        generalize ds.map PyData.shown = ts
        induction ts with
        | nil => rfl
        | cons t ts ih => simp only [List.map_cons, List.sum_cons, List.length_cons, Nat.add_mul, ih]; omega
      rw [List.length_map] at s
      rw [e4] at s
      rw [List.length_map] at u s
      rw [e2] at u
      omega
theorem Sh.can {n : Nat} {d : D} (h : Sh 60 n d) (hn : n ≤ 16000000) : canRepr d = true := by
  obtain ⟨a, b, c, e⟩ := h.facts
  have z : (16000000 : Nat) ≤ sizeLine := by decide
  simp only [canRepr, Bool.and_eq_true, decide_eq_true_eq]
  exact ⟨⟨⟨a, b⟩, by omega⟩, by omega⟩
theorem cols_128 : ∀ c ∈ cols, c < 128 := by decide
theorem cs_128 {l : List Nat} (h : IsCS l) : ∀ c ∈ l, c < 128 := fun c hc => cols_128 c (mem_cs h hc)
theorem Sh.cs {l : List Nat} {k : Nat} (h : IsCS l) : Sh k 82 (T l) := .txt (cs_128 h) (by have := h.len; omega)
end Kd

namespace Kd
open PySem PySem.Spec PyProof.Rows L2
def metL (a b : List Nat) : List Nat := a.filter fun c => decide (c ∈ b)
/-! ### dicts from sets -/
theorem range_get {lo : Int} {n i : Nat} {d : D} (h : (rangeL lo n)[i]? = some d) : d = .int (lo + (i : Nat)) := by
  unfold rangeL at h
  rw [List.getElem?_map] at h
  obtain ⟨j, hj, rfl⟩ := Option.map_eq_some_iff.mp h
  have := lt_get hj
  rw [List.length_range] at this
  rw [List.getElem?_range this] at hj
  cases hj
  rfl
theorem norm_c0 {oh' : OH} {Q : QV} : norm 1 (.o 0) oh' Q = Q (.o 0) oh' := norm_o (by decide)
theorem norm_c1 {a x : OO} {Q : QV} : norm 1 (.o 1) [a, x] Q = Q (.d x.dat) [a] := by simp [norm]
theorem take_step {α : Type} {l : List α} {i : Nat} {x : α} (h : l[i]? = some x) : l.take (i + 1) = l.take i ++ [x] := by
  rw [List.take_succ, h]; rfl
theorem mem_step {α : Type} {l : List α} {i : Nat} {x y : α} (h : l[i]? = some x) : y ∈ l.take (i + 1) ↔ y ∈ l.take i ∨ y = x := by
  rw [take_step h]; simp
/-! covers -/
noncomputable def own (h : List Hn) (w s : List Nat) : List Nat := metL (clL h s) w
end Kd

namespace Kd
open PySem PySem.Spec PyProof.Rows L2
/-! ### plain -/
section
variable {h : List Hn} {w s t : List Nat}
theorem clo_mono (hst : ∀ x ∈ s, x ∈ t) {c : Nat} (hc : Clo h s c) : Clo h t c := fun u h1 h2 => hc u (fun x hx => h1 x (hst x hx)) h2
theorem cl_mono (hst : ∀ x ∈ s, x ∈ t) : ∀ x ∈ clL h s, x ∈ clL h t := fun x hx => by
  obtain ⟨a, b⟩ := mem_clL.mp hx
  exact mem_clL.mpr ⟨a, clo_mono hst b⟩
end
/-! ### the program's -/
theorem any_map {α : Type} (l : List α) (f : α → Bool) : biD .any [.list (l.map fun x => .bool (f x))] = some (.sh (.bool (l.any f))) := by
  have e : boolsOf (l.map fun x => (.bool (f x) : D)) = some (l.map f) := by
    induction l with
    | nil => rfl
    | cons x l ih => simp [boolsOf, ih]
  simp only [biD, one, biAny, e, Option.map_some]
  simp [List.any_map]
end Kd

namespace Kd
open PySem PySem.Spec PyProof.Rows L2
end Kd

namespace Kd
open PySem PySem.Spec PyProof.Rows L2
end Kd

namespace Kd
open PySem PySem.Spec PyProof.Rows L2
/-! ### follows -/
theorem hp_ix0 (p : Hn) : ixD (hp p) (.int 0) = some (T p.1) := ix_0 _ _
theorem hp_ix1 (p : Hn) : ixD (hp p) (.int 1) = some (T p.2) := ix_1 _ _ _
theorem bk_ix0 (hd : List Nat) (h : List Hn) : ixD (BK hd h) (.int 0) = some (T hd) := ix_0 _ _
theorem bk_ix1 (hd : List Nat) (h : List Hn) : ixD (BK hd h) (.int 1) = some (HG h) := ix_1 _ _ _
def S_need_hanging : FSpec := fun rs oh Q _ => ∃ hd p, rs = [.d (T hd), .d (hp p)] ∧ okH hd p = true ∧ Q (.d .none) oh
theorem w_need_hanging (Γ : Gv) (h1 : Γ.fn "hangs" = some S_hangs) (rs : List Vl) (oh : OH) (Q : QV) (E : QX) (h : S_need_hanging rs oh Q E) : fnW Γ 2 c_need_hanging rs oh Q E := by
  obtain ⟨hd, p, rfl, ok, q⟩ := h
  obtain ⟨⟨a, _⟩, ⟨b, _⟩⟩ := okH_parts ok
  unfold c_need_hanging
  (try simp only [fnW_eq, fnD_nx, fnD_rt, seq_nx, seq_rt, seq_rtF, loop_rtF, seq_bk, seq_ct, loop_nx, loop_rt, loop_bk, loop_ct, wB_cons, wB_nil, wS_asgO, wS_asg, wS_unp, wS_par, wS_parc, wS_sset, wS_sps, wS_exp, wS_ret, wS_retN, wS_ife, wS_pas, wS_brk, wS_cnt, wE, wNs, wAs, wT, wI, wP, norm_d, store_d, vdat_d, norm_new, store_new, norm_newS, store_newS, fin_sh, fin_lst, fresh_lst, walk_d, it_T, it_list, it_tuple, seq_T, seq_list, seq_tuple, seqAll, zipN2, zipN3, bind1, bind2, bind3, wipeS, setAll, seeAll, tru_bool, retv_d, take_all, ex_some,
  List.map_cons, List.map_nil, List.length_cons, List.length_nil, List.cons_append, List.nil_append, List.replicate, List.getElem?_cons_zero, List.getElem?_cons_succ, List.set_cons_zero, List.set_cons_succ, Option.some.injEq, exists_eq_left', exists_eq_left, exists_eq_right, true_and, and_true,
  Nat.reduceAdd, Nat.reduceSub, OO.dat, cmp_in, cmp_notin, exists_and_left, reduceIte, reduceCtorEq, if_true, if_false, Bool.false_eq_true, Vl.d.injEq, PyData.int.injEq, PyData.bool.injEq, PyData.str.injEq, Bool.not_true, Bool.not_false, cmp_lt, cmp_gt, cmp_le, cmp_ge, cmp_eq, cmp_ne, len_tup, len_lst, len_txt, ix_0, ix_1, ix_l0, ix_l1, ix_l2, bin_add, bin_sub, set_l0, set_l1, set_l2, live_lst, max_int, min_int, take_set, take_snoc, List.set_set, List.length_set, Vl.o.injEq, eq_self, decide_true, decide_false, Int.reduceLT, Int.reduceEq, Int.cast_ofNat_Int, Nat.zero_add])
  refine ⟨_, h1, hd, p, rfl, Nat.le_trans a.len (by omega), Nat.le_trans b.len (by omega), ?_⟩
  rw [ok]
  (try simp only [fnW_eq, fnD_nx, fnD_rt, seq_nx, seq_rt, seq_rtF, loop_rtF, seq_bk, seq_ct, loop_nx, loop_rt, loop_bk, loop_ct, wB_cons, wB_nil, wS_asgO, wS_asg, wS_unp, wS_par, wS_parc, wS_sset, wS_sps, wS_exp, wS_ret, wS_retN, wS_ife, wS_pas, wS_brk, wS_cnt, wE, wNs, wAs, wT, wI, wP, norm_d, store_d, vdat_d, norm_new, store_new, norm_newS, store_newS, fin_sh, fin_lst, fresh_lst, walk_d, it_T, it_list, it_tuple, seq_T, seq_list, seq_tuple, seqAll, zipN2, zipN3, bind1, bind2, bind3, wipeS, setAll, seeAll, tru_bool, retv_d, take_all, ex_some,
  List.map_cons, List.map_nil, List.length_cons, List.length_nil, List.cons_append, List.nil_append, List.replicate, List.getElem?_cons_zero, List.getElem?_cons_succ, List.set_cons_zero, List.set_cons_succ, Option.some.injEq, exists_eq_left', exists_eq_left, exists_eq_right, true_and, and_true,
  Nat.reduceAdd, Nat.reduceSub, OO.dat, cmp_in, cmp_notin, exists_and_left, reduceIte, reduceCtorEq, if_true, if_false, Bool.false_eq_true, Vl.d.injEq, PyData.int.injEq, PyData.bool.injEq, PyData.str.injEq, Bool.not_true, Bool.not_false, cmp_lt, cmp_gt, cmp_le, cmp_ge, cmp_eq, cmp_ne, len_tup, len_lst, len_txt, ix_0, ix_1, ix_l0, ix_l1, ix_l2, bin_add, bin_sub, set_l0, set_l1, set_l2, live_lst, max_int, min_int, take_set, take_snoc, List.set_set, List.length_set, Vl.o.injEq, eq_self, decide_true, decide_false, Int.reduceLT, Int.reduceEq, Int.cast_ofNat_Int, Nat.zero_add])
  exact q
def S_follows : FSpec := fun rs oh Q _ => ∃ hd h p, rs = [.d (BK hd h), .d (hp p)] ∧ BookOk hd h ∧ okH hd p = true ∧ Q (.d (.bool (insB p.2 (clL h p.1)))) oh
theorem w_follows (Γ : Gv) (h1 : Γ.fn "need_book" = some S_need_book) (h2 : Γ.fn "need_hanging" = some S_need_hanging) (h3 : Γ.fn "grown" = some S_grown) (h4 : Γ.fn "inside" = some S_inside) (rs : List Vl) (oh : OH) (Q : QV) (E : QX) (h : S_follows rs oh Q E) : fnW Γ 2 c_follows rs oh Q E := by
  obtain ⟨hd, h, p, rfl, ok, okp, q⟩ := h
  obtain ⟨⟨a, _⟩, ⟨b, _⟩⟩ := okH_parts okp
  (try simp only [fnW_eq, fnD_nx, fnD_rt, seq_nx, seq_rt, seq_rtF, loop_rtF, seq_bk, seq_ct, loop_nx, loop_rt, loop_bk, loop_ct, wB_cons, wB_nil, wS_asgO, wS_asg, wS_unp, wS_par, wS_parc, wS_sset, wS_sps, wS_exp, wS_ret, wS_retN, wS_ife, wS_pas, wS_brk, wS_cnt, wE, wNs, wAs, wT, wI, wP, norm_d, store_d, vdat_d, norm_new, store_new, norm_newS, store_newS, fin_sh, fin_lst, fresh_lst, walk_d, it_T, it_list, it_tuple, seq_T, seq_list, seq_tuple, seqAll, zipN2, zipN3, bind1, bind2, bind3, wipeS, setAll, seeAll, tru_bool, retv_d, take_all, ex_some,
  List.map_cons, List.map_nil, List.length_cons, List.length_nil, List.cons_append, List.nil_append, List.replicate, List.getElem?_cons_zero, List.getElem?_cons_succ, List.set_cons_zero, List.set_cons_succ, Option.some.injEq, exists_eq_left', exists_eq_left, exists_eq_right, true_and, and_true,
  Nat.reduceAdd, Nat.reduceSub, OO.dat, cmp_in, cmp_notin, exists_and_left, reduceIte, reduceCtorEq, if_true, if_false, Bool.false_eq_true, Vl.d.injEq, PyData.int.injEq, PyData.bool.injEq, PyData.str.injEq, Bool.not_true, Bool.not_false, cmp_lt, cmp_gt, cmp_le, cmp_ge, cmp_eq, cmp_ne, len_tup, len_lst, len_txt, ix_0, ix_1, ix_l0, ix_l1, ix_l2, bin_add, bin_sub, set_l0, set_l1, set_l2, live_lst, max_int, min_int, take_set, take_snoc, List.set_set, List.length_set, Vl.o.injEq, eq_self, decide_true, decide_false, Int.reduceLT, Int.reduceEq, Int.cast_ofNat_Int, Nat.zero_add, c_follows])
  refine ⟨_, h1, hd, h, rfl, ok, ?_⟩
  (try simp only [fnW_eq, fnD_nx, fnD_rt, seq_nx, seq_rt, seq_rtF, loop_rtF, seq_bk, seq_ct, loop_nx, loop_rt, loop_bk, loop_ct, wB_cons, wB_nil, wS_asgO, wS_asg, wS_unp, wS_par, wS_parc, wS_sset, wS_sps, wS_exp, wS_ret, wS_retN, wS_ife, wS_pas, wS_brk, wS_cnt, wE, wNs, wAs, wT, wI, wP, norm_d, store_d, vdat_d, norm_new, store_new, norm_newS, store_newS, fin_sh, fin_lst, fresh_lst, walk_d, it_T, it_list, it_tuple, seq_T, seq_list, seq_tuple, seqAll, zipN2, zipN3, bind1, bind2, bind3, wipeS, setAll, seeAll, tru_bool, retv_d, take_all, ex_some,
  List.map_cons, List.map_nil, List.length_cons, List.length_nil, List.cons_append, List.nil_append, List.replicate, List.getElem?_cons_zero, List.getElem?_cons_succ, List.set_cons_zero, List.set_cons_succ, Option.some.injEq, exists_eq_left', exists_eq_left, exists_eq_right, true_and, and_true,
  Nat.reduceAdd, Nat.reduceSub, OO.dat, cmp_in, cmp_notin, exists_and_left, reduceIte, reduceCtorEq, if_true, if_false, Bool.false_eq_true, Vl.d.injEq, PyData.int.injEq, PyData.bool.injEq, PyData.str.injEq, Bool.not_true, Bool.not_false, cmp_lt, cmp_gt, cmp_le, cmp_ge, cmp_eq, cmp_ne, len_tup, len_lst, len_txt, ix_0, ix_1, ix_l0, ix_l1, ix_l2, bin_add, bin_sub, set_l0, set_l1, set_l2, live_lst, max_int, min_int, take_set, take_snoc, List.set_set, List.length_set, Vl.o.injEq, eq_self, decide_true, decide_false, Int.reduceLT, Int.reduceEq, Int.cast_ofNat_Int, Nat.zero_add, c_follows_1, bk_ix0])
  refine ⟨_, h2, hd, p, rfl, okp, ?_⟩
  (try simp only [fnW_eq, fnD_nx, fnD_rt, seq_nx, seq_rt, seq_rtF, loop_rtF, seq_bk, seq_ct, loop_nx, loop_rt, loop_bk, loop_ct, wB_cons, wB_nil, wS_asgO, wS_asg, wS_unp, wS_par, wS_parc, wS_sset, wS_sps, wS_exp, wS_ret, wS_retN, wS_ife, wS_pas, wS_brk, wS_cnt, wE, wNs, wAs, wT, wI, wP, norm_d, store_d, vdat_d, norm_new, store_new, norm_newS, store_newS, fin_sh, fin_lst, fresh_lst, walk_d, it_T, it_list, it_tuple, seq_T, seq_list, seq_tuple, seqAll, zipN2, zipN3, bind1, bind2, bind3, wipeS, setAll, seeAll, tru_bool, retv_d, take_all, ex_some,
  List.map_cons, List.map_nil, List.length_cons, List.length_nil, List.cons_append, List.nil_append, List.replicate, List.getElem?_cons_zero, List.getElem?_cons_succ, List.set_cons_zero, List.set_cons_succ, Option.some.injEq, exists_eq_left', exists_eq_left, exists_eq_right, true_and, and_true,
  Nat.reduceAdd, Nat.reduceSub, OO.dat, cmp_in, cmp_notin, exists_and_left, reduceIte, reduceCtorEq, if_true, if_false, Bool.false_eq_true, Vl.d.injEq, PyData.int.injEq, PyData.bool.injEq, PyData.str.injEq, Bool.not_true, Bool.not_false, cmp_lt, cmp_gt, cmp_le, cmp_ge, cmp_eq, cmp_ne, len_tup, len_lst, len_txt, ix_0, ix_1, ix_l0, ix_l1, ix_l2, bin_add, bin_sub, set_l0, set_l1, set_l2, live_lst, max_int, min_int, take_set, take_snoc, List.set_set, List.length_set, Vl.o.injEq, eq_self, decide_true, decide_false, Int.reduceLT, Int.reduceEq, Int.cast_ofNat_Int, Nat.zero_add, c_follows_2, bk_ix1, hp_ix0, hp_ix1])
  refine ⟨_, h3, HG h, h, p.1, rfl, rfl, ok.parts, a, ?_⟩
  (try simp only [fnW_eq, fnD_nx, fnD_rt, seq_nx, seq_rt, seq_rtF, loop_rtF, seq_bk, seq_ct, loop_nx, loop_rt, loop_bk, loop_ct, wB_cons, wB_nil, wS_asgO, wS_asg, wS_unp, wS_par, wS_parc, wS_sset, wS_sps, wS_exp, wS_ret, wS_retN, wS_ife, wS_pas, wS_brk, wS_cnt, wE, wNs, wAs, wT, wI, wP, norm_d, store_d, vdat_d, norm_new, store_new, norm_newS, store_newS, fin_sh, fin_lst, fresh_lst, walk_d, it_T, it_list, it_tuple, seq_T, seq_list, seq_tuple, seqAll, zipN2, zipN3, bind1, bind2, bind3, wipeS, setAll, seeAll, tru_bool, retv_d, take_all, ex_some,
  List.map_cons, List.map_nil, List.length_cons, List.length_nil, List.cons_append, List.nil_append, List.replicate, List.getElem?_cons_zero, List.getElem?_cons_succ, List.set_cons_zero, List.set_cons_succ, Option.some.injEq, exists_eq_left', exists_eq_left, exists_eq_right, true_and, and_true,
  Nat.reduceAdd, Nat.reduceSub, OO.dat, cmp_in, cmp_notin, exists_and_left, reduceIte, reduceCtorEq, if_true, if_false, Bool.false_eq_true, Vl.d.injEq, PyData.int.injEq, PyData.bool.injEq, PyData.str.injEq, Bool.not_true, Bool.not_false, cmp_lt, cmp_gt, cmp_le, cmp_ge, cmp_eq, cmp_ne, len_tup, len_lst, len_txt, ix_0, ix_1, ix_l0, ix_l1, ix_l2, bin_add, bin_sub, set_l0, set_l1, set_l2, live_lst, max_int, min_int, take_set, take_snoc, List.set_set, List.length_set, Vl.o.injEq, eq_self, decide_true, decide_false, Int.reduceLT, Int.reduceEq, Int.cast_ofNat_Int, Nat.zero_add])
  refine ⟨_, h4, p.2, clL h p.1, rfl, Nat.le_trans b.len (by omega), ?_⟩
  (try simp only [fnW_eq, fnD_nx, fnD_rt, seq_nx, seq_rt, seq_rtF, loop_rtF, seq_bk, seq_ct, loop_nx, loop_rt, loop_bk, loop_ct, wB_cons, wB_nil, wS_asgO, wS_asg, wS_unp, wS_par, wS_parc, wS_sset, wS_sps, wS_exp, wS_ret, wS_retN, wS_ife, wS_pas, wS_brk, wS_cnt, wE, wNs, wAs, wT, wI, wP, norm_d, store_d, vdat_d, norm_new, store_new, norm_newS, store_newS, fin_sh, fin_lst, fresh_lst, walk_d, it_T, it_list, it_tuple, seq_T, seq_list, seq_tuple, seqAll, zipN2, zipN3, bind1, bind2, bind3, wipeS, setAll, seeAll, tru_bool, retv_d, take_all, ex_some,
  List.map_cons, List.map_nil, List.length_cons, List.length_nil, List.cons_append, List.nil_append, List.replicate, List.getElem?_cons_zero, List.getElem?_cons_succ, List.set_cons_zero, List.set_cons_succ, Option.some.injEq, exists_eq_left', exists_eq_left, exists_eq_right, true_and, and_true,
  Nat.reduceAdd, Nat.reduceSub, OO.dat, cmp_in, cmp_notin, exists_and_left, reduceIte, reduceCtorEq, if_true, if_false, Bool.false_eq_true, Vl.d.injEq, PyData.int.injEq, PyData.bool.injEq, PyData.str.injEq, Bool.not_true, Bool.not_false, cmp_lt, cmp_gt, cmp_le, cmp_ge, cmp_eq, cmp_ne, len_tup, len_lst, len_txt, ix_0, ix_1, ix_l0, ix_l1, ix_l2, bin_add, bin_sub, set_l0, set_l1, set_l2, live_lst, max_int, min_int, take_set, take_snoc, List.set_set, List.length_set, Vl.o.injEq, eq_self, decide_true, decide_false, Int.reduceLT, Int.reduceEq, Int.cast_ofNat_Int, Nat.zero_add])
  exact q
/-! ### least hangings -/
/-! plain -/
end Kd

namespace Kd
open PySem PySem.Spec PyProof.Rows L2
/-! ### rising books -/
theorem ltP_le {p q : Hn} (h : ltP p q = true) : leP p q = true := by
  rw [ltP_iff] at h
  rw [leP_iff]
  rcases h with h | ⟨a, b⟩
  · exact .inl h
  · exact .inr ⟨a, List.le_of_lt b⟩
theorem ltP_irr (p : Hn) : ltP p p = false := by
  rw [Bool.eq_false_iff]
  intro h
  rw [ltP_iff] at h
  rcases h with h | ⟨_, b⟩
  · exact List.lt_irrefl _ h
  · exact List.lt_irrefl _ b
theorem ltP_trans {a b c : Hn} (h1 : ltP a b = true) (h2 : ltP b c = true) : ltP a c = true := by
  rw [ltP_iff] at *
  rcases h1 with h1 | ⟨e1, h1⟩ <;> rcases h2 with h2 | ⟨e2, h2⟩
  · exact .inl (List.lt_trans h1 h2)
  · exact .inl (e2 ▸ h1)
  · exact .inl (e1 ▸ h2)
  · exact .inr ⟨e1.trans e2, List.lt_trans h1 h2⟩
theorem ris_pair : ∀ {h : List Hn}, risB h = true → h.Pairwise (fun a b => ltP a b = true)
  | [], _ => .nil
  | [a], _ => List.pairwise_singleton _ _
  | a :: b :: h, r => by
    have e : risB (a :: b :: h) = (ltP a b && risB (b :: h)) := rfl
    rw [e, Bool.and_eq_true] at r
    have ih := ris_pair r.2
    refine List.pairwise_cons.mpr ⟨fun x hx => ?_, ih⟩
    rcases List.mem_cons.mp hx with rfl | hx
    · exact r.1
    · exact ltP_trans r.1 ((List.pairwise_cons.mp ih).1 x hx)
theorem ris_nodup {h : List Hn} (r : risB h = true) : h.Nodup := (ris_pair r).imp fun {a b} q e => by
  subst e
  rw [ltP_irr] at q
  cases q
theorem ris_sub {h k : List Hn} (r : risB h = true) (s : k.Sublist h) : risB k = true :=
  ris_of k ((ris_pair r).sublist s |>.imp fun q => ltP_le q) ((ris_nodup r).sublist s)
theorem BookOk.sub {hd : List Nat} {h k : List Hn} (ok : BookOk hd h) (s : k.Sublist h) : BookOk hd k := ⟨ok.cs, ok.ne, Nat.le_trans s.length_le ok.few, fun p hp => ok.each p (s.subset hp), ris_sub ok.ris s⟩
/-! ### spare ones -/
theorem clo_more {h k : List Hn} (s : ∀ p ∈ h, p ∈ k) {t : List Nat} {c : Nat} (hc : Clo h t c) : Clo k t c := fun u h1 h2 => hc u h1 fun p hp => h2 p (s p hp)
theorem cl_more {h k : List Hn} (s : ∀ p ∈ h, p ∈ k) {t : List Nat} : ∀ x ∈ clL h t, x ∈ clL k t := fun x hx => by
  rw [mem_clL] at *
  exact ⟨hx.1, clo_more s hx.2⟩
/-! ### slimmed lists: the rest ahead, last first; what is kept behind -/
/-! ### the numbers of the spare ones -/
/-! ### the program's -/
/-! ### slimmed -/
/-! ### alike -/
/-! ### what is shown, what is the same -/
theorem Sh.hn {p : Hn} {k : Nat} (c1 : IsCS p.1) (c2 : IsCS p.2) : Sh (k + 1) 200 (hp p) := by
  refine Sh.tup (n := 82) (fun d hd => ?_) (by simp)
  simp only [List.mem_cons, List.not_mem_nil, or_false] at hd
  rcases hd with rfl | rfl
  · exact Sh.cs c1
  · exact Sh.cs c2
end Kd

namespace Kd
open PySem PySem.Spec PyProof.Rows L2
/-! ### by length -/
/-! ### stems of a cover -/
/-! ### stems_by -/
/-! ### covers within a set -/
structure Cvr (c : List Nat → List Nat) (w : List Nat) : Prop where
  cw : IsCS w
  sub : ∀ s, s.Sublist w → (c s).Sublist w
  up : ∀ s, s.Sublist w → ∀ x ∈ s, x ∈ c s
  mono : ∀ s t, s.Sublist w → t.Sublist w → (∀ x ∈ s, x ∈ t) → ∀ x ∈ c s, x ∈ c t
  idem : ∀ s, s.Sublist w → c (c s) = c s
theorem Cvr.cs {c : List Nat → List Nat} {w s : List Nat} (k : Cvr c w) (hs : s.Sublist w) : IsCS (c s) := sub_cs k.cw (k.sub s hs)
theorem cl_cvr {hd : List Nat} {h : List Hn} (ok : BookOk hd h) : Cvr (clL h) hd where
  cw := ok.cs
  sub := fun s hs => cs_subl clL_cs ok.cs (cl_in ok hs)
  up := fun s hs => cl_up (sub_cs ok.cs hs)
  mono := fun s t _ _ h => cl_mono h
  idem := fun s hs => by
    refine cs_ext clL_cs clL_cs fun x => ⟨?_, ?_⟩
    · exact cl_min (fun y hy => hy) (cl_closed ok.parts) x
    · exact cl_up clL_cs x
section
variable {c : List Nat → List Nat} {w : List Nat}
end
/-! ### stem_book, narrowed -/
end Kd

namespace Kd
open PySem PySem.Spec PyProof.Rows L2
section
variable {c : List Nat → List Nat} {w : List Nat}
end
/-! ### first_unlike, of books that are alike -/
end Kd

namespace Kd
open PySem PySem.Spec PyProof.Rows L2
theorem cl_le {h k : List Hn} {s : List Nat} (hk : ∀ p ∈ k, IsCS p.1 ∧ IsCS p.2) (H : ∀ p ∈ h, ∀ x ∈ p.2, x ∈ clL k p.1) (hs : IsCS s) : ∀ x ∈ clL h s, x ∈ clL k s :=
  cl_min (cl_up hs) fun p hp h1 x hx => cl_min (t := clL k s) h1 (cl_closed hk) x (H p hp x hx)
theorem put_nd {l : List Hn} {p : Hn} (nd : l.Nodup) : (if p ∈ l then l else l ++ [p]).Nodup := by
  split
  · exact nd
  · rename_i hm
    exact List.nodup_append.mpr ⟨nd, by simp, fun x hx y hy => by simp at hy; subst hy; exact fun z => hm (z ▸ hx)⟩
theorem mem_putH {l : List Hn} {p q : Hn} : q ∈ (if p ∈ l then l else l ++ [p]) ↔ q ∈ l ∨ q = p := by
  split
  · rename_i hm
    exact ⟨.inl, fun z => z.elim id fun e => e ▸ hm⟩
  · simp
theorem putH_len {l : List Hn} {p : Hn} : (if p ∈ l then l else l ++ [p]).length ≤ l.length + 1 := by
  split
  · omega
  · simp
structure Fnd (hd : List Nat) (h : List Hn) (i : Nat) (l : List Hn) : Prop where
  nd : l.Nodup
  sub : ∀ q ∈ l, q.1.Sublist hd ∧ q.2.Sublist hd ∧ ∀ x ∈ q.2, x ∈ clL h q.1
  all : ∀ p ∈ h.take i, ∀ x ∈ p.2, x ∈ clL l p.1
  few : l.length + h.length ≤ 12 + i
def put (l : List Hn) (p : Hn) : List Hn := if p ∈ l then l else l ++ [p]
theorem cl_here {l : List Hn} {p : Hn} (hl : ∀ q ∈ l, IsCS q.1 ∧ IsCS q.2) (hp : p ∈ l) : ∀ x ∈ p.2, x ∈ clL l p.1 := cl_closed hl p hp (cl_up (hl p hp).1)
theorem Fnd.one {hd : List Nat} {h : List Hn} {i : Nat} {l : List Hn} {p : Hn} {r : List Nat} (ok : BookOk hd h) (f : Fnd hd h i l) (hp : h[i]? = some p) (hr : r.Sublist hd) (h1 : ∀ x ∈ r, x ∈ clL h p.1) (h2 : ∀ x ∈ p.2, x ∈ r ∨ x ∈ p.1) : Fnd hd h (i + 1) (put l (p.1, r)) := by
  have pm := List.mem_of_getElem? hp
  obtain ⟨⟨c1, i1⟩, c2, i2⟩ := okH_parts (ok.each p pm)
  have s1 : p.1.Sublist hd := cs_subl c1 ok.cs (insB_iff.mp i1)
  have sub : ∀ q ∈ put l (p.1, r), q.1.Sublist hd ∧ q.2.Sublist hd ∧ ∀ x ∈ q.2, x ∈ clL h q.1 := fun q hq => by
    rcases mem_putH.mp hq with z | rfl
    · exact f.sub q z
    · exact ⟨s1, hr, h1⟩
  have cs : ∀ q ∈ put l (p.1, r), IsCS q.1 ∧ IsCS q.2 := fun q hq => ⟨sub_cs ok.cs (sub q hq).1, sub_cs ok.cs (sub q hq).2.1⟩
  refine ⟨put_nd f.nd, sub, fun q hq x hx => ?_, ?_⟩
  · rcases (mem_step hp).mp hq with z | rfl
    · exact cl_more (fun y hy => mem_putH.mpr (.inl hy)) x (f.all q z x hx)
    · rcases h2 x hx with z | z
      · exact cl_here cs (mem_putH.mpr (.inr rfl)) x z
      · exact cl_up c1 x z
  · have := f.few
    have := putH_len (l := l) (p := (p.1, r))
    unfold put
    omega
theorem Fnd.cl {hd : List Nat} {h : List Hn} {l k : List Hn} (ok : BookOk hd h) (f : Fnd hd h h.length l) (pm : k.Perm l) {s : List Nat} (hs : s.Sublist hd) : clL k s = clL h s := by
  have cs := sub_cs ok.cs hs
  have ck : ∀ q ∈ k, IsCS q.1 ∧ IsCS q.2 := fun q hq => ⟨sub_cs ok.cs (f.sub q (pm.mem_iff.mp hq)).1, sub_cs ok.cs (f.sub q (pm.mem_iff.mp hq)).2.1⟩
  refine cs_ext clL_cs clL_cs fun x => ⟨?_, ?_⟩
  · exact cl_le ok.parts (fun q hq => (f.sub q (pm.mem_iff.mp hq)).2.2) cs x
  · refine cl_le ck (fun q hq y hy => ?_) cs x
    have := f.all q (by rw [List.take_length]; exact hq) y hy
    exact cl_more (fun z hz => pm.mem_iff.mpr hz) y this
theorem bin_HG (a b : List Hn) (h : a.length + b.length ≤ 100000) : binD .Add (HG a) (HG b) = some (.sh (HG (a ++ b))) := by
  unfold HG
  simp only [binD, List.length_map]
  rw [if_pos (Nat.le_trans h line_1000), List.map_append]
theorem Fnd.book {hd : List Nat} {h l : List Hn} (ok : BookOk hd h) (f : Fnd hd h h.length l) : BookOk hd (l.mergeSort leP) := by
  have pm : (l.mergeSort leP).Perm l := List.mergeSort_perm l leP
  refine ⟨ok.cs, ok.ne, ?_, fun p hp => ?_, ris_of _ (List.pairwise_mergeSort leP_trans leP_total l) (pm.nodup_iff.mpr f.nd)⟩
  · rw [pm.length_eq]; have := f.few; omega
  · obtain ⟨s1, s2, _⟩ := f.sub p (pm.mem_iff.mp hp)
    simp only [okH, List.all_cons, List.all_nil, Bool.and_true, Bool.and_eq_true, decide_eq_true_eq]
    exact ⟨⟨(sub_cs ok.cs s1).symm, sub_ins s1⟩, ⟨(sub_cs ok.cs s2).symm, sub_ins s2⟩⟩
/-! ### sorted(set(a text)) -/
end Kd

namespace Kd
open PySem PySem.Spec PyProof.Rows L2
/-! ### grown_apart -/
/-! ### splits -/
structure SplitOk (hd : List Nat) (sp : List (List Nat)) : Prop where
  cs : IsCS hd
  some : 1 ≤ sp.length
  many : sp.length ≤ 64
  each : ∀ w ∈ sp, w.Sublist hd ∧ w ≠ []
  ris : sp.Pairwise (· < ·)
  all : ∀ x ∈ hd, ∃ w ∈ sp, x ∈ w
theorem SplitOk.parts {hd : List Nat} {sp : List (List Nat)} (ok : SplitOk hd sp) : ∀ w ∈ sp, IsCS w := fun w hw => sub_cs ok.cs (ok.each w hw).1
/-! ### lost -/
end Kd

namespace Kd
open PySem PySem.Spec PyProof.Rows L2
theorem lt_nodup {m : List (List Nat)} (h : m.Pairwise (· < ·)) : m.Nodup := h.imp fun {a b} q e => by subst e; exact List.lt_irrefl _ q
end Kd

namespace Kd
open PySem PySem.Spec PyProof.Rows L2
inductive Why where
  | own
  | given (k : Nat)
  | more (i : Nat) (s : List Nat)
  | on (i j : Nat)
abbrev Stq := Hn × Why
def whyB (hd : List Nat) (h : List Hn) (l : List Stq) (at_ : Nat) (p : Hn) : Why → Bool
  | .own => insB p.2 p.1
  | .given k => decide (h[k]? = some p)
  | .more i s => decide (i < at_) && (decide (s = csOf s) && insB s hd) && (l[i]?).any fun q => decide (p = (putL q.1.1 s, putL q.1.2 s))
  | .on i j => decide (i < at_) && decide (j < at_) && (l[i]?).any fun a => (l[j]?).any fun b => decide (a.1.2 = b.1.1) && decide (p = (a.1.1, b.1.2))
def rightB (hd : List Nat) (h : List Hn) (l : List Stq) (at_ : Nat) : Bool := (l[at_]?).any fun x => okH hd x.1 && whyB hd h l at_ x.1 x.2
def SmW : Why → Prop
  | .more _ s => s.length ≤ 1000
  | _ => True
def Sm (x : Stq) : Prop := x.1.1.length ≤ 1000 ∧ x.1.2.length ≤ 1000 ∧ SmW x.2
/-! ### is_right, is_paper -/
end Kd

namespace Kd
open PySem PySem.Spec PyProof.Rows L2
theorem right_app {hd : List Nat} {h : List Hn} {l l' : List Stq} {i : Nat} (hi : i < l.length) : rightB hd h (l ++ l') i = rightB hd h l i := by
  unfold rightB
  rw [List.getElem?_append_left hi]
  cases e : l[i]? with
  | none => rfl
  | some x =>
    obtain ⟨p, w⟩ := x
    simp only [Option.any_some]
    congr 1
    cases w with
    | own => rfl
    | given k => rfl
    | more j s =>
      simp only [whyB]
      by_cases hj : j < i
      · rw [List.getElem?_append_left (by omega)]
      · simp [hj]
    | on j k =>
      simp only [whyB]
      by_cases hj : j < i
      · by_cases hk : k < i
        · rw [List.getElem?_append_left (by omega), List.getElem?_append_left (by omega)]
        · simp [hk]
      · simp [hj]
structure Pap (hd : List Nat) (h : List Hn) (l : List Stq) : Prop where
  sm : ∀ x ∈ l, Sm x
  right : ∀ i, i < l.length → rightB hd h l i = true
theorem Pap.snoc {hd : List Nat} {h : List Hn} {l : List Stq} {p : Hn} {w : Why} (f : Pap hd h l) (okp : okH hd p = true) (sw : SmW w) (hw : whyB hd h (l ++ [(p, w)]) l.length p w = true) : Pap hd h (l ++ [(p, w)]) := by
  obtain ⟨⟨c1, _⟩, c2, _⟩ := okH_parts okp
  have l1 := c1.len
  have l2 := c2.len
  refine ⟨fun x hx => ?_, fun i hi => ?_⟩
  · rcases List.mem_append.mp hx with z | z
    · exact f.sm x z
    · simp at z
      subst z
      exact ⟨by show p.1.length ≤ 1000; omega, by show p.2.length ≤ 1000; omega, sw⟩
  · by_cases hl : i < l.length
    · rw [right_app hl]
      exact f.right i hl
    · have : i = l.length := by simp at hi; omega
      subst this
      unfold rightB
      rw [List.getElem?_append_right (Nat.le_refl _)]
      simp only [Nat.sub_self, List.getElem?_cons_zero, Option.any_some, okp, hw, Bool.and_self]
/-! ### two_rows -/
end Kd

namespace Kd
open PySem PySem.Spec PyProof.Rows L2
theorem Pap.okp {hd : List Nat} {h : List Hn} {l : List Stq} {i : Nat} {x : Stq} (f : Pap hd h l) (e : l[i]? = some x) : okH hd x.1 = true ∧ whyB hd h l i x.1 x.2 = true := by
  have := f.right i (lt_get e)
  simp only [rightB, e, Option.any_some, Bool.and_eq_true] at this
  exact this
end Kd

namespace Kd
open PySem PySem.Spec PyProof.Rows L2
abbrev Rws := Nat → Nat → Nat
def iD (x : Nat) : D := .int (x : Nat)
def hAt (hd : List Nat) (p : Nat) : Nat := (hd[p]?).getD 0
def rowO (n : Nat) (R : Rws) (k : Nat) : List D := (List.range n).map fun p => iD (R k p)
def beg (hd : List Nat) (sp : List (List Nat)) : Rws := fun k p => if hAt hd p ∈ (sp[k]?).getD [] then 0 else k + 1
def alk (hd : List Nat) (R : Rws) (i j : Nat) (s : List Nat) : Bool := (List.range hd.length).all fun p => !decide (hAt hd p ∈ s) || decide (R i p = R j p)
def mk (hd : List Nat) (R : Rws) (i j : Nat) (s : List Nat) : Rws := fun k p => if hAt hd p ∈ s ∧ R k p = max (R i p) (R j p) then min (R i p) (R j p) else R k p
theorem row_len (n : Nat) (R : Rws) (k : Nat) : (rowO n R k).length = n := by simp [rowO]
theorem row_get {n p : Nat} (R : Rws) (k : Nat) (h : p < n) : (rowO n R k)[p]? = some (iD (R k p)) := by
  unfold rowO
  rw [List.getElem?_map, List.getElem?_range h]
  rfl
structure UpdR (oh : OH) (ns : List Nat) (n : Nat) (F : Rws) (oh' : OH) : Prop where
  len : oh'.length = oh.length
  at_ : ∀ k b : Nat, ns[k]? = some b → oh'[b]? = some (OO.lst (rowO n F k))
  oth : ∀ b : Nat, b ∉ ns → oh'[b]? = oh[b]?
theorem row_congr {n k : Nat} {F G : Rws} (h : ∀ p, p < n → F k p = G k p) : rowO n F k = rowO n G k := by
  unfold rowO
  refine List.map_congr_left fun p hp => ?_
  rw [h p (List.mem_range.mp hp)]
theorem UpdR.congr {oh oh' : OH} {ns : List Nat} {n : Nat} {F G : Rws} (u : UpdR oh ns n F oh') (h : ∀ k p, k < ns.length → p < n → F k p = G k p) : UpdR oh ns n G oh' :=
  ⟨u.len, fun k b e => by rw [u.at_ k b e, row_congr fun p hp => h k p (lt_get e) hp], u.oth⟩
theorem UpdR.set {oh oh' : OH} {ns : List Nat} {n k b p v : Nat} {F : Rws} (nd : ns.Nodup) (u : UpdR oh ns n F oh') (e : ns[k]? = some b) (hp : p < n) :
    UpdR oh ns n (fun k' p' => if k' = k ∧ p' = p then v else F k' p') (oh'.set b (OO.lst ((rowO n F k).set p (iD v)))) := by
  have hb := lt_get (u.at_ k b e)
  refine ⟨by rw [List.length_set, u.len], fun k' b' e' => ?_, fun c hc => ?_⟩
  · by_cases q : k' = k
    · subst q
      rw [e] at e'
      cases e'
      rw [List.getElem?_set_self hb]
      congr 2
      apply List.ext_getElem?
      intro i
      by_cases hi : i < n
      · rw [row_get (fun k'' p' => if k'' = k' ∧ p' = p then v else F k'' p') k' hi]
        by_cases z : p = i
        · subst z
          rw [List.getElem?_set_self (by rw [row_len]; exact hi)]
          simp
        · rw [List.getElem?_set_ne z, row_get F k' hi]
          have : ¬ i = p := fun y => z y.symm
          simp [this]
      · rw [List.getElem?_eq_none (by rw [List.length_set, row_len]; omega), List.getElem?_eq_none (by rw [row_len]; omega)]
    · have nb : b ≠ b' := fun z => by
        subst z
        have h1 := lt_get e
        have h2 := lt_get e'
        rw [List.getElem?_eq_getElem h1] at e
        rw [List.getElem?_eq_getElem h2] at e'
        exact q ((List.getElem_inj nd).mp ((Option.some.inj e').trans (Option.some.inj e).symm))
      rw [List.getElem?_set_ne nb, u.at_ k' b' e']
      congr 2
      exact row_congr fun p' _ => by simp [q]
  · have : b ≠ c := fun z => hc (z ▸ List.mem_of_getElem? e)
    rw [List.getElem?_set_ne this]
    exact u.oth c hc
theorem UpdR.trans {oh oh1 oh2 : OH} {ns : List Nat} {n : Nat} {F G : Rws} (a : UpdR oh ns n F oh1) (b : UpdR oh1 ns n G oh2) : UpdR oh ns n G oh2 :=
  ⟨b.len.trans a.len, b.at_, fun c hc => (b.oth c hc).trans (a.oth c hc)⟩
/-! ### begun -/
end Kd

namespace Kd
open PySem PySem.Spec PyProof.Rows L2
structure RowsAt (oh : OH) (ns : List Nat) (n : Nat) (R : Rws) : Prop where
  at_ : ∀ k b : Nat, ns[k]? = some b → oh[b]? = some (OO.lst (rowO n R k))
theorem UpdR.rows {oh oh' : OH} {ns : List Nat} {n : Nat} {F : Rws} (u : UpdR oh ns n F oh') : RowsAt oh' ns n F := ⟨u.at_⟩
/-! ### made alike -/
end Kd

namespace Kd
open PySem PySem.Spec PyProof.Rows L2
section
variable {hd : List Nat} {h : List Hn} {m : Nat}
theorem alk_iff {R : Rws} {i j : Nat} {s : List Nat} : alk hd R i j s = true ↔ ∀ p, p < hd.length → hAt hd p ∈ s → R i p = R j p := by
  simp only [alk, List.all_eq_true, List.mem_range, Bool.or_eq_true, Bool.not_eq_true', decide_eq_false_iff_not, decide_eq_true_eq]
  exact ⟨fun z p hp hs => (z p hp).elim (fun q => absurd hs q) id, fun z p hp => by
    by_cases q : hAt hd p ∈ s
    · exact .inr (z p hp q)
    · exact .inl q⟩
inductive Run (hd : List Nat) (h : List Hn) (m : Nat) (R0 : Rws) : List (Nat × Nat × Nat) → Rws → Prop
  | nil : Run hd h m R0 [] R0
  | snoc {st : List (Nat × Nat × Nat)} {R : Rws} {k i j : Nat} {q : Hn} : Run hd h m R0 st R → h[k]? = some q → i < j → j < m → alk hd R i j q.1 = true → Run hd h m R0 (st ++ [(k, i, j)]) (mk hd R i j q.2)
def ClosedR (hd : List Nat) (h : List Hn) (m : Nat) (R : Rws) : Prop := ∀ q ∈ h, ∀ i j, i < j → j < m → alk hd R i j q.1 = true → alk hd R i j q.2 = true
def Whole (h : List Hn) (hd : List Nat) (sp : List (List Nat)) : Prop := ∀ (F : List Nat → Nat → Nat) (t : Nat → Nat), (∀ w ∈ sp, ∀ c ∈ w, F w c = t c) →
  (∀ p ∈ h, ∀ u ∈ sp, ∀ v ∈ sp, (∀ c ∈ p.1, F u c = F v c) → ∀ c ∈ p.2, F u c = F v c) → ∃ w ∈ sp, ∀ c ∈ hd, F w c = t c
variable {sp : List (List Nat)}
theorem mk_le {R : Rws} {i j k p : Nat} {s : List Nat} : mk hd R i j s k p ≤ R k p := by
  unfold mk
  split
  · omega
  · exact Nat.le_refl _
theorem run_bd {R0 R : Rws} {st : List (Nat × Nat × Nat)} (r : Run hd h m R0 st R) : ∀ k p, R k p ≤ R0 k p := by
  induction r with
  | nil => exact fun _ _ => Nat.le_refl _
  | snoc _ _ _ _ _ ih => exact fun k p => Nat.le_trans mk_le (ih k p)
theorem beg_le (k p : Nat) : beg hd sp k p ≤ k + 1 := by
  unfold beg
  split <;> omega
theorem run_zero {R : Rws} {st : List (Nat × Nat × Nat)} (r : Run hd h m (beg hd sp) st R) {k p : Nat} {w : List Nat} (e : sp[k]? = some w) (hw : hAt hd p ∈ w) : R k p = 0 := by
  have := run_bd r k p
  have z : beg hd sp k p = 0 := by simp [beg, e, hw]
  omega
theorem hAt_mem {p : Nat} (hp : p < hd.length) : hAt hd p ∈ hd := by
  simp [hAt, List.getElem?_eq_getElem hp]
theorem mem_hAt {c : Nat} (hc : c ∈ hd) : ∃ p, p < hd.length ∧ hAt hd p = c := by
  obtain ⟨p, hp, e⟩ := List.getElem_of_mem hc
  exact ⟨p, hp, by simp [hAt, List.getElem?_eq_getElem hp, e]⟩
def phi (hd : List Nat) (sp : List (List Nat)) (F : List Nat → Nat → Nat) (t : Nat → Nat) (p v : Nat) : Nat := if v = 0 then t (hAt hd p) else F ((sp[v - 1]?).getD []) (hAt hd p)
theorem run_hom {R : Rws} {st : List (Nat × Nat × Nat)} {F : List Nat → Nat → Nat} {t : Nat → Nat} (hin : ∀ q ∈ h, ∀ c ∈ q.1, c ∈ hd) (r : Run hd h sp.length (beg hd sp) st R) (ag : ∀ w ∈ sp, ∀ c ∈ w, F w c = t c)
    (sat : ∀ p ∈ h, ∀ u ∈ sp, ∀ v ∈ sp, (∀ c ∈ p.1, F u c = F v c) → ∀ c ∈ p.2, F u c = F v c) : ∀ k p, k < sp.length → p < hd.length → phi hd sp F t p (R k p) = F ((sp[k]?).getD []) (hAt hd p) := by
  induction r with
  | nil =>
    intro k p hk hp
    have ek := List.getElem?_eq_getElem hk
    unfold beg phi
    rw [ek]
    by_cases z : hAt hd p ∈ sp[k]
    · simp only [Option.getD_some, z, if_true]
      exact (ag _ (List.getElem_mem hk) _ z).symm
    · simp [z, ek]
  | @snoc st R k0 i j q r e ij jm al ih =>
    intro k p hk hp
    have hi : i < sp.length := by omega
    have ei := List.getElem?_eq_getElem hi
    have ej := List.getElem?_eq_getElem jm
    have qm := List.mem_of_getElem? e
    have same := sat q qm sp[i] (List.getElem_mem hi) sp[j] (List.getElem_mem jm) fun c hc => by
      obtain ⟨p', hp', rfl⟩ := mem_hAt (hin q qm c hc)
      have h1 := ih i p' hi hp'
      have h2 := ih j p' jm hp'
      rw [alk_iff.mp al p' hp' hc, h2, ei, ej] at h1
      exact h1.symm
    unfold mk
    split
    · rename_i z
      obtain ⟨z1, z2⟩ := z
      have h1 := ih i p hi hp
      have h2 := ih j p jm hp
      rw [ei] at h1
      rw [ej] at h2
      have s2 := same _ z1
      simp only [Option.getD_some] at h1 h2
      have hk' := ih k p hk hp
      rw [z2] at hk'
      rcases Nat.le_total (R i p) (R j p) with y | y
      · rw [Nat.max_eq_right y] at hk'
        rw [Nat.min_eq_left y, h1, s2, ← h2, hk']
      · rw [Nat.max_eq_left y] at hk'
        rw [Nat.min_eq_right y, h2, ← s2, ← h1, hk']
    · exact ih k p hk hp
theorem alk_comm {R : Rws} {i j : Nat} {s : List Nat} : alk hd R i j s = alk hd R j i s := by
  rw [Bool.eq_iff_iff, alk_iff, alk_iff]
  exact ⟨fun z p hp hs => (z p hp hs).symm, fun z p hp hs => (z p hp hs).symm⟩
theorem idx_hAt {p : Nat} (nd : hd.Nodup) (hp : p < hd.length) : hd.idxOf (hAt hd p) = p := by
  have hl := List.idxOf_lt_length_iff.mpr (hAt_mem hp)
  have h3 : hd[hd.idxOf (hAt hd p)]'hl = hd[p] := by
    have e : hAt hd p = hd[p] := by simp [hAt, List.getElem?_eq_getElem hp]
    have := List.getElem_idxOf hl
    rw [this, e]
  exact (List.getElem_inj nd).mp h3
theorem ris_nd {sp : List (List Nat)} (r : sp.Pairwise (· < ·)) : sp.Nodup := lt_nodup r
end
end Kd

namespace Kd
open PySem PySem.Spec PyProof.Rows L2
/-! ### frozen rows -/
/-! ### fill -/
/-! ### has_noughts, is_whole -/
end Kd

namespace Kd
open PySem PySem.Spec PyProof.Rows L2
def Agr (sp : List (List Nat)) (F : List Nat → Nat → Nat) (t : Nat → Nat) : Prop := ∀ w ∈ sp, ∀ c ∈ w, F w c = t c
def Sat (h : List Hn) (sp : List (List Nat)) (F : List Nat → Nat → Nat) : Prop := ∀ p ∈ h, ∀ u ∈ sp, ∀ v ∈ sp, (∀ c ∈ p.1, F u c = F v c) → ∀ c ∈ p.2, F u c = F v c
section
variable {h : List Hn} {hd : List Nat} {sp sp' : List (List Nat)}
theorem Whole.by (wh : Whole h hd sp) (hyp : ∀ F t, Agr sp' F t → Sat h sp' F → ∀ w ∈ sp, ∃ w' ∈ sp', ∀ c ∈ w, F w' c = t c) : Whole h hd sp' := fun F t ag st => by
  have H := hyp F t ag st
  let G : List Nat → List Nat := fun w => if hw : w ∈ sp then Classical.choose (H w hw) else []
  have hG : ∀ w ∈ sp, G w ∈ sp' ∧ ∀ c ∈ w, F (G w) c = t c := fun w hw => by
    have := Classical.choose_spec (H w hw)
    simp only [G, hw, dif_pos]
    exact this
  obtain ⟨w, hw, z⟩ := wh (fun w => F (G w)) t (fun w hw c hc => (hG w hw).2 c hc) (fun p hp u hu v hv al => st p hp (G u) (hG u hu).1 (G v) (hG v hv).1 al)
  exact ⟨G w, (hG w hw).1, z⟩
theorem Whole.one : Whole h hd [hd] := fun F t ag _ => ⟨hd, by simp, ag hd (by simp)⟩
end
/-! ### sets that lie in no other -/
end Kd

namespace Kd
open PySem PySem.Spec PyProof.Rows L2
section
variable {h : List Hn} {w bad : List Nat}
end
end Kd

namespace Kd
open PySem PySem.Spec PyProof.Rows L2
section
variable {hd : List Nat} {h : List Hn} {m : Nat} {R0 : Rws}
end
end Kd

namespace Kd
open PySem PySem.Spec PyProof.Rows L2
/-! ### what is filled is told by the beginning alone -/
section
variable {hd : List Nat} {h : List Hn} {sp : List (List Nat)}
theorem fill_le {R R' : Rws} {st st' : List (Nat × Nat × Nat)} (ok : BookOk hd h) (oks : SplitOk hd sp) (r : Run hd h sp.length (beg hd sp) st R) (r' : Run hd h sp.length (beg hd sp) st' R') (cl' : ClosedR hd h sp.length R') : ∀ k p, k < sp.length → p < hd.length → R' k p ≤ R k p := by
  have ndh := cs_nodup oks.cs
  have nds := ris_nd oks.ris
  have hin : ∀ q ∈ h, (∀ c ∈ q.1, c ∈ hd) ∧ ∀ c ∈ q.2, c ∈ hd := fun q hq => by
    obtain ⟨⟨_, i1⟩, _, i2⟩ := okH_parts (ok.each q hq)
    exact ⟨insB_iff.mp i1, insB_iff.mp i2⟩
  have ic : ∀ {c : Nat}, c ∈ hd → hd.idxOf c < hd.length ∧ hAt hd (hd.idxOf c) = c := fun hc => by
    have hl := List.idxOf_lt_length_iff.mpr hc
    exact ⟨hl, by simp [hAt, List.getElem?_eq_getElem hl]⟩
  have iw : ∀ {w : List Nat}, w ∈ sp → ∃ hl : sp.idxOf w < sp.length, sp[sp.idxOf w]? = some w := fun hw => by
    have hl := List.idxOf_lt_length_iff.mpr hw
    exact ⟨hl, by rw [List.getElem?_eq_getElem hl]; simp⟩
  have ik : ∀ k, ∀ hk : k < sp.length, sp.idxOf (sp[k]'hk) = k := fun k hk => by
    have hl := List.idxOf_lt_length_iff.mpr (List.getElem_mem hk)
    exact (List.getElem_inj nds).mp (List.getElem_idxOf hl)
  have hom := run_hom (F := fun w c => R' (sp.idxOf w) (hd.idxOf c)) (t := fun _ => 0) (fun q hq => (hin q hq).1) r (fun w hw c hc => by
      obtain ⟨_, e⟩ := iw hw
      have hch := (oks.each w hw).1.subset hc
      exact run_zero r' e (by rw [(ic hch).2]; exact hc)) (fun q hq u hu v hv al c hc => by
      obtain ⟨lu, _⟩ := iw hu
      obtain ⟨lv, _⟩ := iw hv
      have a1 : alk hd R' (sp.idxOf u) (sp.idxOf v) q.1 = true := alk_iff.mpr fun p hp hs => by
        have := al _ hs
        rw [idx_hAt ndh hp] at this
        exact this
      have a2 : alk hd R' (sp.idxOf u) (sp.idxOf v) q.2 = true := by
        rcases Nat.lt_trichotomy (sp.idxOf u) (sp.idxOf v) with y | y | y
        · exact cl' q hq _ _ y lv a1
        · rw [y]
          exact alk_iff.mpr fun _ _ _ => rfl
        · rw [alk_comm] at a1 ⊢
          exact cl' q hq _ _ y lu a1
      have hch := (hin q hq).2 c hc
      exact alk_iff.mp a2 _ (ic hch).1 (by rw [(ic hch).2]; exact hc))
  intro k p hk hp
  have e := hom k p hk hp
  have ek := List.getElem?_eq_getElem hk
  have lhs : R' (sp.idxOf ((sp[k]?).getD [])) (hd.idxOf (hAt hd p)) = R' k p := by
    simp only [ek, Option.getD_some, idx_hAt ndh hp, ik k hk]
  rw [lhs] at e
  rw [← e]
  unfold phi
  by_cases z : R k p = 0
  · simp [z]
  · rw [if_neg z]
    have b1 := Nat.le_trans (run_bd r k p) (beg_le (hd := hd) (sp := sp) k p)
    have hv : R k p - 1 < sp.length := by omega
    have ev := List.getElem?_eq_getElem hv
    simp only [ev, Option.getD_some, idx_hAt ndh hp, ik _ hv]
    have := Nat.le_trans (run_bd r' (R k p - 1) p) (beg_le (hd := hd) (sp := sp) (R k p - 1) p)
    omega
theorem fill_one {R R' : Rws} {st st' : List (Nat × Nat × Nat)} (ok : BookOk hd h) (oks : SplitOk hd sp) (r : Run hd h sp.length (beg hd sp) st R) (cl : ClosedR hd h sp.length R) (r' : Run hd h sp.length (beg hd sp) st' R') (cl' : ClosedR hd h sp.length R') : ∀ k p, k < sp.length → p < hd.length → R k p = R' k p :=
  fun k p hk hp => Nat.le_antisymm (fill_le ok oks r' r cl k p hk hp) (fill_le ok oks r r' cl' k p hk hp)
end
def rowsT (m n : Nat) (R : Rws) : List D := (List.range m).map fun k => .tuple (rowO n R k)
theorem rowsT_congr {m n : Nat} {R R' : Rws} (h : ∀ k p, k < m → p < n → R k p = R' k p) : rowsT m n R = rowsT m n R' := by
  unfold rowsT
  refine List.map_congr_left fun k hk => ?_
  rw [row_congr fun p hp => h k p (List.mem_range.mp hk) hp]
def Fld (hd : List Nat) (h : List Hn) (sp : List (List Nat)) (R : Rws) : Prop := ∃ st, Run hd h sp.length (beg hd sp) st R ∧ ClosedR hd h sp.length R
theorem Fld.same {hd : List Nat} {h : List Hn} {sp : List (List Nat)} {R R' : Rws} (ok : BookOk hd h) (oks : SplitOk hd sp) (a : Fld hd h sp R) (b : Fld hd h sp R') : rowsT sp.length hd.length R = rowsT sp.length hd.length R' := by
  obtain ⟨st, r, c⟩ := a
  obtain ⟨st', r', c'⟩ := b
  exact rowsT_congr (fill_one ok oks r c r' c')
/-! ### the laws' defs -/
end Kd

namespace Kd
open PySem PySem.Spec PyProof.Rows L2
end Kd

namespace Kd
open PySem PySem.Spec PyProof.Rows L2
end Kd

namespace Kd
open PySem PySem.Spec PyProof.Rows L2
theorem addP_len (ps : List TxP) : ∀ l : List TxP, (ps.foldl addP l).length ≤ l.length + ps.length := by
  induction ps with
  | nil => intro l; simp
  | cons x ps ih =>
    intro l
    have h1 := ih (addP l x)
    have h2 : (addP l x).length ≤ l.length + 1 := by
      unfold addP
      split
      · omega
      · simp
    simp only [List.foldl_cons, List.length_cons]
    omega
def inP (p : Hn) : TxP := (⟨p.1.toArray⟩, ⟨p.2.toArray⟩)
def ofP (p : TxP) : Hn := (p.1.cps.toList, p.2.cps.toList)
theorem in_of (p : TxP) : inP (ofP p) = p := by
  obtain ⟨⟨a⟩, ⟨b⟩⟩ := p
  rfl
theorem set_pairs (l : List Hn) (hl : l.length < 64) : ∃ m : List Hn, some (sortD ((dedP (l.map inP)).map pD)) = some (m.map hp) ∧ m.Pairwise (fun a b => leP a b = true) ∧ m.Nodup ∧ (∀ x, x ∈ m ↔ x ∈ l) ∧ m.length ≤ l.length := by
  have pm := List.mergeSort_perm ((dedP (l.map inP)).map ofP) leP
  refine ⟨((dedP (l.map inP)).map ofP).mergeSort leP, ?_, List.pairwise_mergeSort leP_trans leP_total _, ?_, fun x => ?_, ?_⟩
  · rw [← sort_hp, List.map_map]
    congr 2
  · refine pm.nodup_iff.mpr (List.pairwise_map.mpr ((dedP_nd _).imp fun hne e => hne ?_))
    have z := congrArg inP e
    rwa [in_of, in_of] at z
  · rw [pm.mem_iff, List.mem_map]
    constructor
    · rintro ⟨y, hy, rfl⟩
      obtain ⟨z, hz, rfl⟩ := List.mem_map.mp (mem_dedP.mp hy)
      exact hz
    · intro hx
      exact ⟨inP x, mem_dedP.mpr (List.mem_map.mpr ⟨x, hx, rfl⟩), rfl⟩
  · rw [pm.length_eq, List.length_map]
    have := addP_len (l.map inP) []
    rw [List.length_map] at this
    simpa [dedP] using this
theorem ps_hp (l : List Hn) : psOf (l.map hp) = some (l.map inP) := by
  have h := ps_map (l.map inP)
  rw [List.map_map] at h
  exact h
theorem set_HG (l : List Hn) (hl : l.length < 64) : ∃ m : List Hn, sortSD (HG l) = some (m.map hp) ∧ m.Pairwise (fun a b => leP a b = true) ∧ m.Nodup ∧ (∀ x, x ∈ m ↔ x ∈ l) ∧ m.length ≤ l.length := by
  cases l with
  | nil => exact ⟨[], (by simp [sortSD, HG, setStrs, strsOf, dedS, sortD]), .nil, .nil, fun x => Iff.rfl, Nat.le_refl _⟩
  | cons a l =>
    have e : sortSD (HG (a :: l)) = some (sortD ((dedP ((a :: l).map inP)).map pD)) := by
      have e1 : setStrs (HG (a :: l)) = none := rfl
      have e2 : setPairs (HG (a :: l)) = some ((a :: l).map inP) := ps_hp (a :: l)
      unfold sortSD
      rw [e1]
      simp only
      rw [e2]
      simp only
      rw [if_pos (by rw [List.length_map]; exact hl)]
    rw [e]
    exact set_pairs (a :: l) hl
theorem set_book {hd : List Nat} {l m : List Hn} (cs : IsCS hd) (ne : hd ≠ []) (hl : l.length ≤ 12) (ho : ∀ p ∈ l, okH hd p = true) (pw : m.Pairwise (fun a b => leP a b = true)) (nd : m.Nodup) (hm : ∀ x, x ∈ m ↔ x ∈ l) (hn : m.length ≤ l.length) : BookOk hd m :=
  ⟨cs, ne, by omega, fun p hp => ho p ((hm p).mp hp), ris_of _ pw nd⟩
theorem okH_two {hd : List Nat} {a b : List Nat} (cs : IsCS hd) (ha : a.Sublist hd) (hb : b.Sublist hd) : okH hd (a, b) = true := by
  simp only [okH, List.all_cons, List.all_nil, Bool.and_true, Bool.and_eq_true, decide_eq_true_eq]
  exact ⟨⟨(sub_cs cs ha).symm, sub_ins ha⟩, ⟨(sub_cs cs hb).symm, sub_ins hb⟩⟩
end Kd

namespace Kd.K08
open PySem PySem.Spec PyProof.Rows L2
def c_law_1 : CB := .cons (.ret (.cst (.bool true))) .nil
def c_law_15 : CB := .cons (.ife (.not (.val (.call "_law_same" (.cons (.call "follows" (.cons (.var 3) (.cons (.tup (.cons (.var 11) (.cons (.var 12) .nil))) .nil))) (.cons (.call "_law_due" (.cons (.var 4) (.cons (.tup (.cons (.var 11) (.cons (.var 12) .nil))) .nil))) .nil))))) (.cons (.ret (.cst (.bool false))) .nil) .nil) .nil
def c_law_14 : CB := .cons (.ife (.val (.cmp .NotEq (.var 14) (.lst .nil))) (.cons (.ret (.cst (.bool false))) .nil) .nil) c_law_15
def c_law_13 : CB := .cons (.asg false 14 (.lc [("_law_one", 15)] (.nm 15) (.of (.bin .Add (.var 7) (.tup (.cons (.tup (.cons (.var 11) (.cons (.var 12) .nil))) .nil)))) (.val (.cmp .IsNot (.call "follows" (.cons (.var 13) (.cons (.var 15) .nil))) (.cst (.bool true)))) (.var 15))) c_law_14
def c_law_12 : CB := .cons (.asg false 13 (.tup (.cons (.var 6) (.cons (.bi .tuple (.cons (.srtS (.bin .Add (.var 7) (.tup (.cons (.tup (.cons (.var 11) (.cons (.var 12) .nil))) .nil)))) .nil)) .nil)))) c_law_13
def c_law_11 : CB := .cons (.ife (.val (.cmp .Lt (.bi .len (.cons (.var 7) .nil)) (.cst (.int 12)))) c_law_12 .nil) .nil
def c_law_16 : CB := .cons (.ife (.not (.val (.call "_law_same" (.cons (.call "follows" (.cons (.var 3) (.cons (.var 9) .nil))) (.cons (.call "_law_due" (.cons (.var 4) (.cons (.var 9) .nil))) .nil))))) (.cons (.ret (.cst (.bool false))) .nil) .nil) .nil
def c_law_10 : CB := .cons (.for_ (.nm 9) (.of (.lst (.cons (.tup (.cons (.var 11) (.cons (.var 12) .nil))) (.cons (.tup (.cons (.var 11) (.cons (.var 8) .nil))) (.cons (.tup (.cons (.var 12) (.cons (.var 11) .nil))) (.cons (.tup (.cons (.var 11) (.cons (.var 6) .nil))) .nil)))))) c_law_16) c_law_11
def c_law_9 : CB := .cons (.asg false 8 (.me .join (.cst (.str "")) (.cons (.lc [("_law_column", 16)] (.nm 16) (.of (.var 12)) (.val (.cmp .In (.var 16) (.var 11))) (.var 16)) .nil))) c_law_10
def c_law_8 : CB := .cons (.unp (.cons (.nm 11) (.cons (.nm 12) .nil)) (.tup (.cons (.call "_law_pick" (.cons (.var 2) (.cons (.var 6) .nil))) (.cons (.call "_law_pick" (.cons (.var 2) (.cons (.var 6) .nil))) .nil)))) c_law_9
def c_law_7 : CB := .cons (.for_ (.nm 5) (.rng (.cons (.cst (.int 6)) .nil)) c_law_8) .nil
def c_law_6 : CB := .cons (.ife (.val (.cmp .NotEq (.lc [("_law_one", 15)] (.nm 15) (.of (.var 7)) (.val (.cmp .IsNot (.call "follows" (.cons (.var 3) (.cons (.var 15) .nil))) (.cst (.bool true)))) (.var 15)) (.lst .nil))) (.cons (.ret (.cst (.bool false))) .nil) .nil) c_law_7
def c_law_5 : CB := .cons (.asg false 4 (.lc [("_law_some", 10)] (.nm 10) (.of (.call "_law_sets" (.cons (.var 6) .nil))) (.val (.cmp .Eq (.call "_law_cover" (.cons (.var 7) (.cons (.var 10) .nil))) (.var 10))) (.var 10))) c_law_6
def c_law_4 : CB := .cons (.unp (.cons (.nm 6) (.cons (.nm 7) .nil)) (.var 3)) c_law_5
def c_law_3 : CB := .cons (.asg false 3 (.call "_law_book" (.cons (.var 2) .nil))) c_law_4
def c_law_2 : CB := .cons (.asg true 2 (.call "_law_state" (.cons (.var 0) (.cons (.var 1) .nil)))) c_law_3
def c_law : CB := .cons (.for_ (.nm 1) (.rng (.cons (.bi .max (.cons (.cst (.int 1)) (.cons (.bi .min (.cons (.bi .len (.cons (.var 0) .nil)) (.cons (.cst (.int 6)) .nil))) .nil))) .nil)) c_law_2) c_law_1
def dueB (l : List (List Nat)) (p : Hn) : Bool := decide ((l.filter fun s => insB p.1 s && !insB p.2 s) = [])
def S_due : FSpec := fun rs oh Q _ => ∃ l p, rs = [.d (.list (l.map T)), .d (hp p)] ∧ Q (.d (.bool (dueB l p))) oh
theorem w_due (Γ : Gv) (g1 : Γ.fn "_law_lies" = some S_lies) (rs : List Vl) (oh : OH) (Q : QV) (E : QX) (h : S_due rs oh Q E) : fnW Γ 3 c__law_due_k08 rs oh Q E := by
  obtain ⟨l, p, rfl, q⟩ := h
  (try simp only [fnW_eq, fnD_nx, fnD_rt, seq_nx, seq_rt, seq_rtF, loop_rtF, seq_bk, seq_ct, loop_nx, loop_rt, loop_bk, loop_ct, wB_cons, wB_nil, wS_asgO, wS_asg, wS_unp, wS_par, wS_parc, wS_sset, wS_sps, wS_exp, wS_ret, wS_retN, wS_ife, wS_pas, wS_brk, wS_cnt, wE, wNs, wAs, wT, wI, wP, norm_d, store_d, vdat_d, norm_new, store_new, norm_newS, store_newS, fin_sh, fin_lst, fresh_lst, walk_d, it_T, it_list, it_tuple, seq_T, seq_list, seq_tuple, seqAll, zipN2, zipN3, bind1, bind2, bind3, wipeS, setAll, seeAll, tru_bool, retv_d, take_all, ex_some,
  List.map_cons, List.map_nil, List.length_cons, List.length_nil, List.cons_append, List.nil_append, List.replicate, List.getElem?_cons_zero, List.getElem?_cons_succ, List.set_cons_zero, List.set_cons_succ, Option.some.injEq, exists_eq_left', exists_eq_left, exists_eq_right, true_and, and_true,
  Nat.reduceAdd, Nat.reduceSub, OO.dat, cmp_in, cmp_notin, exists_and_left, reduceIte, reduceCtorEq, if_true, if_false, Bool.false_eq_true, Vl.d.injEq, PyData.int.injEq, PyData.bool.injEq, PyData.str.injEq, Bool.not_true, Bool.not_false, cmp_lt, cmp_gt, cmp_le, cmp_ge, cmp_eq, cmp_ne, len_tup, len_lst, len_txt, ix_0, ix_1, ix_l0, ix_l1, ix_l2, bin_add, bin_sub, set_l0, set_l1, set_l2, live_lst, max_int, min_int, take_set, take_snoc, List.set_set, List.length_set, Vl.o.injEq, eq_self, decide_true, decide_false, Int.reduceLT, Int.reduceEq, Int.cast_ofNat_Int, Nat.zero_add, c__law_due_k08])
  refine lc_fm (fun s => insB p.1 s && !insB p.2 s) T trivial (fun s hs k hk => ?_) ?_
  · (try simp only [fnW_eq, fnD_nx, fnD_rt, seq_nx, seq_rt, seq_rtF, loop_rtF, seq_bk, seq_ct, loop_nx, loop_rt, loop_bk, loop_ct, wB_cons, wB_nil, wS_asgO, wS_asg, wS_unp, wS_par, wS_parc, wS_sset, wS_sps, wS_exp, wS_ret, wS_retN, wS_ife, wS_pas, wS_brk, wS_cnt, wE, wNs, wAs, wT, wI, wP, norm_d, store_d, vdat_d, norm_new, store_new, norm_newS, store_newS, fin_sh, fin_lst, fresh_lst, walk_d, it_T, it_list, it_tuple, seq_T, seq_list, seq_tuple, seqAll, zipN2, zipN3, bind1, bind2, bind3, wipeS, setAll, seeAll, tru_bool, retv_d, take_all, ex_some,
  List.map_cons, List.map_nil, List.length_cons, List.length_nil, List.cons_append, List.nil_append, List.replicate, List.getElem?_cons_zero, List.getElem?_cons_succ, List.set_cons_zero, List.set_cons_succ, Option.some.injEq, exists_eq_left', exists_eq_left, exists_eq_right, true_and, and_true,
  Nat.reduceAdd, Nat.reduceSub, OO.dat, cmp_in, cmp_notin, exists_and_left, reduceIte, reduceCtorEq, if_true, if_false, Bool.false_eq_true, Vl.d.injEq, PyData.int.injEq, PyData.bool.injEq, PyData.str.injEq, Bool.not_true, Bool.not_false, cmp_lt, cmp_gt, cmp_le, cmp_ge, cmp_eq, cmp_ne, len_tup, len_lst, len_txt, ix_0, ix_1, ix_l0, ix_l1, ix_l2, bin_add, bin_sub, set_l0, set_l1, set_l2, live_lst, max_int, min_int, take_set, take_snoc, List.set_set, List.length_set, Vl.o.injEq, eq_self, decide_true, decide_false, Int.reduceLT, Int.reduceEq, Int.cast_ofNat_Int, Nat.zero_add, hp_ix0])
    refine ⟨_, g1, p.1, s, rfl, ?_⟩
    cases e1 : insB p.1 s
    · simp only [e1, Bool.false_and, Bool.false_eq_true, if_false] at hk
      (try simp only [fnW_eq, fnD_nx, fnD_rt, seq_nx, seq_rt, seq_rtF, loop_rtF, seq_bk, seq_ct, loop_nx, loop_rt, loop_bk, loop_ct, wB_cons, wB_nil, wS_asgO, wS_asg, wS_unp, wS_par, wS_parc, wS_sset, wS_sps, wS_exp, wS_ret, wS_retN, wS_ife, wS_pas, wS_brk, wS_cnt, wE, wNs, wAs, wT, wI, wP, norm_d, store_d, vdat_d, norm_new, store_new, norm_newS, store_newS, fin_sh, fin_lst, fresh_lst, walk_d, it_T, it_list, it_tuple, seq_T, seq_list, seq_tuple, seqAll, zipN2, zipN3, bind1, bind2, bind3, wipeS, setAll, seeAll, tru_bool, retv_d, take_all, ex_some,
  List.map_cons, List.map_nil, List.length_cons, List.length_nil, List.cons_append, List.nil_append, List.replicate, List.getElem?_cons_zero, List.getElem?_cons_succ, List.set_cons_zero, List.set_cons_succ, Option.some.injEq, exists_eq_left', exists_eq_left, exists_eq_right, true_and, and_true,
  Nat.reduceAdd, Nat.reduceSub, OO.dat, cmp_in, cmp_notin, exists_and_left, reduceIte, reduceCtorEq, if_true, if_false, Bool.false_eq_true, Vl.d.injEq, PyData.int.injEq, PyData.bool.injEq, PyData.str.injEq, Bool.not_true, Bool.not_false, cmp_lt, cmp_gt, cmp_le, cmp_ge, cmp_eq, cmp_ne, len_tup, len_lst, len_txt, ix_0, ix_1, ix_l0, ix_l1, ix_l2, bin_add, bin_sub, set_l0, set_l1, set_l2, live_lst, max_int, min_int, take_set, take_snoc, List.set_set, List.length_set, Vl.o.injEq, eq_self, decide_true, decide_false, Int.reduceLT, Int.reduceEq, Int.cast_ofNat_Int, Nat.zero_add])
      exact hk
    · (try simp only [fnW_eq, fnD_nx, fnD_rt, seq_nx, seq_rt, seq_rtF, loop_rtF, seq_bk, seq_ct, loop_nx, loop_rt, loop_bk, loop_ct, wB_cons, wB_nil, wS_asgO, wS_asg, wS_unp, wS_par, wS_parc, wS_sset, wS_sps, wS_exp, wS_ret, wS_retN, wS_ife, wS_pas, wS_brk, wS_cnt, wE, wNs, wAs, wT, wI, wP, norm_d, store_d, vdat_d, norm_new, store_new, norm_newS, store_newS, fin_sh, fin_lst, fresh_lst, walk_d, it_T, it_list, it_tuple, seq_T, seq_list, seq_tuple, seqAll, zipN2, zipN3, bind1, bind2, bind3, wipeS, setAll, seeAll, tru_bool, retv_d, take_all, ex_some,
  List.map_cons, List.map_nil, List.length_cons, List.length_nil, List.cons_append, List.nil_append, List.replicate, List.getElem?_cons_zero, List.getElem?_cons_succ, List.set_cons_zero, List.set_cons_succ, Option.some.injEq, exists_eq_left', exists_eq_left, exists_eq_right, true_and, and_true,
  Nat.reduceAdd, Nat.reduceSub, OO.dat, cmp_in, cmp_notin, exists_and_left, reduceIte, reduceCtorEq, if_true, if_false, Bool.false_eq_true, Vl.d.injEq, PyData.int.injEq, PyData.bool.injEq, PyData.str.injEq, Bool.not_true, Bool.not_false, cmp_lt, cmp_gt, cmp_le, cmp_ge, cmp_eq, cmp_ne, len_tup, len_lst, len_txt, ix_0, ix_1, ix_l0, ix_l1, ix_l2, bin_add, bin_sub, set_l0, set_l1, set_l2, live_lst, max_int, min_int, take_set, take_snoc, List.set_set, List.length_set, Vl.o.injEq, eq_self, decide_true, decide_false, Int.reduceLT, Int.reduceEq, Int.cast_ofNat_Int, Nat.zero_add, hp_ix1])
      refine ⟨_, g1, p.2, s, rfl, ?_⟩
      cases e2 : insB p.2 s
      · simp only [e1, e2, Bool.not_false, Bool.and_true, if_true] at hk
        (try simp only [fnW_eq, fnD_nx, fnD_rt, seq_nx, seq_rt, seq_rtF, loop_rtF, seq_bk, seq_ct, loop_nx, loop_rt, loop_bk, loop_ct, wB_cons, wB_nil, wS_asgO, wS_asg, wS_unp, wS_par, wS_parc, wS_sset, wS_sps, wS_exp, wS_ret, wS_retN, wS_ife, wS_pas, wS_brk, wS_cnt, wE, wNs, wAs, wT, wI, wP, norm_d, store_d, vdat_d, norm_new, store_new, norm_newS, store_newS, fin_sh, fin_lst, fresh_lst, walk_d, it_T, it_list, it_tuple, seq_T, seq_list, seq_tuple, seqAll, zipN2, zipN3, bind1, bind2, bind3, wipeS, setAll, seeAll, tru_bool, retv_d, take_all, ex_some,
  List.map_cons, List.map_nil, List.length_cons, List.length_nil, List.cons_append, List.nil_append, List.replicate, List.getElem?_cons_zero, List.getElem?_cons_succ, List.set_cons_zero, List.set_cons_succ, Option.some.injEq, exists_eq_left', exists_eq_left, exists_eq_right, true_and, and_true,
  Nat.reduceAdd, Nat.reduceSub, OO.dat, cmp_in, cmp_notin, exists_and_left, reduceIte, reduceCtorEq, if_true, if_false, Bool.false_eq_true, Vl.d.injEq, PyData.int.injEq, PyData.bool.injEq, PyData.str.injEq, Bool.not_true, Bool.not_false, cmp_lt, cmp_gt, cmp_le, cmp_ge, cmp_eq, cmp_ne, len_tup, len_lst, len_txt, ix_0, ix_1, ix_l0, ix_l1, ix_l2, bin_add, bin_sub, set_l0, set_l1, set_l2, live_lst, max_int, min_int, take_set, take_snoc, List.set_set, List.length_set, Vl.o.injEq, eq_self, decide_true, decide_false, Int.reduceLT, Int.reduceEq, Int.cast_ofNat_Int, Nat.zero_add])
        exact hk
      · simp only [e1, e2, Bool.not_true, Bool.and_false, Bool.false_eq_true, if_false] at hk
        (try simp only [fnW_eq, fnD_nx, fnD_rt, seq_nx, seq_rt, seq_rtF, loop_rtF, seq_bk, seq_ct, loop_nx, loop_rt, loop_bk, loop_ct, wB_cons, wB_nil, wS_asgO, wS_asg, wS_unp, wS_par, wS_parc, wS_sset, wS_sps, wS_exp, wS_ret, wS_retN, wS_ife, wS_pas, wS_brk, wS_cnt, wE, wNs, wAs, wT, wI, wP, norm_d, store_d, vdat_d, norm_new, store_new, norm_newS, store_newS, fin_sh, fin_lst, fresh_lst, walk_d, it_T, it_list, it_tuple, seq_T, seq_list, seq_tuple, seqAll, zipN2, zipN3, bind1, bind2, bind3, wipeS, setAll, seeAll, tru_bool, retv_d, take_all, ex_some,
  List.map_cons, List.map_nil, List.length_cons, List.length_nil, List.cons_append, List.nil_append, List.replicate, List.getElem?_cons_zero, List.getElem?_cons_succ, List.set_cons_zero, List.set_cons_succ, Option.some.injEq, exists_eq_left', exists_eq_left, exists_eq_right, true_and, and_true,
  Nat.reduceAdd, Nat.reduceSub, OO.dat, cmp_in, cmp_notin, exists_and_left, reduceIte, reduceCtorEq, if_true, if_false, Bool.false_eq_true, Vl.d.injEq, PyData.int.injEq, PyData.bool.injEq, PyData.str.injEq, Bool.not_true, Bool.not_false, cmp_lt, cmp_gt, cmp_le, cmp_ge, cmp_eq, cmp_ne, len_tup, len_lst, len_txt, ix_0, ix_1, ix_l0, ix_l1, ix_l2, bin_add, bin_sub, set_l0, set_l1, set_l2, live_lst, max_int, min_int, take_set, take_snoc, List.set_set, List.length_set, Vl.o.injEq, eq_self, decide_true, decide_false, Int.reduceLT, Int.reduceEq, Int.cast_ofNat_Int, Nat.zero_add])
        exact hk
  · (try simp only [fnW_eq, fnD_nx, fnD_rt, seq_nx, seq_rt, seq_rtF, loop_rtF, seq_bk, seq_ct, loop_nx, loop_rt, loop_bk, loop_ct, wB_cons, wB_nil, wS_asgO, wS_asg, wS_unp, wS_par, wS_parc, wS_sset, wS_sps, wS_exp, wS_ret, wS_retN, wS_ife, wS_pas, wS_brk, wS_cnt, wE, wNs, wAs, wT, wI, wP, norm_d, store_d, vdat_d, norm_new, store_new, norm_newS, store_newS, fin_sh, fin_lst, fresh_lst, walk_d, it_T, it_list, it_tuple, seq_T, seq_list, seq_tuple, seqAll, zipN2, zipN3, bind1, bind2, bind3, wipeS, setAll, seeAll, tru_bool, retv_d, take_all, ex_some,
  List.map_cons, List.map_nil, List.length_cons, List.length_nil, List.cons_append, List.nil_append, List.replicate, List.getElem?_cons_zero, List.getElem?_cons_succ, List.set_cons_zero, List.set_cons_succ, Option.some.injEq, exists_eq_left', exists_eq_left, exists_eq_right, true_and, and_true,
  Nat.reduceAdd, Nat.reduceSub, OO.dat, cmp_in, cmp_notin, exists_and_left, reduceIte, reduceCtorEq, if_true, if_false, Bool.false_eq_true, Vl.d.injEq, PyData.int.injEq, PyData.bool.injEq, PyData.str.injEq, Bool.not_true, Bool.not_false, cmp_lt, cmp_gt, cmp_le, cmp_ge, cmp_eq, cmp_ne, len_tup, len_lst, len_txt, ix_0, ix_1, ix_l0, ix_l1, ix_l2, bin_add, bin_sub, set_l0, set_l1, set_l2, live_lst, max_int, min_int, take_set, take_snoc, List.set_set, List.length_set, Vl.o.injEq, eq_self, decide_true, decide_false, Int.reduceLT, Int.reduceEq, Int.cast_ofNat_Int, Nat.zero_add, eq_nil_TL])
    exact q
theorem due_is {hd : List Nat} {h : List Hn} {p : Hn} (ok : BookOk hd h) (okp : okH hd p = true) : dueB (shutL hd h) p = insB p.2 (clL h p.1) := by
  obtain ⟨⟨c1, i1⟩, c2, i2⟩ := okH_parts okp
  have s1 : p.1.Sublist hd := cs_subl c1 ok.cs (insB_iff.mp i1)
  rw [Bool.eq_iff_iff]
  unfold dueB
  rw [decide_eq_true_eq, List.filter_eq_nil_iff]
  constructor
  · intro z
    have m : clL h p.1 ∈ shutL hd h := (mem_shut ok).mpr ⟨(cl_cvr ok).sub _ s1, (cl_cvr ok).idem _ s1⟩
    have y := z _ m
    have u : insB p.1 (clL h p.1) = true := insB_iff.mpr (cl_up c1)
    rw [u] at y
    simpa using y
  · intro z s hs y
    obtain ⟨a1, a2⟩ := (mem_shut ok).mp hs
    simp only [Bool.and_eq_true, Bool.not_eq_true'] at y
    have : insB p.2 s = true := insB_iff.mpr fun x hx => by
      have h1 := cl_mono (h := h) (insB_iff.mp y.1) x (insB_iff.mp z x hx)
      rw [a2] at h1
      exact h1
    rw [this] at y
    cases y.2
section
variable (Γ : Gv) (g3 : Γ.fn "follows" = some S_follows) (g4 : Γ.fn "_law_due" = some S_due) (g5 : Γ.fn "_law_pick" = some S_pick) (g6 : Γ.fn "_law_same" = some S_same)
include g3 g4 g5 g6
theorem turn7 {hd : List Nat} {h : List Hn} (ok : BookOk hd h) (S0 K0 : D) {ob : OO} (ho : StOk ob) (x10 x15 : Option Vl) (D : DE) (E : QX)
    (hnx : ∀ ob x5 x8 x9 x10 x11 x12 x13 x14 x15 x16, D.nx ⟨[some (.d S0), some (.d K0), some (.o 0), some (.d (BK hd h)), some (.d (.list ((shutL hd h).map T))), x5, some (.d (T hd)), some (.d (HG h)), x8, x9, x10, x11, x12, x13, x14, x15, x16], [ob]⟩) :
    wB Γ c_law_7 ⟨[some (.d S0), some (.d K0), some (.o 0), some (.d (BK hd h)), some (.d (.list ((shutL hd h).map T))), none, some (.d (T hd)), some (.d (HG h)), none, none, x10, none, none, none, none, x15, none], [ob]⟩ D E := by
  have ei : cmpD .IsNot (.bool true) (.bool true) = some false := rfl
  have en : cmpD .NotEq (.list []) (.list []) = some false := rfl
  have bt : ∀ ds : List PyData, biD .tuple [.list ds] = some (.sh (.tuple ds)) := fun _ => rfl
  have l12 := ok.few
  have ln : biD .len [HG h] = some (.sh (.int h.length)) := by
    unfold HG
    rw [len_tup, List.length_map]
  rw [c_law_7, wB_cons, wS_for]
  (try simp only [fnW_eq, fnD_nx, fnD_rt, seq_nx, seq_rt, seq_rtF, loop_rtF, seq_bk, seq_ct, loop_nx, loop_rt, loop_bk, loop_ct, wB_cons, wB_nil, wS_asgO, wS_asg, wS_unp, wS_par, wS_parc, wS_sset, wS_sps, wS_exp, wS_ret, wS_retN, wS_ife, wS_pas, wS_brk, wS_cnt, wE, wNs, wAs, wT, wI, wP, norm_d, store_d, vdat_d, norm_new, store_new, norm_newS, store_newS, fin_sh, fin_lst, fresh_lst, walk_d, it_T, it_list, it_tuple, seq_T, seq_list, seq_tuple, seqAll, zipN2, zipN3, bind1, bind2, bind3, wipeS, setAll, seeAll, tru_bool, retv_d, take_all, ex_some,
  List.map_cons, List.map_nil, List.length_cons, List.length_nil, List.cons_append, List.nil_append, List.replicate, List.getElem?_cons_zero, List.getElem?_cons_succ, List.set_cons_zero, List.set_cons_succ, Option.some.injEq, exists_eq_left', exists_eq_left, exists_eq_right, true_and, and_true,
  Nat.reduceAdd, Nat.reduceSub, OO.dat, cmp_in, cmp_notin, exists_and_left, reduceIte, reduceCtorEq, if_true, if_false, Bool.false_eq_true, Vl.d.injEq, PyData.int.injEq, PyData.bool.injEq, PyData.str.injEq, Bool.not_true, Bool.not_false, cmp_lt, cmp_gt, cmp_le, cmp_ge, cmp_eq, cmp_ne, len_tup, len_lst, len_txt, ix_0, ix_1, ix_l0, ix_l1, ix_l2, bin_add, bin_sub, set_l0, set_l1, set_l2, live_lst, max_int, min_int, take_set, take_snoc, List.set_set, List.length_set, Vl.o.injEq, eq_self, decide_true, decide_false, Int.reduceLT, Int.reduceEq, Int.cast_ofNat_Int, Nat.zero_add, range_1 6 (by decide)])
  refine ⟨fun i st => ∃ ob x5 x8 x9 x10 x11 x12 x13 x14 x15 x16, st = ⟨[some (.d S0), some (.d K0), some (.o 0), some (.d (BK hd h)), some (.d (.list ((shutL hd h).map T))), x5, some (.d (T hd)), some (.d (HG h)), x8, x9, x10, x11, x12, x13, x14, x15, x16], [ob]⟩ ∧ StOk ob, ⟨_, _, _, _, _, _, _, _, _, _, _, rfl, ho⟩, fun _ _ _ _ => trivial, ?_, ?_⟩
  · rintro i d st hdi ⟨ob, x5, x8, x9, x10, x11, x12, x13, x14, x15, x16, rfl, ho⟩
    (try simp only [fnW_eq, fnD_nx, fnD_rt, seq_nx, seq_rt, seq_rtF, loop_rtF, seq_bk, seq_ct, loop_nx, loop_rt, loop_bk, loop_ct, wB_cons, wB_nil, wS_asgO, wS_asg, wS_unp, wS_par, wS_parc, wS_sset, wS_sps, wS_exp, wS_ret, wS_retN, wS_ife, wS_pas, wS_brk, wS_cnt, wE, wNs, wAs, wT, wI, wP, norm_d, store_d, vdat_d, norm_new, store_new, norm_newS, store_newS, fin_sh, fin_lst, fresh_lst, walk_d, it_T, it_list, it_tuple, seq_T, seq_list, seq_tuple, seqAll, zipN2, zipN3, bind1, bind2, bind3, wipeS, setAll, seeAll, tru_bool, retv_d, take_all, ex_some,
  List.map_cons, List.map_nil, List.length_cons, List.length_nil, List.cons_append, List.nil_append, List.replicate, List.getElem?_cons_zero, List.getElem?_cons_succ, List.set_cons_zero, List.set_cons_succ, Option.some.injEq, exists_eq_left', exists_eq_left, exists_eq_right, true_and, and_true,
  Nat.reduceAdd, Nat.reduceSub, OO.dat, cmp_in, cmp_notin, exists_and_left, reduceIte, reduceCtorEq, if_true, if_false, Bool.false_eq_true, Vl.d.injEq, PyData.int.injEq, PyData.bool.injEq, PyData.str.injEq, Bool.not_true, Bool.not_false, cmp_lt, cmp_gt, cmp_le, cmp_ge, cmp_eq, cmp_ne, len_tup, len_lst, len_txt, ix_0, ix_1, ix_l0, ix_l1, ix_l2, bin_add, bin_sub, set_l0, set_l1, set_l2, live_lst, max_int, min_int, take_set, take_snoc, List.set_set, List.length_set, Vl.o.injEq, eq_self, decide_true, decide_false, Int.reduceLT, Int.reduceEq, Int.cast_ofNat_Int, Nat.zero_add, c_law_8, norm_c0])
    refine ⟨_, g5, 0, hd, rfl, ⟨ob, rfl, ho⟩, ok.cs, ok.ne, fun a ob2 ha ho2 => ?_⟩
    (try simp only [fnW_eq, fnD_nx, fnD_rt, seq_nx, seq_rt, seq_rtF, loop_rtF, seq_bk, seq_ct, loop_nx, loop_rt, loop_bk, loop_ct, wB_cons, wB_nil, wS_asgO, wS_asg, wS_unp, wS_par, wS_parc, wS_sset, wS_sps, wS_exp, wS_ret, wS_retN, wS_ife, wS_pas, wS_brk, wS_cnt, wE, wNs, wAs, wT, wI, wP, norm_d, store_d, vdat_d, norm_new, store_new, norm_newS, store_newS, fin_sh, fin_lst, fresh_lst, walk_d, it_T, it_list, it_tuple, seq_T, seq_list, seq_tuple, seqAll, zipN2, zipN3, bind1, bind2, bind3, wipeS, setAll, seeAll, tru_bool, retv_d, take_all, ex_some,
  List.map_cons, List.map_nil, List.length_cons, List.length_nil, List.cons_append, List.nil_append, List.replicate, List.getElem?_cons_zero, List.getElem?_cons_succ, List.set_cons_zero, List.set_cons_succ, Option.some.injEq, exists_eq_left', exists_eq_left, exists_eq_right, true_and, and_true,
  Nat.reduceAdd, Nat.reduceSub, OO.dat, cmp_in, cmp_notin, exists_and_left, reduceIte, reduceCtorEq, if_true, if_false, Bool.false_eq_true, Vl.d.injEq, PyData.int.injEq, PyData.bool.injEq, PyData.str.injEq, Bool.not_true, Bool.not_false, cmp_lt, cmp_gt, cmp_le, cmp_ge, cmp_eq, cmp_ne, len_tup, len_lst, len_txt, ix_0, ix_1, ix_l0, ix_l1, ix_l2, bin_add, bin_sub, set_l0, set_l1, set_l2, live_lst, max_int, min_int, take_set, take_snoc, List.set_set, List.length_set, Vl.o.injEq, eq_self, decide_true, decide_false, Int.reduceLT, Int.reduceEq, Int.cast_ofNat_Int, Nat.zero_add, norm_c0])
    refine ⟨_, g5, 0, hd, rfl, ⟨ob2, rfl, ho2⟩, ok.cs, ok.ne, fun b ob3 hb ho3 => ?_⟩
    have ca := sub_cs ok.cs ha
    have cb := sub_cs ok.cs hb
    have la := ca.len
    have lb := cb.len
    (try simp only [fnW_eq, fnD_nx, fnD_rt, seq_nx, seq_rt, seq_rtF, loop_rtF, seq_bk, seq_ct, loop_nx, loop_rt, loop_bk, loop_ct, wB_cons, wB_nil, wS_asgO, wS_asg, wS_unp, wS_par, wS_parc, wS_sset, wS_sps, wS_exp, wS_ret, wS_retN, wS_ife, wS_pas, wS_brk, wS_cnt, wE, wNs, wAs, wT, wI, wP, norm_d, store_d, vdat_d, norm_new, store_new, norm_newS, store_newS, fin_sh, fin_lst, fresh_lst, walk_d, it_T, it_list, it_tuple, seq_T, seq_list, seq_tuple, seqAll, zipN2, zipN3, bind1, bind2, bind3, wipeS, setAll, seeAll, tru_bool, retv_d, take_all, ex_some,
  List.map_cons, List.map_nil, List.length_cons, List.length_nil, List.cons_append, List.nil_append, List.replicate, List.getElem?_cons_zero, List.getElem?_cons_succ, List.set_cons_zero, List.set_cons_succ, Option.some.injEq, exists_eq_left', exists_eq_left, exists_eq_right, true_and, and_true,
  Nat.reduceAdd, Nat.reduceSub, OO.dat, cmp_in, cmp_notin, exists_and_left, reduceIte, reduceCtorEq, if_true, if_false, Bool.false_eq_true, Vl.d.injEq, PyData.int.injEq, PyData.bool.injEq, PyData.str.injEq, Bool.not_true, Bool.not_false, cmp_lt, cmp_gt, cmp_le, cmp_ge, cmp_eq, cmp_ne, len_tup, len_lst, len_txt, ix_0, ix_1, ix_l0, ix_l1, ix_l2, bin_add, bin_sub, set_l0, set_l1, set_l2, live_lst, max_int, min_int, take_set, take_snoc, List.set_set, List.length_set, Vl.o.injEq, eq_self, decide_true, decide_false, Int.reduceLT, Int.reduceEq, Int.cast_ofNat_Int, Nat.zero_add, c_law_9])
    refine ⟨rfl, lc_fm (fun c => decide (c ∈ a)) (fun c => T [c]) trivial (fun c hc k hk => ?_) ?_⟩
    · (try simp only [fnW_eq, fnD_nx, fnD_rt, seq_nx, seq_rt, seq_rtF, loop_rtF, seq_bk, seq_ct, loop_nx, loop_rt, loop_bk, loop_ct, wB_cons, wB_nil, wS_asgO, wS_asg, wS_unp, wS_par, wS_parc, wS_sset, wS_sps, wS_exp, wS_ret, wS_retN, wS_ife, wS_pas, wS_brk, wS_cnt, wE, wNs, wAs, wT, wI, wP, norm_d, store_d, vdat_d, norm_new, store_new, norm_newS, store_newS, fin_sh, fin_lst, fresh_lst, walk_d, it_T, it_list, it_tuple, seq_T, seq_list, seq_tuple, seqAll, zipN2, zipN3, bind1, bind2, bind3, wipeS, setAll, seeAll, tru_bool, retv_d, take_all, ex_some,
  List.map_cons, List.map_nil, List.length_cons, List.length_nil, List.cons_append, List.nil_append, List.replicate, List.getElem?_cons_zero, List.getElem?_cons_succ, List.set_cons_zero, List.set_cons_succ, Option.some.injEq, exists_eq_left', exists_eq_left, exists_eq_right, true_and, and_true,
  Nat.reduceAdd, Nat.reduceSub, OO.dat, cmp_in, cmp_notin, exists_and_left, reduceIte, reduceCtorEq, if_true, if_false, Bool.false_eq_true, Vl.d.injEq, PyData.int.injEq, PyData.bool.injEq, PyData.str.injEq, Bool.not_true, Bool.not_false, cmp_lt, cmp_gt, cmp_le, cmp_ge, cmp_eq, cmp_ne, len_tup, len_lst, len_txt, ix_0, ix_1, ix_l0, ix_l1, ix_l2, bin_add, bin_sub, set_l0, set_l1, set_l2, live_lst, max_int, min_int, take_set, take_snoc, List.set_set, List.length_set, Vl.o.injEq, eq_self, decide_true, decide_false, Int.reduceLT, Int.reduceEq, Int.cast_ofNat_Int, Nat.zero_add])
      exact hk
    have sw : (b.filter fun c => decide (c ∈ a)).Sublist hd := List.filter_sublist.trans hb
    have lw := (sub_cs ok.cs sw).len
    (try simp only [fnW_eq, fnD_nx, fnD_rt, seq_nx, seq_rt, seq_rtF, loop_rtF, seq_bk, seq_ct, loop_nx, loop_rt, loop_bk, loop_ct, wB_cons, wB_nil, wS_asgO, wS_asg, wS_unp, wS_par, wS_parc, wS_sset, wS_sps, wS_exp, wS_ret, wS_retN, wS_ife, wS_pas, wS_brk, wS_cnt, wE, wNs, wAs, wT, wI, wP, norm_d, store_d, vdat_d, norm_new, store_new, norm_newS, store_newS, fin_sh, fin_lst, fresh_lst, walk_d, it_T, it_list, it_tuple, seq_T, seq_list, seq_tuple, seqAll, zipN2, zipN3, bind1, bind2, bind3, wipeS, setAll, seeAll, tru_bool, retv_d, take_all, ex_some,
  List.map_cons, List.map_nil, List.length_cons, List.length_nil, List.cons_append, List.nil_append, List.replicate, List.getElem?_cons_zero, List.getElem?_cons_succ, List.set_cons_zero, List.set_cons_succ, Option.some.injEq, exists_eq_left', exists_eq_left, exists_eq_right, true_and, and_true,
  Nat.reduceAdd, Nat.reduceSub, OO.dat, cmp_in, cmp_notin, exists_and_left, reduceIte, reduceCtorEq, if_true, if_false, Bool.false_eq_true, Vl.d.injEq, PyData.int.injEq, PyData.bool.injEq, PyData.str.injEq, Bool.not_true, Bool.not_false, cmp_lt, cmp_gt, cmp_le, cmp_ge, cmp_eq, cmp_ne, len_tup, len_lst, len_txt, ix_0, ix_1, ix_l0, ix_l1, ix_l2, bin_add, bin_sub, set_l0, set_l1, set_l2, live_lst, max_int, min_int, take_set, take_snoc, List.set_set, List.length_set, Vl.o.injEq, eq_self, decide_true, decide_false, Int.reduceLT, Int.reduceEq, Int.cast_ofNat_Int, Nat.zero_add, norm_c1, me_join1 (b.filter fun c => decide (c ∈ a)) (by omega)])
    generalize (b.filter fun c => decide (c ∈ a)) = wi at sw lw
    rw [c_law_10, wB_cons, wS_for]
    (try simp only [fnW_eq, fnD_nx, fnD_rt, seq_nx, seq_rt, seq_rtF, loop_rtF, seq_bk, seq_ct, loop_nx, loop_rt, loop_bk, loop_ct, wB_cons, wB_nil, wS_asgO, wS_asg, wS_unp, wS_par, wS_parc, wS_sset, wS_sps, wS_exp, wS_ret, wS_retN, wS_ife, wS_pas, wS_brk, wS_cnt, wE, wNs, wAs, wT, wI, wP, norm_d, store_d, vdat_d, norm_new, store_new, norm_newS, store_newS, fin_sh, fin_lst, fresh_lst, walk_d, it_T, it_list, it_tuple, seq_T, seq_list, seq_tuple, seqAll, zipN2, zipN3, bind1, bind2, bind3, wipeS, setAll, seeAll, tru_bool, retv_d, take_all, ex_some,
  List.map_cons, List.map_nil, List.length_cons, List.length_nil, List.cons_append, List.nil_append, List.replicate, List.getElem?_cons_zero, List.getElem?_cons_succ, List.set_cons_zero, List.set_cons_succ, Option.some.injEq, exists_eq_left', exists_eq_left, exists_eq_right, true_and, and_true,
  Nat.reduceAdd, Nat.reduceSub, OO.dat, cmp_in, cmp_notin, exists_and_left, reduceIte, reduceCtorEq, if_true, if_false, Bool.false_eq_true, Vl.d.injEq, PyData.int.injEq, PyData.bool.injEq, PyData.str.injEq, Bool.not_true, Bool.not_false, cmp_lt, cmp_gt, cmp_le, cmp_ge, cmp_eq, cmp_ne, len_tup, len_lst, len_txt, ix_0, ix_1, ix_l0, ix_l1, ix_l2, bin_add, bin_sub, set_l0, set_l1, set_l2, live_lst, max_int, min_int, take_set, take_snoc, List.set_set, List.length_set, Vl.o.injEq, eq_self, decide_true, decide_false, Int.reduceLT, Int.reduceEq, Int.cast_ofNat_Int, Nat.zero_add, norm_c1])
    refine ⟨fun i st => ∃ x9, st = ⟨[some (.d S0), some (.d K0), some (.o 0), some (.d (BK hd h)), some (.d (.list ((shutL hd h).map T))), some (.d d), some (.d (T hd)), some (.d (HG h)), some (.d (T wi)), x9, x10, some (.d (T a)), some (.d (T b)), x13, x14, x15, x16], [ob3]⟩, ⟨_, rfl⟩, fun _ _ _ _ => trivial, ?_, ?_⟩
    · rintro j d st hdj ⟨x9, rfl⟩
      have hm := List.mem_of_getElem? hdj
      obtain ⟨p, rfl, okp⟩ : ∃ p, d = hp p ∧ okH hd p = true := by
        simp only [List.mem_cons, List.not_mem_nil, or_false] at hm
        rcases hm with rfl | rfl | rfl | rfl
        · exact ⟨(a, b), rfl, okH_two ok.cs ha hb⟩
        · exact ⟨(a, wi), rfl, okH_two ok.cs ha sw⟩
        · exact ⟨(b, a), rfl, okH_two ok.cs hb ha⟩
        · exact ⟨(a, hd), rfl, okH_two ok.cs ha (List.Sublist.refl _)⟩
      (try simp only [fnW_eq, fnD_nx, fnD_rt, seq_nx, seq_rt, seq_rtF, loop_rtF, seq_bk, seq_ct, loop_nx, loop_rt, loop_bk, loop_ct, wB_cons, wB_nil, wS_asgO, wS_asg, wS_unp, wS_par, wS_parc, wS_sset, wS_sps, wS_exp, wS_ret, wS_retN, wS_ife, wS_pas, wS_brk, wS_cnt, wE, wNs, wAs, wT, wI, wP, norm_d, store_d, vdat_d, norm_new, store_new, norm_newS, store_newS, fin_sh, fin_lst, fresh_lst, walk_d, it_T, it_list, it_tuple, seq_T, seq_list, seq_tuple, seqAll, zipN2, zipN3, bind1, bind2, bind3, wipeS, setAll, seeAll, tru_bool, retv_d, take_all, ex_some,
  List.map_cons, List.map_nil, List.length_cons, List.length_nil, List.cons_append, List.nil_append, List.replicate, List.getElem?_cons_zero, List.getElem?_cons_succ, List.set_cons_zero, List.set_cons_succ, Option.some.injEq, exists_eq_left', exists_eq_left, exists_eq_right, true_and, and_true,
  Nat.reduceAdd, Nat.reduceSub, OO.dat, cmp_in, cmp_notin, exists_and_left, reduceIte, reduceCtorEq, if_true, if_false, Bool.false_eq_true, Vl.d.injEq, PyData.int.injEq, PyData.bool.injEq, PyData.str.injEq, Bool.not_true, Bool.not_false, cmp_lt, cmp_gt, cmp_le, cmp_ge, cmp_eq, cmp_ne, len_tup, len_lst, len_txt, ix_0, ix_1, ix_l0, ix_l1, ix_l2, bin_add, bin_sub, set_l0, set_l1, set_l2, live_lst, max_int, min_int, take_set, take_snoc, List.set_set, List.length_set, Vl.o.injEq, eq_self, decide_true, decide_false, Int.reduceLT, Int.reduceEq, Int.cast_ofNat_Int, Nat.zero_add, c_law_16])
      refine ⟨_, g3, hd, h, p, rfl, ok, okp, ?_⟩
      (try simp only [fnW_eq, fnD_nx, fnD_rt, seq_nx, seq_rt, seq_rtF, loop_rtF, seq_bk, seq_ct, loop_nx, loop_rt, loop_bk, loop_ct, wB_cons, wB_nil, wS_asgO, wS_asg, wS_unp, wS_par, wS_parc, wS_sset, wS_sps, wS_exp, wS_ret, wS_retN, wS_ife, wS_pas, wS_brk, wS_cnt, wE, wNs, wAs, wT, wI, wP, norm_d, store_d, vdat_d, norm_new, store_new, norm_newS, store_newS, fin_sh, fin_lst, fresh_lst, walk_d, it_T, it_list, it_tuple, seq_T, seq_list, seq_tuple, seqAll, zipN2, zipN3, bind1, bind2, bind3, wipeS, setAll, seeAll, tru_bool, retv_d, take_all, ex_some,
  List.map_cons, List.map_nil, List.length_cons, List.length_nil, List.cons_append, List.nil_append, List.replicate, List.getElem?_cons_zero, List.getElem?_cons_succ, List.set_cons_zero, List.set_cons_succ, Option.some.injEq, exists_eq_left', exists_eq_left, exists_eq_right, true_and, and_true,
  Nat.reduceAdd, Nat.reduceSub, OO.dat, cmp_in, cmp_notin, exists_and_left, reduceIte, reduceCtorEq, if_true, if_false, Bool.false_eq_true, Vl.d.injEq, PyData.int.injEq, PyData.bool.injEq, PyData.str.injEq, Bool.not_true, Bool.not_false, cmp_lt, cmp_gt, cmp_le, cmp_ge, cmp_eq, cmp_ne, len_tup, len_lst, len_txt, ix_0, ix_1, ix_l0, ix_l1, ix_l2, bin_add, bin_sub, set_l0, set_l1, set_l2, live_lst, max_int, min_int, take_set, take_snoc, List.set_set, List.length_set, Vl.o.injEq, eq_self, decide_true, decide_false, Int.reduceLT, Int.reduceEq, Int.cast_ofNat_Int, Nat.zero_add])
      refine ⟨_, g4, shutL hd h, p, rfl, ?_⟩
      rw [due_is ok okp]
      (try simp only [fnW_eq, fnD_nx, fnD_rt, seq_nx, seq_rt, seq_rtF, loop_rtF, seq_bk, seq_ct, loop_nx, loop_rt, loop_bk, loop_ct, wB_cons, wB_nil, wS_asgO, wS_asg, wS_unp, wS_par, wS_parc, wS_sset, wS_sps, wS_exp, wS_ret, wS_retN, wS_ife, wS_pas, wS_brk, wS_cnt, wE, wNs, wAs, wT, wI, wP, norm_d, store_d, vdat_d, norm_new, store_new, norm_newS, store_newS, fin_sh, fin_lst, fresh_lst, walk_d, it_T, it_list, it_tuple, seq_T, seq_list, seq_tuple, seqAll, zipN2, zipN3, bind1, bind2, bind3, wipeS, setAll, seeAll, tru_bool, retv_d, take_all, ex_some,
  List.map_cons, List.map_nil, List.length_cons, List.length_nil, List.cons_append, List.nil_append, List.replicate, List.getElem?_cons_zero, List.getElem?_cons_succ, List.set_cons_zero, List.set_cons_succ, Option.some.injEq, exists_eq_left', exists_eq_left, exists_eq_right, true_and, and_true,
  Nat.reduceAdd, Nat.reduceSub, OO.dat, cmp_in, cmp_notin, exists_and_left, reduceIte, reduceCtorEq, if_true, if_false, Bool.false_eq_true, Vl.d.injEq, PyData.int.injEq, PyData.bool.injEq, PyData.str.injEq, Bool.not_true, Bool.not_false, cmp_lt, cmp_gt, cmp_le, cmp_ge, cmp_eq, cmp_ne, len_tup, len_lst, len_txt, ix_0, ix_1, ix_l0, ix_l1, ix_l2, bin_add, bin_sub, set_l0, set_l1, set_l2, live_lst, max_int, min_int, take_set, take_snoc, List.set_set, List.length_set, Vl.o.injEq, eq_self, decide_true, decide_false, Int.reduceLT, Int.reduceEq, Int.cast_ofNat_Int, Nat.zero_add])
      refine ⟨_, g6, _, _, _, rfl, rfl, rfl, (Sh.bl (k := 60) (n := 1000) _ (by decide)).can (by decide), ?_⟩
      (try simp only [fnW_eq, fnD_nx, fnD_rt, seq_nx, seq_rt, seq_rtF, loop_rtF, seq_bk, seq_ct, loop_nx, loop_rt, loop_bk, loop_ct, wB_cons, wB_nil, wS_asgO, wS_asg, wS_unp, wS_par, wS_parc, wS_sset, wS_sps, wS_exp, wS_ret, wS_retN, wS_ife, wS_pas, wS_brk, wS_cnt, wE, wNs, wAs, wT, wI, wP, norm_d, store_d, vdat_d, norm_new, store_new, norm_newS, store_newS, fin_sh, fin_lst, fresh_lst, walk_d, it_T, it_list, it_tuple, seq_T, seq_list, seq_tuple, seqAll, zipN2, zipN3, bind1, bind2, bind3, wipeS, setAll, seeAll, tru_bool, retv_d, take_all, ex_some,
  List.map_cons, List.map_nil, List.length_cons, List.length_nil, List.cons_append, List.nil_append, List.replicate, List.getElem?_cons_zero, List.getElem?_cons_succ, List.set_cons_zero, List.set_cons_succ, Option.some.injEq, exists_eq_left', exists_eq_left, exists_eq_right, true_and, and_true,
  Nat.reduceAdd, Nat.reduceSub, OO.dat, cmp_in, cmp_notin, exists_and_left, reduceIte, reduceCtorEq, if_true, if_false, Bool.false_eq_true, Vl.d.injEq, PyData.int.injEq, PyData.bool.injEq, PyData.str.injEq, Bool.not_true, Bool.not_false, cmp_lt, cmp_gt, cmp_le, cmp_ge, cmp_eq, cmp_ne, len_tup, len_lst, len_txt, ix_0, ix_1, ix_l0, ix_l1, ix_l2, bin_add, bin_sub, set_l0, set_l1, set_l2, live_lst, max_int, min_int, take_set, take_snoc, List.set_set, List.length_set, Vl.o.injEq, eq_self, decide_true, decide_false, Int.reduceLT, Int.reduceEq, Int.cast_ofNat_Int, Nat.zero_add])
      exact ⟨_, wk_self, _, rfl⟩
    · rintro st ⟨x9, rfl⟩
      have oab := okH_two ok.cs ha hb
      (try simp only [fnW_eq, fnD_nx, fnD_rt, seq_nx, seq_rt, seq_rtF, loop_rtF, seq_bk, seq_ct, loop_nx, loop_rt, loop_bk, loop_ct, wB_cons, wB_nil, wS_asgO, wS_asg, wS_unp, wS_par, wS_parc, wS_sset, wS_sps, wS_exp, wS_ret, wS_retN, wS_ife, wS_pas, wS_brk, wS_cnt, wE, wNs, wAs, wT, wI, wP, norm_d, store_d, vdat_d, norm_new, store_new, norm_newS, store_newS, fin_sh, fin_lst, fresh_lst, walk_d, it_T, it_list, it_tuple, seq_T, seq_list, seq_tuple, seqAll, zipN2, zipN3, bind1, bind2, bind3, wipeS, setAll, seeAll, tru_bool, retv_d, take_all, ex_some,
  List.map_cons, List.map_nil, List.length_cons, List.length_nil, List.cons_append, List.nil_append, List.replicate, List.getElem?_cons_zero, List.getElem?_cons_succ, List.set_cons_zero, List.set_cons_succ, Option.some.injEq, exists_eq_left', exists_eq_left, exists_eq_right, true_and, and_true,
  Nat.reduceAdd, Nat.reduceSub, OO.dat, cmp_in, cmp_notin, exists_and_left, reduceIte, reduceCtorEq, if_true, if_false, Bool.false_eq_true, Vl.d.injEq, PyData.int.injEq, PyData.bool.injEq, PyData.str.injEq, Bool.not_true, Bool.not_false, cmp_lt, cmp_gt, cmp_le, cmp_ge, cmp_eq, cmp_ne, len_tup, len_lst, len_txt, ix_0, ix_1, ix_l0, ix_l1, ix_l2, bin_add, bin_sub, set_l0, set_l1, set_l2, live_lst, max_int, min_int, take_set, take_snoc, List.set_set, List.length_set, Vl.o.injEq, eq_self, decide_true, decide_false, Int.reduceLT, Int.reduceEq, Int.cast_ofNat_Int, Nat.zero_add, c_law_11, ln])
      by_cases hl : h.length < 12
      · have hl' : ((h.length : Nat) : Int) < 12 := by omega
        have ba : binD .Add (HG h) (.tuple [.tuple [T a, T b]]) = some (.sh (HG (h ++ [(a, b)]))) := bin_HG h [(a, b)] (by simp; omega)
        obtain ⟨m, e1, pw, nd, hm, hn⟩ := set_HG (h ++ [(a, b)]) (by simp; omega)
        have okm : BookOk hd m := set_book ok.cs ok.ne (by simp; omega) (fun p hp => by
          rcases List.mem_append.mp hp with z | z
          · exact ok.each p z
          · rw [List.mem_singleton.mp z]; exact oab) pw nd hm hn
        simp only [hl', decide_true]
        (try simp only [fnW_eq, fnD_nx, fnD_rt, seq_nx, seq_rt, seq_rtF, loop_rtF, seq_bk, seq_ct, loop_nx, loop_rt, loop_bk, loop_ct, wB_cons, wB_nil, wS_asgO, wS_asg, wS_unp, wS_par, wS_parc, wS_sset, wS_sps, wS_exp, wS_ret, wS_retN, wS_ife, wS_pas, wS_brk, wS_cnt, wE, wNs, wAs, wT, wI, wP, norm_d, store_d, vdat_d, norm_new, store_new, norm_newS, store_newS, fin_sh, fin_lst, fresh_lst, walk_d, it_T, it_list, it_tuple, seq_T, seq_list, seq_tuple, seqAll, zipN2, zipN3, bind1, bind2, bind3, wipeS, setAll, seeAll, tru_bool, retv_d, take_all, ex_some,
  List.map_cons, List.map_nil, List.length_cons, List.length_nil, List.cons_append, List.nil_append, List.replicate, List.getElem?_cons_zero, List.getElem?_cons_succ, List.set_cons_zero, List.set_cons_succ, Option.some.injEq, exists_eq_left', exists_eq_left, exists_eq_right, true_and, and_true,
  Nat.reduceAdd, Nat.reduceSub, OO.dat, cmp_in, cmp_notin, exists_and_left, reduceIte, reduceCtorEq, if_true, if_false, Bool.false_eq_true, Vl.d.injEq, PyData.int.injEq, PyData.bool.injEq, PyData.str.injEq, Bool.not_true, Bool.not_false, cmp_lt, cmp_gt, cmp_le, cmp_ge, cmp_eq, cmp_ne, len_tup, len_lst, len_txt, ix_0, ix_1, ix_l0, ix_l1, ix_l2, bin_add, bin_sub, set_l0, set_l1, set_l2, live_lst, max_int, min_int, take_set, take_snoc, List.set_set, List.length_set, Vl.o.injEq, eq_self, decide_true, decide_false, Int.reduceLT, Int.reduceEq, Int.cast_ofNat_Int, Nat.zero_add, c_law_12, ba])
        refine ⟨_, e1, ?_⟩
        (try simp only [fnW_eq, fnD_nx, fnD_rt, seq_nx, seq_rt, seq_rtF, loop_rtF, seq_bk, seq_ct, loop_nx, loop_rt, loop_bk, loop_ct, wB_cons, wB_nil, wS_asgO, wS_asg, wS_unp, wS_par, wS_parc, wS_sset, wS_sps, wS_exp, wS_ret, wS_retN, wS_ife, wS_pas, wS_brk, wS_cnt, wE, wNs, wAs, wT, wI, wP, norm_d, store_d, vdat_d, norm_new, store_new, norm_newS, store_newS, fin_sh, fin_lst, fresh_lst, walk_d, it_T, it_list, it_tuple, seq_T, seq_list, seq_tuple, seqAll, zipN2, zipN3, bind1, bind2, bind3, wipeS, setAll, seeAll, tru_bool, retv_d, take_all, ex_some,
  List.map_cons, List.map_nil, List.length_cons, List.length_nil, List.cons_append, List.nil_append, List.replicate, List.getElem?_cons_zero, List.getElem?_cons_succ, List.set_cons_zero, List.set_cons_succ, Option.some.injEq, exists_eq_left', exists_eq_left, exists_eq_right, true_and, and_true,
  Nat.reduceAdd, Nat.reduceSub, OO.dat, cmp_in, cmp_notin, exists_and_left, reduceIte, reduceCtorEq, if_true, if_false, Bool.false_eq_true, Vl.d.injEq, PyData.int.injEq, PyData.bool.injEq, PyData.str.injEq, Bool.not_true, Bool.not_false, cmp_lt, cmp_gt, cmp_le, cmp_ge, cmp_eq, cmp_ne, len_tup, len_lst, len_txt, ix_0, ix_1, ix_l0, ix_l1, ix_l2, bin_add, bin_sub, set_l0, set_l1, set_l2, live_lst, max_int, min_int, take_set, take_snoc, List.set_set, List.length_set, Vl.o.injEq, eq_self, decide_true, decide_false, Int.reduceLT, Int.reduceEq, Int.cast_ofNat_Int, Nat.zero_add, norm_c1, bt])
        (try simp only [fnW_eq, fnD_nx, fnD_rt, seq_nx, seq_rt, seq_rtF, loop_rtF, seq_bk, seq_ct, loop_nx, loop_rt, loop_bk, loop_ct, wB_cons, wB_nil, wS_asgO, wS_asg, wS_unp, wS_par, wS_parc, wS_sset, wS_sps, wS_exp, wS_ret, wS_retN, wS_ife, wS_pas, wS_brk, wS_cnt, wE, wNs, wAs, wT, wI, wP, norm_d, store_d, vdat_d, norm_new, store_new, norm_newS, store_newS, fin_sh, fin_lst, fresh_lst, walk_d, it_T, it_list, it_tuple, seq_T, seq_list, seq_tuple, seqAll, zipN2, zipN3, bind1, bind2, bind3, wipeS, setAll, seeAll, tru_bool, retv_d, take_all, ex_some,
  List.map_cons, List.map_nil, List.length_cons, List.length_nil, List.cons_append, List.nil_append, List.replicate, List.getElem?_cons_zero, List.getElem?_cons_succ, List.set_cons_zero, List.set_cons_succ, Option.some.injEq, exists_eq_left', exists_eq_left, exists_eq_right, true_and, and_true,
  Nat.reduceAdd, Nat.reduceSub, OO.dat, cmp_in, cmp_notin, exists_and_left, reduceIte, reduceCtorEq, if_true, if_false, Bool.false_eq_true, Vl.d.injEq, PyData.int.injEq, PyData.bool.injEq, PyData.str.injEq, Bool.not_true, Bool.not_false, cmp_lt, cmp_gt, cmp_le, cmp_ge, cmp_eq, cmp_ne, len_tup, len_lst, len_txt, ix_0, ix_1, ix_l0, ix_l1, ix_l2, bin_add, bin_sub, set_l0, set_l1, set_l2, live_lst, max_int, min_int, take_set, take_snoc, List.set_set, List.length_set, Vl.o.injEq, eq_self, decide_true, decide_false, Int.reduceLT, Int.reduceEq, Int.cast_ofNat_Int, Nat.zero_add, c_law_13, ba, seq_HG])
        refine lc_fm (fun _ => false) hp trivial (fun p hp' k hk => ?_) ?_
        · simp only [Bool.false_eq_true, if_false] at hk
          have pm : p ∈ m := (hm p).mpr hp'
          have f1 : insB p.2 (clL m p.1) = true := insB_iff.mpr (cl_here okm.parts pm)
          (try simp only [fnW_eq, fnD_nx, fnD_rt, seq_nx, seq_rt, seq_rtF, loop_rtF, seq_bk, seq_ct, loop_nx, loop_rt, loop_bk, loop_ct, wB_cons, wB_nil, wS_asgO, wS_asg, wS_unp, wS_par, wS_parc, wS_sset, wS_sps, wS_exp, wS_ret, wS_retN, wS_ife, wS_pas, wS_brk, wS_cnt, wE, wNs, wAs, wT, wI, wP, norm_d, store_d, vdat_d, norm_new, store_new, norm_newS, store_newS, fin_sh, fin_lst, fresh_lst, walk_d, it_T, it_list, it_tuple, seq_T, seq_list, seq_tuple, seqAll, zipN2, zipN3, bind1, bind2, bind3, wipeS, setAll, seeAll, tru_bool, retv_d, take_all, ex_some,
  List.map_cons, List.map_nil, List.length_cons, List.length_nil, List.cons_append, List.nil_append, List.replicate, List.getElem?_cons_zero, List.getElem?_cons_succ, List.set_cons_zero, List.set_cons_succ, Option.some.injEq, exists_eq_left', exists_eq_left, exists_eq_right, true_and, and_true,
  Nat.reduceAdd, Nat.reduceSub, OO.dat, cmp_in, cmp_notin, exists_and_left, reduceIte, reduceCtorEq, if_true, if_false, Bool.false_eq_true, Vl.d.injEq, PyData.int.injEq, PyData.bool.injEq, PyData.str.injEq, Bool.not_true, Bool.not_false, cmp_lt, cmp_gt, cmp_le, cmp_ge, cmp_eq, cmp_ne, len_tup, len_lst, len_txt, ix_0, ix_1, ix_l0, ix_l1, ix_l2, bin_add, bin_sub, set_l0, set_l1, set_l2, live_lst, max_int, min_int, take_set, take_snoc, List.set_set, List.length_set, Vl.o.injEq, eq_self, decide_true, decide_false, Int.reduceLT, Int.reduceEq, Int.cast_ofNat_Int, Nat.zero_add])
          refine ⟨_, g3, hd, m, p, rfl, okm, okm.each p pm, ?_⟩
          rw [f1]
          (try simp only [fnW_eq, fnD_nx, fnD_rt, seq_nx, seq_rt, seq_rtF, loop_rtF, seq_bk, seq_ct, loop_nx, loop_rt, loop_bk, loop_ct, wB_cons, wB_nil, wS_asgO, wS_asg, wS_unp, wS_par, wS_parc, wS_sset, wS_sps, wS_exp, wS_ret, wS_retN, wS_ife, wS_pas, wS_brk, wS_cnt, wE, wNs, wAs, wT, wI, wP, norm_d, store_d, vdat_d, norm_new, store_new, norm_newS, store_newS, fin_sh, fin_lst, fresh_lst, walk_d, it_T, it_list, it_tuple, seq_T, seq_list, seq_tuple, seqAll, zipN2, zipN3, bind1, bind2, bind3, wipeS, setAll, seeAll, tru_bool, retv_d, take_all, ex_some,
  List.map_cons, List.map_nil, List.length_cons, List.length_nil, List.cons_append, List.nil_append, List.replicate, List.getElem?_cons_zero, List.getElem?_cons_succ, List.set_cons_zero, List.set_cons_succ, Option.some.injEq, exists_eq_left', exists_eq_left, exists_eq_right, true_and, and_true,
  Nat.reduceAdd, Nat.reduceSub, OO.dat, cmp_in, cmp_notin, exists_and_left, reduceIte, reduceCtorEq, if_true, if_false, Bool.false_eq_true, Vl.d.injEq, PyData.int.injEq, PyData.bool.injEq, PyData.str.injEq, Bool.not_true, Bool.not_false, cmp_lt, cmp_gt, cmp_le, cmp_ge, cmp_eq, cmp_ne, len_tup, len_lst, len_txt, ix_0, ix_1, ix_l0, ix_l1, ix_l2, bin_add, bin_sub, set_l0, set_l1, set_l2, live_lst, max_int, min_int, take_set, take_snoc, List.set_set, List.length_set, Vl.o.injEq, eq_self, decide_true, decide_false, Int.reduceLT, Int.reduceEq, Int.cast_ofNat_Int, Nat.zero_add, ei])
          exact hk
        · have ef : ((h ++ [(a, b)]).filter fun _ => false) = [] := by simp
          rw [ef]
          (try simp only [fnW_eq, fnD_nx, fnD_rt, seq_nx, seq_rt, seq_rtF, loop_rtF, seq_bk, seq_ct, loop_nx, loop_rt, loop_bk, loop_ct, wB_cons, wB_nil, wS_asgO, wS_asg, wS_unp, wS_par, wS_parc, wS_sset, wS_sps, wS_exp, wS_ret, wS_retN, wS_ife, wS_pas, wS_brk, wS_cnt, wE, wNs, wAs, wT, wI, wP, norm_d, store_d, vdat_d, norm_new, store_new, norm_newS, store_newS, fin_sh, fin_lst, fresh_lst, walk_d, it_T, it_list, it_tuple, seq_T, seq_list, seq_tuple, seqAll, zipN2, zipN3, bind1, bind2, bind3, wipeS, setAll, seeAll, tru_bool, retv_d, take_all, ex_some,
  List.map_cons, List.map_nil, List.length_cons, List.length_nil, List.cons_append, List.nil_append, List.replicate, List.getElem?_cons_zero, List.getElem?_cons_succ, List.set_cons_zero, List.set_cons_succ, Option.some.injEq, exists_eq_left', exists_eq_left, exists_eq_right, true_and, and_true,
  Nat.reduceAdd, Nat.reduceSub, OO.dat, cmp_in, cmp_notin, exists_and_left, reduceIte, reduceCtorEq, if_true, if_false, Bool.false_eq_true, Vl.d.injEq, PyData.int.injEq, PyData.bool.injEq, PyData.str.injEq, Bool.not_true, Bool.not_false, cmp_lt, cmp_gt, cmp_le, cmp_ge, cmp_eq, cmp_ne, len_tup, len_lst, len_txt, ix_0, ix_1, ix_l0, ix_l1, ix_l2, bin_add, bin_sub, set_l0, set_l1, set_l2, live_lst, max_int, min_int, take_set, take_snoc, List.set_set, List.length_set, Vl.o.injEq, eq_self, decide_true, decide_false, Int.reduceLT, Int.reduceEq, Int.cast_ofNat_Int, Nat.zero_add, norm_c1, c_law_14, en])
          (try simp only [fnW_eq, fnD_nx, fnD_rt, seq_nx, seq_rt, seq_rtF, loop_rtF, seq_bk, seq_ct, loop_nx, loop_rt, loop_bk, loop_ct, wB_cons, wB_nil, wS_asgO, wS_asg, wS_unp, wS_par, wS_parc, wS_sset, wS_sps, wS_exp, wS_ret, wS_retN, wS_ife, wS_pas, wS_brk, wS_cnt, wE, wNs, wAs, wT, wI, wP, norm_d, store_d, vdat_d, norm_new, store_new, norm_newS, store_newS, fin_sh, fin_lst, fresh_lst, walk_d, it_T, it_list, it_tuple, seq_T, seq_list, seq_tuple, seqAll, zipN2, zipN3, bind1, bind2, bind3, wipeS, setAll, seeAll, tru_bool, retv_d, take_all, ex_some,
  List.map_cons, List.map_nil, List.length_cons, List.length_nil, List.cons_append, List.nil_append, List.replicate, List.getElem?_cons_zero, List.getElem?_cons_succ, List.set_cons_zero, List.set_cons_succ, Option.some.injEq, exists_eq_left', exists_eq_left, exists_eq_right, true_and, and_true,
  Nat.reduceAdd, Nat.reduceSub, OO.dat, cmp_in, cmp_notin, exists_and_left, reduceIte, reduceCtorEq, if_true, if_false, Bool.false_eq_true, Vl.d.injEq, PyData.int.injEq, PyData.bool.injEq, PyData.str.injEq, Bool.not_true, Bool.not_false, cmp_lt, cmp_gt, cmp_le, cmp_ge, cmp_eq, cmp_ne, len_tup, len_lst, len_txt, ix_0, ix_1, ix_l0, ix_l1, ix_l2, bin_add, bin_sub, set_l0, set_l1, set_l2, live_lst, max_int, min_int, take_set, take_snoc, List.set_set, List.length_set, Vl.o.injEq, eq_self, decide_true, decide_false, Int.reduceLT, Int.reduceEq, Int.cast_ofNat_Int, Nat.zero_add, c_law_15])
          refine ⟨_, g3, hd, h, (a, b), rfl, ok, oab, ?_⟩
          (try simp only [fnW_eq, fnD_nx, fnD_rt, seq_nx, seq_rt, seq_rtF, loop_rtF, seq_bk, seq_ct, loop_nx, loop_rt, loop_bk, loop_ct, wB_cons, wB_nil, wS_asgO, wS_asg, wS_unp, wS_par, wS_parc, wS_sset, wS_sps, wS_exp, wS_ret, wS_retN, wS_ife, wS_pas, wS_brk, wS_cnt, wE, wNs, wAs, wT, wI, wP, norm_d, store_d, vdat_d, norm_new, store_new, norm_newS, store_newS, fin_sh, fin_lst, fresh_lst, walk_d, it_T, it_list, it_tuple, seq_T, seq_list, seq_tuple, seqAll, zipN2, zipN3, bind1, bind2, bind3, wipeS, setAll, seeAll, tru_bool, retv_d, take_all, ex_some,
  List.map_cons, List.map_nil, List.length_cons, List.length_nil, List.cons_append, List.nil_append, List.replicate, List.getElem?_cons_zero, List.getElem?_cons_succ, List.set_cons_zero, List.set_cons_succ, Option.some.injEq, exists_eq_left', exists_eq_left, exists_eq_right, true_and, and_true,
  Nat.reduceAdd, Nat.reduceSub, OO.dat, cmp_in, cmp_notin, exists_and_left, reduceIte, reduceCtorEq, if_true, if_false, Bool.false_eq_true, Vl.d.injEq, PyData.int.injEq, PyData.bool.injEq, PyData.str.injEq, Bool.not_true, Bool.not_false, cmp_lt, cmp_gt, cmp_le, cmp_ge, cmp_eq, cmp_ne, len_tup, len_lst, len_txt, ix_0, ix_1, ix_l0, ix_l1, ix_l2, bin_add, bin_sub, set_l0, set_l1, set_l2, live_lst, max_int, min_int, take_set, take_snoc, List.set_set, List.length_set, Vl.o.injEq, eq_self, decide_true, decide_false, Int.reduceLT, Int.reduceEq, Int.cast_ofNat_Int, Nat.zero_add])
          refine ⟨_, g4, shutL hd h, (a, b), rfl, ?_⟩
          rw [due_is ok oab]
          (try simp only [fnW_eq, fnD_nx, fnD_rt, seq_nx, seq_rt, seq_rtF, loop_rtF, seq_bk, seq_ct, loop_nx, loop_rt, loop_bk, loop_ct, wB_cons, wB_nil, wS_asgO, wS_asg, wS_unp, wS_par, wS_parc, wS_sset, wS_sps, wS_exp, wS_ret, wS_retN, wS_ife, wS_pas, wS_brk, wS_cnt, wE, wNs, wAs, wT, wI, wP, norm_d, store_d, vdat_d, norm_new, store_new, norm_newS, store_newS, fin_sh, fin_lst, fresh_lst, walk_d, it_T, it_list, it_tuple, seq_T, seq_list, seq_tuple, seqAll, zipN2, zipN3, bind1, bind2, bind3, wipeS, setAll, seeAll, tru_bool, retv_d, take_all, ex_some,
  List.map_cons, List.map_nil, List.length_cons, List.length_nil, List.cons_append, List.nil_append, List.replicate, List.getElem?_cons_zero, List.getElem?_cons_succ, List.set_cons_zero, List.set_cons_succ, Option.some.injEq, exists_eq_left', exists_eq_left, exists_eq_right, true_and, and_true,
  Nat.reduceAdd, Nat.reduceSub, OO.dat, cmp_in, cmp_notin, exists_and_left, reduceIte, reduceCtorEq, if_true, if_false, Bool.false_eq_true, Vl.d.injEq, PyData.int.injEq, PyData.bool.injEq, PyData.str.injEq, Bool.not_true, Bool.not_false, cmp_lt, cmp_gt, cmp_le, cmp_ge, cmp_eq, cmp_ne, len_tup, len_lst, len_txt, ix_0, ix_1, ix_l0, ix_l1, ix_l2, bin_add, bin_sub, set_l0, set_l1, set_l2, live_lst, max_int, min_int, take_set, take_snoc, List.set_set, List.length_set, Vl.o.injEq, eq_self, decide_true, decide_false, Int.reduceLT, Int.reduceEq, Int.cast_ofNat_Int, Nat.zero_add])
          refine ⟨_, g6, _, _, _, rfl, rfl, rfl, (Sh.bl (k := 60) (n := 1000) _ (by decide)).can (by decide), ?_⟩
          (try simp only [fnW_eq, fnD_nx, fnD_rt, seq_nx, seq_rt, seq_rtF, loop_rtF, seq_bk, seq_ct, loop_nx, loop_rt, loop_bk, loop_ct, wB_cons, wB_nil, wS_asgO, wS_asg, wS_unp, wS_par, wS_parc, wS_sset, wS_sps, wS_exp, wS_ret, wS_retN, wS_ife, wS_pas, wS_brk, wS_cnt, wE, wNs, wAs, wT, wI, wP, norm_d, store_d, vdat_d, norm_new, store_new, norm_newS, store_newS, fin_sh, fin_lst, fresh_lst, walk_d, it_T, it_list, it_tuple, seq_T, seq_list, seq_tuple, seqAll, zipN2, zipN3, bind1, bind2, bind3, wipeS, setAll, seeAll, tru_bool, retv_d, take_all, ex_some,
  List.map_cons, List.map_nil, List.length_cons, List.length_nil, List.cons_append, List.nil_append, List.replicate, List.getElem?_cons_zero, List.getElem?_cons_succ, List.set_cons_zero, List.set_cons_succ, Option.some.injEq, exists_eq_left', exists_eq_left, exists_eq_right, true_and, and_true,
  Nat.reduceAdd, Nat.reduceSub, OO.dat, cmp_in, cmp_notin, exists_and_left, reduceIte, reduceCtorEq, if_true, if_false, Bool.false_eq_true, Vl.d.injEq, PyData.int.injEq, PyData.bool.injEq, PyData.str.injEq, Bool.not_true, Bool.not_false, cmp_lt, cmp_gt, cmp_le, cmp_ge, cmp_eq, cmp_ne, len_tup, len_lst, len_txt, ix_0, ix_1, ix_l0, ix_l1, ix_l2, bin_add, bin_sub, set_l0, set_l1, set_l2, live_lst, max_int, min_int, take_set, take_snoc, List.set_set, List.length_set, Vl.o.injEq, eq_self, decide_true, decide_false, Int.reduceLT, Int.reduceEq, Int.cast_ofNat_Int, Nat.zero_add])
          exact ⟨_, wk_self, _, _, _, _, _, _, _, _, _, _, _, rfl, ho3⟩
      · have hl' : ¬ ((h.length : Nat) : Int) < 12 := by omega
        simp only [hl', decide_false]
        (try simp only [fnW_eq, fnD_nx, fnD_rt, seq_nx, seq_rt, seq_rtF, loop_rtF, seq_bk, seq_ct, loop_nx, loop_rt, loop_bk, loop_ct, wB_cons, wB_nil, wS_asgO, wS_asg, wS_unp, wS_par, wS_parc, wS_sset, wS_sps, wS_exp, wS_ret, wS_retN, wS_ife, wS_pas, wS_brk, wS_cnt, wE, wNs, wAs, wT, wI, wP, norm_d, store_d, vdat_d, norm_new, store_new, norm_newS, store_newS, fin_sh, fin_lst, fresh_lst, walk_d, it_T, it_list, it_tuple, seq_T, seq_list, seq_tuple, seqAll, zipN2, zipN3, bind1, bind2, bind3, wipeS, setAll, seeAll, tru_bool, retv_d, take_all, ex_some,
  List.map_cons, List.map_nil, List.length_cons, List.length_nil, List.cons_append, List.nil_append, List.replicate, List.getElem?_cons_zero, List.getElem?_cons_succ, List.set_cons_zero, List.set_cons_succ, Option.some.injEq, exists_eq_left', exists_eq_left, exists_eq_right, true_and, and_true,
  Nat.reduceAdd, Nat.reduceSub, OO.dat, cmp_in, cmp_notin, exists_and_left, reduceIte, reduceCtorEq, if_true, if_false, Bool.false_eq_true, Vl.d.injEq, PyData.int.injEq, PyData.bool.injEq, PyData.str.injEq, Bool.not_true, Bool.not_false, cmp_lt, cmp_gt, cmp_le, cmp_ge, cmp_eq, cmp_ne, len_tup, len_lst, len_txt, ix_0, ix_1, ix_l0, ix_l1, ix_l2, bin_add, bin_sub, set_l0, set_l1, set_l2, live_lst, max_int, min_int, take_set, take_snoc, List.set_set, List.length_set, Vl.o.injEq, eq_self, decide_true, decide_false, Int.reduceLT, Int.reduceEq, Int.cast_ofNat_Int, Nat.zero_add])
        exact ⟨_, wk_self, _, _, _, _, _, _, _, _, _, _, _, rfl, ho3⟩
  · rintro st ⟨ob, x5, x8, x9, x10, x11, x12, x13, x14, x15, x16, rfl, ho⟩
    (try simp only [fnW_eq, fnD_nx, fnD_rt, seq_nx, seq_rt, seq_rtF, loop_rtF, seq_bk, seq_ct, loop_nx, loop_rt, loop_bk, loop_ct, wB_cons, wB_nil, wS_asgO, wS_asg, wS_unp, wS_par, wS_parc, wS_sset, wS_sps, wS_exp, wS_ret, wS_retN, wS_ife, wS_pas, wS_brk, wS_cnt, wE, wNs, wAs, wT, wI, wP, norm_d, store_d, vdat_d, norm_new, store_new, norm_newS, store_newS, fin_sh, fin_lst, fresh_lst, walk_d, it_T, it_list, it_tuple, seq_T, seq_list, seq_tuple, seqAll, zipN2, zipN3, bind1, bind2, bind3, wipeS, setAll, seeAll, tru_bool, retv_d, take_all, ex_some,
  List.map_cons, List.map_nil, List.length_cons, List.length_nil, List.cons_append, List.nil_append, List.replicate, List.getElem?_cons_zero, List.getElem?_cons_succ, List.set_cons_zero, List.set_cons_succ, Option.some.injEq, exists_eq_left', exists_eq_left, exists_eq_right, true_and, and_true,
  Nat.reduceAdd, Nat.reduceSub, OO.dat, cmp_in, cmp_notin, exists_and_left, reduceIte, reduceCtorEq, if_true, if_false, Bool.false_eq_true, Vl.d.injEq, PyData.int.injEq, PyData.bool.injEq, PyData.str.injEq, Bool.not_true, Bool.not_false, cmp_lt, cmp_gt, cmp_le, cmp_ge, cmp_eq, cmp_ne, len_tup, len_lst, len_txt, ix_0, ix_1, ix_l0, ix_l1, ix_l2, bin_add, bin_sub, set_l0, set_l1, set_l2, live_lst, max_int, min_int, take_set, take_snoc, List.set_set, List.length_set, Vl.o.injEq, eq_self, decide_true, decide_false, Int.reduceLT, Int.reduceEq, Int.cast_ofNat_Int, Nat.zero_add])
    exact hnx _ _ _ _ _ _ _ _ _ _ _
end
def S_law : FSpec := fun rs oh Q _ => ∃ ns : List Int, rs = [.d (scrD (ns.map .int))] ∧ oh = [] ∧ Q (.d (.bool true)) []
theorem w_law (Γ : Gv) (g1 : Γ.fn "_law_state" = some S_state) (g2 : Γ.fn "_law_book" = some S_book) (g7 : Γ.fn "_law_sets" = some S_lsets) (g8 : Γ.fn "_law_cover" = some S_lcover) (g3 : Γ.fn "follows" = some S_follows) (g4 : Γ.fn "_law_due" = some S_due) (g5 : Γ.fn "_law_pick" = some S_pick) (g6 : Γ.fn "_law_same" = some S_same)
    (rs : List Vl) (oh : OH) (Q : QV) (E : QX) (h : S_law rs oh Q E) : fnW Γ 17 c_law rs oh Q E := by
  obtain ⟨ns, rfl, rfl, q⟩ := h
  have ei : cmpD .IsNot (.bool true) (.bool true) = some false := rfl
  have en : cmpD .NotEq (.list []) (.list []) = some false := rfl
  generalize hS : scrD (ns.map .int) = S
  rw [fnW_eq, c_law, wB_cons, wS_for]
  subst hS
  (try simp only [fnW_eq, fnD_nx, fnD_rt, seq_nx, seq_rt, seq_rtF, loop_rtF, seq_bk, seq_ct, loop_nx, loop_rt, loop_bk, loop_ct, wB_cons, wB_nil, wS_asgO, wS_asg, wS_unp, wS_par, wS_parc, wS_sset, wS_sps, wS_exp, wS_ret, wS_retN, wS_ife, wS_pas, wS_brk, wS_cnt, wE, wNs, wAs, wT, wI, wP, norm_d, store_d, vdat_d, norm_new, store_new, norm_newS, store_newS, fin_sh, fin_lst, fresh_lst, walk_d, it_T, it_list, it_tuple, seq_T, seq_list, seq_tuple, seqAll, zipN2, zipN3, bind1, bind2, bind3, wipeS, setAll, seeAll, tru_bool, retv_d, take_all, ex_some,
  List.map_cons, List.map_nil, List.length_cons, List.length_nil, List.cons_append, List.nil_append, List.replicate, List.getElem?_cons_zero, List.getElem?_cons_succ, List.set_cons_zero, List.set_cons_succ, Option.some.injEq, exists_eq_left', exists_eq_left, exists_eq_right, true_and, and_true,
  Nat.reduceAdd, Nat.reduceSub, OO.dat, cmp_in, cmp_notin, exists_and_left, reduceIte, reduceCtorEq, if_true, if_false, Bool.false_eq_true, Vl.d.injEq, PyData.int.injEq, PyData.bool.injEq, PyData.str.injEq, Bool.not_true, Bool.not_false, cmp_lt, cmp_gt, cmp_le, cmp_ge, cmp_eq, cmp_ne, len_tup, len_lst, len_txt, ix_0, ix_1, ix_l0, ix_l1, ix_l2, bin_add, bin_sub, set_l0, set_l1, set_l2, live_lst, max_int, min_int, take_set, take_snoc, List.set_set, List.length_set, Vl.o.injEq, eq_self, decide_true, decide_false, Int.reduceLT, Int.reduceEq, Int.cast_ofNat_Int, Nat.zero_add, len_scr])
  refine ⟨_, range_1 _ ⟨by split <;> (try split) <;> omega, by split <;> (try split) <;> omega⟩, ?_⟩
  refine ⟨fun i st => st = ⟨[some (.d (scrD (ns.map .int))), none, none, none, none, none, none, none, none, none, none, none, none, none, none, none, none], []⟩, rfl, fun _ _ _ _ => trivial, ?_, ?_⟩
  · rintro i d st hd rfl
    have hk := range_get hd
    subst hk
    (try simp only [fnW_eq, fnD_nx, fnD_rt, seq_nx, seq_rt, seq_rtF, loop_rtF, seq_bk, seq_ct, loop_nx, loop_rt, loop_bk, loop_ct, wB_cons, wB_nil, wS_asgO, wS_asg, wS_unp, wS_par, wS_parc, wS_sset, wS_sps, wS_exp, wS_ret, wS_retN, wS_ife, wS_pas, wS_brk, wS_cnt, wE, wNs, wAs, wT, wI, wP, norm_d, store_d, vdat_d, norm_new, store_new, norm_newS, store_newS, fin_sh, fin_lst, fresh_lst, walk_d, it_T, it_list, it_tuple, seq_T, seq_list, seq_tuple, seqAll, zipN2, zipN3, bind1, bind2, bind3, wipeS, setAll, seeAll, tru_bool, retv_d, take_all, ex_some,
  List.map_cons, List.map_nil, List.length_cons, List.length_nil, List.cons_append, List.nil_append, List.replicate, List.getElem?_cons_zero, List.getElem?_cons_succ, List.set_cons_zero, List.set_cons_succ, Option.some.injEq, exists_eq_left', exists_eq_left, exists_eq_right, true_and, and_true,
  Nat.reduceAdd, Nat.reduceSub, OO.dat, cmp_in, cmp_notin, exists_and_left, reduceIte, reduceCtorEq, if_true, if_false, Bool.false_eq_true, Vl.d.injEq, PyData.int.injEq, PyData.bool.injEq, PyData.str.injEq, Bool.not_true, Bool.not_false, cmp_lt, cmp_gt, cmp_le, cmp_ge, cmp_eq, cmp_ne, len_tup, len_lst, len_txt, ix_0, ix_1, ix_l0, ix_l1, ix_l2, bin_add, bin_sub, set_l0, set_l1, set_l2, live_lst, max_int, min_int, take_set, take_snoc, List.set_set, List.length_set, Vl.o.injEq, eq_self, decide_true, decide_false, Int.reduceLT, Int.reduceEq, Int.cast_ofNat_Int, Nat.zero_add, c_law_2])
    refine ⟨_, g1, ns, _, rfl, by omega, fun ob0 ho0 => ?_⟩
    (try simp only [fnW_eq, fnD_nx, fnD_rt, seq_nx, seq_rt, seq_rtF, loop_rtF, seq_bk, seq_ct, loop_nx, loop_rt, loop_bk, loop_ct, wB_cons, wB_nil, wS_asgO, wS_asg, wS_unp, wS_par, wS_parc, wS_sset, wS_sps, wS_exp, wS_ret, wS_retN, wS_ife, wS_pas, wS_brk, wS_cnt, wE, wNs, wAs, wT, wI, wP, norm_d, store_d, vdat_d, norm_new, store_new, norm_newS, store_newS, fin_sh, fin_lst, fresh_lst, walk_d, it_T, it_list, it_tuple, seq_T, seq_list, seq_tuple, seqAll, zipN2, zipN3, bind1, bind2, bind3, wipeS, setAll, seeAll, tru_bool, retv_d, take_all, ex_some,
  List.map_cons, List.map_nil, List.length_cons, List.length_nil, List.cons_append, List.nil_append, List.replicate, List.getElem?_cons_zero, List.getElem?_cons_succ, List.set_cons_zero, List.set_cons_succ, Option.some.injEq, exists_eq_left', exists_eq_left, exists_eq_right, true_and, and_true,
  Nat.reduceAdd, Nat.reduceSub, OO.dat, cmp_in, cmp_notin, exists_and_left, reduceIte, reduceCtorEq, if_true, if_false, Bool.false_eq_true, Vl.d.injEq, PyData.int.injEq, PyData.bool.injEq, PyData.str.injEq, Bool.not_true, Bool.not_false, cmp_lt, cmp_gt, cmp_le, cmp_ge, cmp_eq, cmp_ne, len_tup, len_lst, len_txt, ix_0, ix_1, ix_l0, ix_l1, ix_l2, bin_add, bin_sub, set_l0, set_l1, set_l2, live_lst, max_int, min_int, take_set, take_snoc, List.set_set, List.length_set, Vl.o.injEq, eq_self, decide_true, decide_false, Int.reduceLT, Int.reduceEq, Int.cast_ofNat_Int, Nat.zero_add, c_law_3, norm_c0])
    refine ⟨_, g2, 0, rfl, ⟨ob0, rfl, ho0⟩, fun hd h ob ok ho => ?_⟩
    have bu : BK hd h = .tuple [T hd, HG h] := rfl
    (try simp only [fnW_eq, fnD_nx, fnD_rt, seq_nx, seq_rt, seq_rtF, loop_rtF, seq_bk, seq_ct, loop_nx, loop_rt, loop_bk, loop_ct, wB_cons, wB_nil, wS_asgO, wS_asg, wS_unp, wS_par, wS_parc, wS_sset, wS_sps, wS_exp, wS_ret, wS_retN, wS_ife, wS_pas, wS_brk, wS_cnt, wE, wNs, wAs, wT, wI, wP, norm_d, store_d, vdat_d, norm_new, store_new, norm_newS, store_newS, fin_sh, fin_lst, fresh_lst, walk_d, it_T, it_list, it_tuple, seq_T, seq_list, seq_tuple, seqAll, zipN2, zipN3, bind1, bind2, bind3, wipeS, setAll, seeAll, tru_bool, retv_d, take_all, ex_some,
  List.map_cons, List.map_nil, List.length_cons, List.length_nil, List.cons_append, List.nil_append, List.replicate, List.getElem?_cons_zero, List.getElem?_cons_succ, List.set_cons_zero, List.set_cons_succ, Option.some.injEq, exists_eq_left', exists_eq_left, exists_eq_right, true_and, and_true,
  Nat.reduceAdd, Nat.reduceSub, OO.dat, cmp_in, cmp_notin, exists_and_left, reduceIte, reduceCtorEq, if_true, if_false, Bool.false_eq_true, Vl.d.injEq, PyData.int.injEq, PyData.bool.injEq, PyData.str.injEq, Bool.not_true, Bool.not_false, cmp_lt, cmp_gt, cmp_le, cmp_ge, cmp_eq, cmp_ne, len_tup, len_lst, len_txt, ix_0, ix_1, ix_l0, ix_l1, ix_l2, bin_add, bin_sub, set_l0, set_l1, set_l2, live_lst, max_int, min_int, take_set, take_snoc, List.set_set, List.length_set, Vl.o.injEq, eq_self, decide_true, decide_false, Int.reduceLT, Int.reduceEq, Int.cast_ofNat_Int, Nat.zero_add, c_law_4, bu])
    rw [← bu]
    (try simp only [fnW_eq, fnD_nx, fnD_rt, seq_nx, seq_rt, seq_rtF, loop_rtF, seq_bk, seq_ct, loop_nx, loop_rt, loop_bk, loop_ct, wB_cons, wB_nil, wS_asgO, wS_asg, wS_unp, wS_par, wS_parc, wS_sset, wS_sps, wS_exp, wS_ret, wS_retN, wS_ife, wS_pas, wS_brk, wS_cnt, wE, wNs, wAs, wT, wI, wP, norm_d, store_d, vdat_d, norm_new, store_new, norm_newS, store_newS, fin_sh, fin_lst, fresh_lst, walk_d, it_T, it_list, it_tuple, seq_T, seq_list, seq_tuple, seqAll, zipN2, zipN3, bind1, bind2, bind3, wipeS, setAll, seeAll, tru_bool, retv_d, take_all, ex_some,
  List.map_cons, List.map_nil, List.length_cons, List.length_nil, List.cons_append, List.nil_append, List.replicate, List.getElem?_cons_zero, List.getElem?_cons_succ, List.set_cons_zero, List.set_cons_succ, Option.some.injEq, exists_eq_left', exists_eq_left, exists_eq_right, true_and, and_true,
  Nat.reduceAdd, Nat.reduceSub, OO.dat, cmp_in, cmp_notin, exists_and_left, reduceIte, reduceCtorEq, if_true, if_false, Bool.false_eq_true, Vl.d.injEq, PyData.int.injEq, PyData.bool.injEq, PyData.str.injEq, Bool.not_true, Bool.not_false, cmp_lt, cmp_gt, cmp_le, cmp_ge, cmp_eq, cmp_ne, len_tup, len_lst, len_txt, ix_0, ix_1, ix_l0, ix_l1, ix_l2, bin_add, bin_sub, set_l0, set_l1, set_l2, live_lst, max_int, min_int, take_set, take_snoc, List.set_set, List.length_set, Vl.o.injEq, eq_self, decide_true, decide_false, Int.reduceLT, Int.reduceEq, Int.cast_ofNat_Int, Nat.zero_add, c_law_5])
    refine ⟨_, g7, hd, rfl, ok.cs.len, ?_⟩
    (try simp only [fnW_eq, fnD_nx, fnD_rt, seq_nx, seq_rt, seq_rtF, loop_rtF, seq_bk, seq_ct, loop_nx, loop_rt, loop_bk, loop_ct, wB_cons, wB_nil, wS_asgO, wS_asg, wS_unp, wS_par, wS_parc, wS_sset, wS_sps, wS_exp, wS_ret, wS_retN, wS_ife, wS_pas, wS_brk, wS_cnt, wE, wNs, wAs, wT, wI, wP, norm_d, store_d, vdat_d, norm_new, store_new, norm_newS, store_newS, fin_sh, fin_lst, fresh_lst, walk_d, it_T, it_list, it_tuple, seq_T, seq_list, seq_tuple, seqAll, zipN2, zipN3, bind1, bind2, bind3, wipeS, setAll, seeAll, tru_bool, retv_d, take_all, ex_some,
  List.map_cons, List.map_nil, List.length_cons, List.length_nil, List.cons_append, List.nil_append, List.replicate, List.getElem?_cons_zero, List.getElem?_cons_succ, List.set_cons_zero, List.set_cons_succ, Option.some.injEq, exists_eq_left', exists_eq_left, exists_eq_right, true_and, and_true,
  Nat.reduceAdd, Nat.reduceSub, OO.dat, cmp_in, cmp_notin, exists_and_left, reduceIte, reduceCtorEq, if_true, if_false, Bool.false_eq_true, Vl.d.injEq, PyData.int.injEq, PyData.bool.injEq, PyData.str.injEq, Bool.not_true, Bool.not_false, cmp_lt, cmp_gt, cmp_le, cmp_ge, cmp_eq, cmp_ne, len_tup, len_lst, len_txt, ix_0, ix_1, ix_l0, ix_l1, ix_l2, bin_add, bin_sub, set_l0, set_l1, set_l2, live_lst, max_int, min_int, take_set, take_snoc, List.set_set, List.length_set, Vl.o.injEq, eq_self, decide_true, decide_false, Int.reduceLT, Int.reduceEq, Int.cast_ofNat_Int, Nat.zero_add, norm_c1])
    refine lc_fm (shutB h) T trivial (fun s hs k hk => ?_) ?_
    · (try simp only [fnW_eq, fnD_nx, fnD_rt, seq_nx, seq_rt, seq_rtF, loop_rtF, seq_bk, seq_ct, loop_nx, loop_rt, loop_bk, loop_ct, wB_cons, wB_nil, wS_asgO, wS_asg, wS_unp, wS_par, wS_parc, wS_sset, wS_sps, wS_exp, wS_ret, wS_retN, wS_ife, wS_pas, wS_brk, wS_cnt, wE, wNs, wAs, wT, wI, wP, norm_d, store_d, vdat_d, norm_new, store_new, norm_newS, store_newS, fin_sh, fin_lst, fresh_lst, walk_d, it_T, it_list, it_tuple, seq_T, seq_list, seq_tuple, seqAll, zipN2, zipN3, bind1, bind2, bind3, wipeS, setAll, seeAll, tru_bool, retv_d, take_all, ex_some,
  List.map_cons, List.map_nil, List.length_cons, List.length_nil, List.cons_append, List.nil_append, List.replicate, List.getElem?_cons_zero, List.getElem?_cons_succ, List.set_cons_zero, List.set_cons_succ, Option.some.injEq, exists_eq_left', exists_eq_left, exists_eq_right, true_and, and_true,
  Nat.reduceAdd, Nat.reduceSub, OO.dat, cmp_in, cmp_notin, exists_and_left, reduceIte, reduceCtorEq, if_true, if_false, Bool.false_eq_true, Vl.d.injEq, PyData.int.injEq, PyData.bool.injEq, PyData.str.injEq, Bool.not_true, Bool.not_false, cmp_lt, cmp_gt, cmp_le, cmp_ge, cmp_eq, cmp_ne, len_tup, len_lst, len_txt, ix_0, ix_1, ix_l0, ix_l1, ix_l2, bin_add, bin_sub, set_l0, set_l1, set_l2, live_lst, max_int, min_int, take_set, take_snoc, List.set_set, List.length_set, Vl.o.injEq, eq_self, decide_true, decide_false, Int.reduceLT, Int.reduceEq, Int.cast_ofNat_Int, Nat.zero_add])
      refine ⟨_, g8, _, h, s, rfl, rfl, ok.parts, sub_cs ok.cs (mem_setsL.mp hs), ?_⟩
      have e : decide (clL h s = s) = shutB h s := by unfold shutB; congr
      (try simp only [fnW_eq, fnD_nx, fnD_rt, seq_nx, seq_rt, seq_rtF, loop_rtF, seq_bk, seq_ct, loop_nx, loop_rt, loop_bk, loop_ct, wB_cons, wB_nil, wS_asgO, wS_asg, wS_unp, wS_par, wS_parc, wS_sset, wS_sps, wS_exp, wS_ret, wS_retN, wS_ife, wS_pas, wS_brk, wS_cnt, wE, wNs, wAs, wT, wI, wP, norm_d, store_d, vdat_d, norm_new, store_new, norm_newS, store_newS, fin_sh, fin_lst, fresh_lst, walk_d, it_T, it_list, it_tuple, seq_T, seq_list, seq_tuple, seqAll, zipN2, zipN3, bind1, bind2, bind3, wipeS, setAll, seeAll, tru_bool, retv_d, take_all, ex_some,
  List.map_cons, List.map_nil, List.length_cons, List.length_nil, List.cons_append, List.nil_append, List.replicate, List.getElem?_cons_zero, List.getElem?_cons_succ, List.set_cons_zero, List.set_cons_succ, Option.some.injEq, exists_eq_left', exists_eq_left, exists_eq_right, true_and, and_true,
  Nat.reduceAdd, Nat.reduceSub, OO.dat, cmp_in, cmp_notin, exists_and_left, reduceIte, reduceCtorEq, if_true, if_false, Bool.false_eq_true, Vl.d.injEq, PyData.int.injEq, PyData.bool.injEq, PyData.str.injEq, Bool.not_true, Bool.not_false, cmp_lt, cmp_gt, cmp_le, cmp_ge, cmp_eq, cmp_ne, len_tup, len_lst, len_txt, ix_0, ix_1, ix_l0, ix_l1, ix_l2, bin_add, bin_sub, set_l0, set_l1, set_l2, live_lst, max_int, min_int, take_set, take_snoc, List.set_set, List.length_set, Vl.o.injEq, eq_self, decide_true, decide_false, Int.reduceLT, Int.reduceEq, Int.cast_ofNat_Int, Nat.zero_add, eq_T, e])
      exact hk
    · (try simp only [fnW_eq, fnD_nx, fnD_rt, seq_nx, seq_rt, seq_rtF, loop_rtF, seq_bk, seq_ct, loop_nx, loop_rt, loop_bk, loop_ct, wB_cons, wB_nil, wS_asgO, wS_asg, wS_unp, wS_par, wS_parc, wS_sset, wS_sps, wS_exp, wS_ret, wS_retN, wS_ife, wS_pas, wS_brk, wS_cnt, wE, wNs, wAs, wT, wI, wP, norm_d, store_d, vdat_d, norm_new, store_new, norm_newS, store_newS, fin_sh, fin_lst, fresh_lst, walk_d, it_T, it_list, it_tuple, seq_T, seq_list, seq_tuple, seqAll, zipN2, zipN3, bind1, bind2, bind3, wipeS, setAll, seeAll, tru_bool, retv_d, take_all, ex_some,
  List.map_cons, List.map_nil, List.length_cons, List.length_nil, List.cons_append, List.nil_append, List.replicate, List.getElem?_cons_zero, List.getElem?_cons_succ, List.set_cons_zero, List.set_cons_succ, Option.some.injEq, exists_eq_left', exists_eq_left, exists_eq_right, true_and, and_true,
  Nat.reduceAdd, Nat.reduceSub, OO.dat, cmp_in, cmp_notin, exists_and_left, reduceIte, reduceCtorEq, if_true, if_false, Bool.false_eq_true, Vl.d.injEq, PyData.int.injEq, PyData.bool.injEq, PyData.str.injEq, Bool.not_true, Bool.not_false, cmp_lt, cmp_gt, cmp_le, cmp_ge, cmp_eq, cmp_ne, len_tup, len_lst, len_txt, ix_0, ix_1, ix_l0, ix_l1, ix_l2, bin_add, bin_sub, set_l0, set_l1, set_l2, live_lst, max_int, min_int, take_set, take_snoc, List.set_set, List.length_set, Vl.o.injEq, eq_self, decide_true, decide_false, Int.reduceLT, Int.reduceEq, Int.cast_ofNat_Int, Nat.zero_add, norm_c1])
      have es : (setsL hd).filter (shutB h) = shutL hd h := rfl
      rw [es]
      (try simp only [fnW_eq, fnD_nx, fnD_rt, seq_nx, seq_rt, seq_rtF, loop_rtF, seq_bk, seq_ct, loop_nx, loop_rt, loop_bk, loop_ct, wB_cons, wB_nil, wS_asgO, wS_asg, wS_unp, wS_par, wS_parc, wS_sset, wS_sps, wS_exp, wS_ret, wS_retN, wS_ife, wS_pas, wS_brk, wS_cnt, wE, wNs, wAs, wT, wI, wP, norm_d, store_d, vdat_d, norm_new, store_new, norm_newS, store_newS, fin_sh, fin_lst, fresh_lst, walk_d, it_T, it_list, it_tuple, seq_T, seq_list, seq_tuple, seqAll, zipN2, zipN3, bind1, bind2, bind3, wipeS, setAll, seeAll, tru_bool, retv_d, take_all, ex_some,
  List.map_cons, List.map_nil, List.length_cons, List.length_nil, List.cons_append, List.nil_append, List.replicate, List.getElem?_cons_zero, List.getElem?_cons_succ, List.set_cons_zero, List.set_cons_succ, Option.some.injEq, exists_eq_left', exists_eq_left, exists_eq_right, true_and, and_true,
  Nat.reduceAdd, Nat.reduceSub, OO.dat, cmp_in, cmp_notin, exists_and_left, reduceIte, reduceCtorEq, if_true, if_false, Bool.false_eq_true, Vl.d.injEq, PyData.int.injEq, PyData.bool.injEq, PyData.str.injEq, Bool.not_true, Bool.not_false, cmp_lt, cmp_gt, cmp_le, cmp_ge, cmp_eq, cmp_ne, len_tup, len_lst, len_txt, ix_0, ix_1, ix_l0, ix_l1, ix_l2, bin_add, bin_sub, set_l0, set_l1, set_l2, live_lst, max_int, min_int, take_set, take_snoc, List.set_set, List.length_set, Vl.o.injEq, eq_self, decide_true, decide_false, Int.reduceLT, Int.reduceEq, Int.cast_ofNat_Int, Nat.zero_add, c_law_6, seq_HG])
      refine lc_fm (fun _ => false) hp trivial (fun p hp' k hk => ?_) ?_
      · simp only [Bool.false_eq_true, if_false] at hk
        have f1 : insB p.2 (clL h p.1) = true := insB_iff.mpr (cl_here ok.parts hp')
        (try simp only [fnW_eq, fnD_nx, fnD_rt, seq_nx, seq_rt, seq_rtF, loop_rtF, seq_bk, seq_ct, loop_nx, loop_rt, loop_bk, loop_ct, wB_cons, wB_nil, wS_asgO, wS_asg, wS_unp, wS_par, wS_parc, wS_sset, wS_sps, wS_exp, wS_ret, wS_retN, wS_ife, wS_pas, wS_brk, wS_cnt, wE, wNs, wAs, wT, wI, wP, norm_d, store_d, vdat_d, norm_new, store_new, norm_newS, store_newS, fin_sh, fin_lst, fresh_lst, walk_d, it_T, it_list, it_tuple, seq_T, seq_list, seq_tuple, seqAll, zipN2, zipN3, bind1, bind2, bind3, wipeS, setAll, seeAll, tru_bool, retv_d, take_all, ex_some,
  List.map_cons, List.map_nil, List.length_cons, List.length_nil, List.cons_append, List.nil_append, List.replicate, List.getElem?_cons_zero, List.getElem?_cons_succ, List.set_cons_zero, List.set_cons_succ, Option.some.injEq, exists_eq_left', exists_eq_left, exists_eq_right, true_and, and_true,
  Nat.reduceAdd, Nat.reduceSub, OO.dat, cmp_in, cmp_notin, exists_and_left, reduceIte, reduceCtorEq, if_true, if_false, Bool.false_eq_true, Vl.d.injEq, PyData.int.injEq, PyData.bool.injEq, PyData.str.injEq, Bool.not_true, Bool.not_false, cmp_lt, cmp_gt, cmp_le, cmp_ge, cmp_eq, cmp_ne, len_tup, len_lst, len_txt, ix_0, ix_1, ix_l0, ix_l1, ix_l2, bin_add, bin_sub, set_l0, set_l1, set_l2, live_lst, max_int, min_int, take_set, take_snoc, List.set_set, List.length_set, Vl.o.injEq, eq_self, decide_true, decide_false, Int.reduceLT, Int.reduceEq, Int.cast_ofNat_Int, Nat.zero_add])
        refine ⟨_, g3, hd, h, p, rfl, ok, ok.each p hp', ?_⟩
        rw [f1]
        (try simp only [fnW_eq, fnD_nx, fnD_rt, seq_nx, seq_rt, seq_rtF, loop_rtF, seq_bk, seq_ct, loop_nx, loop_rt, loop_bk, loop_ct, wB_cons, wB_nil, wS_asgO, wS_asg, wS_unp, wS_par, wS_parc, wS_sset, wS_sps, wS_exp, wS_ret, wS_retN, wS_ife, wS_pas, wS_brk, wS_cnt, wE, wNs, wAs, wT, wI, wP, norm_d, store_d, vdat_d, norm_new, store_new, norm_newS, store_newS, fin_sh, fin_lst, fresh_lst, walk_d, it_T, it_list, it_tuple, seq_T, seq_list, seq_tuple, seqAll, zipN2, zipN3, bind1, bind2, bind3, wipeS, setAll, seeAll, tru_bool, retv_d, take_all, ex_some,
  List.map_cons, List.map_nil, List.length_cons, List.length_nil, List.cons_append, List.nil_append, List.replicate, List.getElem?_cons_zero, List.getElem?_cons_succ, List.set_cons_zero, List.set_cons_succ, Option.some.injEq, exists_eq_left', exists_eq_left, exists_eq_right, true_and, and_true,
  Nat.reduceAdd, Nat.reduceSub, OO.dat, cmp_in, cmp_notin, exists_and_left, reduceIte, reduceCtorEq, if_true, if_false, Bool.false_eq_true, Vl.d.injEq, PyData.int.injEq, PyData.bool.injEq, PyData.str.injEq, Bool.not_true, Bool.not_false, cmp_lt, cmp_gt, cmp_le, cmp_ge, cmp_eq, cmp_ne, len_tup, len_lst, len_txt, ix_0, ix_1, ix_l0, ix_l1, ix_l2, bin_add, bin_sub, set_l0, set_l1, set_l2, live_lst, max_int, min_int, take_set, take_snoc, List.set_set, List.length_set, Vl.o.injEq, eq_self, decide_true, decide_false, Int.reduceLT, Int.reduceEq, Int.cast_ofNat_Int, Nat.zero_add, ei])
        exact hk
      · have ef : (h.filter fun _ => false) = [] := by simp
        rw [ef]
        (try simp only [fnW_eq, fnD_nx, fnD_rt, seq_nx, seq_rt, seq_rtF, loop_rtF, seq_bk, seq_ct, loop_nx, loop_rt, loop_bk, loop_ct, wB_cons, wB_nil, wS_asgO, wS_asg, wS_unp, wS_par, wS_parc, wS_sset, wS_sps, wS_exp, wS_ret, wS_retN, wS_ife, wS_pas, wS_brk, wS_cnt, wE, wNs, wAs, wT, wI, wP, norm_d, store_d, vdat_d, norm_new, store_new, norm_newS, store_newS, fin_sh, fin_lst, fresh_lst, walk_d, it_T, it_list, it_tuple, seq_T, seq_list, seq_tuple, seqAll, zipN2, zipN3, bind1, bind2, bind3, wipeS, setAll, seeAll, tru_bool, retv_d, take_all, ex_some,
  List.map_cons, List.map_nil, List.length_cons, List.length_nil, List.cons_append, List.nil_append, List.replicate, List.getElem?_cons_zero, List.getElem?_cons_succ, List.set_cons_zero, List.set_cons_succ, Option.some.injEq, exists_eq_left', exists_eq_left, exists_eq_right, true_and, and_true,
  Nat.reduceAdd, Nat.reduceSub, OO.dat, cmp_in, cmp_notin, exists_and_left, reduceIte, reduceCtorEq, if_true, if_false, Bool.false_eq_true, Vl.d.injEq, PyData.int.injEq, PyData.bool.injEq, PyData.str.injEq, Bool.not_true, Bool.not_false, cmp_lt, cmp_gt, cmp_le, cmp_ge, cmp_eq, cmp_ne, len_tup, len_lst, len_txt, ix_0, ix_1, ix_l0, ix_l1, ix_l2, bin_add, bin_sub, set_l0, set_l1, set_l2, live_lst, max_int, min_int, take_set, take_snoc, List.set_set, List.length_set, Vl.o.injEq, eq_self, decide_true, decide_false, Int.reduceLT, Int.reduceEq, Int.cast_ofNat_Int, Nat.zero_add, norm_c1, en])
        exact turn7 Γ g3 g4 g5 g6 ok _ _ ho _ _ _ _ fun ob x5 x8 x9 x10 x11 x12 x13 x14 x15 x16 => wk_by 0 (Nat.le_refl _) rfl (by repeat (first | exact SubS.nil | refine SubS.drop ?_ | refine SubS.keep ?_ | refine SubS.obj (by decide) ?_ | refine SubS.objs (by decide) ?_))
  · rintro st rfl
    (try simp only [fnW_eq, fnD_nx, fnD_rt, seq_nx, seq_rt, seq_rtF, loop_rtF, seq_bk, seq_ct, loop_nx, loop_rt, loop_bk, loop_ct, wB_cons, wB_nil, wS_asgO, wS_asg, wS_unp, wS_par, wS_parc, wS_sset, wS_sps, wS_exp, wS_ret, wS_retN, wS_ife, wS_pas, wS_brk, wS_cnt, wE, wNs, wAs, wT, wI, wP, norm_d, store_d, vdat_d, norm_new, store_new, norm_newS, store_newS, fin_sh, fin_lst, fresh_lst, walk_d, it_T, it_list, it_tuple, seq_T, seq_list, seq_tuple, seqAll, zipN2, zipN3, bind1, bind2, bind3, wipeS, setAll, seeAll, tru_bool, retv_d, take_all, ex_some,
  List.map_cons, List.map_nil, List.length_cons, List.length_nil, List.cons_append, List.nil_append, List.replicate, List.getElem?_cons_zero, List.getElem?_cons_succ, List.set_cons_zero, List.set_cons_succ, Option.some.injEq, exists_eq_left', exists_eq_left, exists_eq_right, true_and, and_true,
  Nat.reduceAdd, Nat.reduceSub, OO.dat, cmp_in, cmp_notin, exists_and_left, reduceIte, reduceCtorEq, if_true, if_false, Bool.false_eq_true, Vl.d.injEq, PyData.int.injEq, PyData.bool.injEq, PyData.str.injEq, Bool.not_true, Bool.not_false, cmp_lt, cmp_gt, cmp_le, cmp_ge, cmp_eq, cmp_ne, len_tup, len_lst, len_txt, ix_0, ix_1, ix_l0, ix_l1, ix_l2, bin_add, bin_sub, set_l0, set_l1, set_l2, live_lst, max_int, min_int, take_set, take_snoc, List.set_set, List.length_set, Vl.o.injEq, eq_self, decide_true, decide_false, Int.reduceLT, Int.reduceEq, Int.cast_ofNat_Int, Nat.zero_add, c_law_1])
    exact q
end Kd.K08

namespace Hd
open PySem PySem.Spec PyProof.Rows L2
abbrev pw : Program := PySem.Challenge.pw_keytables_k08_whole_what_follows
def top (i : Nat) : Stmt := pw.main.body.getD i (.Pass ⟨0, 0, 0, 0⟩)
def d0 : He.DefD := ⟨("is_rising", none), "is_rising", "is_rising", defArgs (top 6), defBody (top 6), defScope (top 6), [], []⟩
def d1 : He.DefD := ⟨("is_set", none), "is_set", "is_set", defArgs (top 7), defBody (top 7), defScope (top 7), [], []⟩
def d2 : He.DefD := ⟨("put_to", none), "put_to", "put_to", defArgs (top 8), defBody (top 8), defScope (top 8), [], []⟩
def d3 : He.DefD := ⟨("out_of", none), "out_of", "out_of", defArgs (top 9), defBody (top 9), defScope (top 9), [], []⟩
def d4 : He.DefD := ⟨("inside", none), "inside", "inside", defArgs (top 10), defBody (top 10), defScope (top 10), [], []⟩
def d5 : He.DefD := ⟨("is_head", none), "is_head", "is_head", defArgs (top 13), defBody (top 13), defScope (top 13), [], []⟩
def d6 : He.DefD := ⟨("hangs", none), "hangs", "hangs", defArgs (top 14), defBody (top 14), defScope (top 14), [], []⟩
def d7 : He.DefD := ⟨("is_book", none), "is_book", "is_book", defArgs (top 15), defBody (top 15), defScope (top 15), [], []⟩
def d8 : He.DefD := ⟨("need_book", none), "need_book", "need_book", defArgs (top 16), defBody (top 16), defScope (top 16), [], []⟩
def d9 : He.DefD := ⟨("need_hanging", none), "need_hanging", "need_hanging", defArgs (top 17), defBody (top 17), defScope (top 17), [], []⟩
def d10 : He.DefD := ⟨("grown", none), "grown", "grown", defArgs (top 19), defBody (top 19), defScope (top 19), [], []⟩
def d11 : He.DefD := ⟨("follows", none), "follows", "follows", defArgs (top 20), defBody (top 20), defScope (top 20), [], []⟩
def d12 : He.DefD := ⟨("_law_cell_at", none), "_law_cell_at", "_law_cell_at", defArgs (top 22), defBody (top 22), defScope (top 22), [], []⟩
def d13 : He.DefD := ⟨("_law_state", none), "_law_state", "_law_state", defArgs (top 23), defBody (top 23), defScope (top 23), [], []⟩
def d14 : He.DefD := ⟨("_law_choice", none), "_law_choice", "_law_choice", defArgs (top 24), defBody (top 24), defScope (top 24), [], []⟩
def d15 : He.DefD := ⟨("_law_same", none), "_law_same", "_law_same", defArgs (top 25), defBody (top 25), defScope (top 25), [], []⟩
def d16 : He.DefD := ⟨("_law_bits", none), "_law_bits", "_law_bits", defArgs (top 26), defBody (top 26), defScope (top 26), [], []⟩
def d17 : He.DefD := ⟨("_law_head", none), "_law_head", "_law_head", defArgs (top 27), defBody (top 27), defScope (top 27), [], []⟩
def d18 : He.DefD := ⟨("_law_pick", none), "_law_pick", "_law_pick", defArgs (top 28), defBody (top 28), defScope (top 28), [], []⟩
def d19 : He.DefD := ⟨("_law_hangings", none), "_law_hangings", "_law_hangings", defArgs (top 29), defBody (top 29), defScope (top 29), [], []⟩
def d20 : He.DefD := ⟨("_law_book", none), "_law_book", "_law_book", defArgs (top 30), defBody (top 30), defScope (top 30), [], []⟩
def d21 : He.DefD := ⟨("_law_lies", none), "_law_lies", "_law_lies", defArgs (top 31), defBody (top 31), defScope (top 31), [], []⟩
def d22 : He.DefD := ⟨("_law_cover", none), "_law_cover", "_law_cover", defArgs (top 32), defBody (top 32), defScope (top 32), [], []⟩
def d23 : He.DefD := ⟨("_law_sets", none), "_law_sets", "_law_sets", defArgs (top 33), defBody (top 33), defScope (top 33), [], []⟩
def d24 : He.DefD := ⟨("_law_due", none), "_law_due", "_law_due", defArgs (top 34), defBody (top 34), defScope (top 34), [], []⟩
def d25 : He.DefD := ⟨("law", none), "law", "law", defArgs (top 35), defBody (top 35), defScope (top 35), [], []⟩
def fn : List He.DefD := [d0, d1, d2, d3, d4, d5, d6, d7, d8, d9, d10, d11, d12, d13, d14, d15, d16, d17, d18, d19, d20, d21, d22, d23, d24, d25]
def fa : List He.Fa := [.glo "is_rising", .glo "is_set", .glo "put_to", .glo "out_of", .glo "inside", .glo "is_head", .glo "hangs", .glo "is_book", .glo "need_book", .glo "need_hanging", .glo "grown", .glo "follows", .glo "_law_cell_at", .glo "_law_state", .glo "_law_choice", .glo "_law_same", .glo "_law_bits", .glo "_law_head", .glo "_law_pick", .glo "_law_hangings", .glo "_law_book", .glo "_law_lies", .glo "_law_cover", .glo "_law_sets", .glo "_law_due", .glo "law", .free "ValueError", .free "all", .free "isinstance", .free "len", .free "max", .free "min", .free "range", .free "repr", .free "set", .free "sorted", .free "str", .free "tuple", .free "zip", .str "COLUMNS" "abcdefgh", .int "MOST_HANGINGS" 12, .free "any", .free "abs", .free "sum", .free "int", .free "list", .free "dict", .free "bool", .free "enumerate", .free "reversed"]
def loose : List Str := ("is_rising" : Str) :: ("is_set" : Str) :: ("put_to" : Str) :: ("out_of" : Str) :: ("inside" : Str) :: ("is_head" : Str) :: ("hangs" : Str) :: ("is_book" : Str) :: ("need_book" : Str) :: ("need_hanging" : Str) :: ("grown" : Str) :: ("follows" : Str) :: ("_law_cell_at" : Str) :: ("_law_state" : Str) :: ("_law_choice" : Str) :: ("_law_same" : Str) :: ("_law_bits" : Str) :: ("_law_head" : Str) :: ("_law_pick" : Str) :: ("_law_hangings" : Str) :: ("_law_book" : Str) :: ("_law_lies" : Str) :: ("_law_cover" : Str) :: ("_law_sets" : Str) :: ("_law_due" : Str) :: ("COLUMNS" : Str) :: ("MOST_HANGINGS" : Str) :: ("TableError" : Str) :: ("NoBook" : Str) :: ("NoHanging" : Str) :: []
abbrev R : PySem.W.OpenRow := PySem.W.OpenLaw.row PySem.Challenge.rw_keytables_k08_whole_what_follows
abbrev hk : PySem.W.Hook := He.hookD 4 fa fn
def ob (s : PySem.W.SharedT) : He.AlD := He.obsDG 4 fa fn (HandSHeadRun.getT s)
theorem ob_eq (s : PySem.W.SharedT) : ob s = hk.obs s.abs := He.obsDG_eq (HandSHeadRun.getT_eq s)
theorem run (w : World) : HandSHeadRun.RunEq R (PySem.W.view R.prog [35]) hk ob 4000 loose w := by
  intro os
  kernel_rfl
end Hd

namespace Kd.A08
open PySem PySem.Spec PyProof.Rows L2

noncomputable def tab : List (Str × FSpec) := (("is_rising" : Str), S_is_rising) :: (("is_set" : Str), S_is_set) :: (("put_to" : Str), S_put_to) :: (("out_of" : Str), S_out_of) :: (("inside" : Str), S_inside) :: (("is_head" : Str), S_is_head) :: (("hangs" : Str), S_hangs) :: (("is_book" : Str), S_is_book) :: (("need_book" : Str), S_need_book) :: (("need_hanging" : Str), S_need_hanging) :: (("grown" : Str), S_grown) :: (("follows" : Str), S_follows) :: (("_law_cell_at" : Str), S_cell_at) :: (("_law_state" : Str), S_state) :: (("_law_choice" : Str), S_choice) :: (("_law_same" : Str), S_same) :: (("_law_bits" : Str), S_bits) :: (("_law_head" : Str), S_head) :: (("_law_pick" : Str), S_pick) :: (("_law_hangings" : Str), S_hangings) :: (("_law_book" : Str), S_book) :: (("_law_lies" : Str), S_lies) :: (("_law_cover" : Str), S_lcover) :: (("_law_sets" : Str), S_lsets) :: (("_law_due" : Str), K08.S_due) :: (("law" : Str), K08.S_law) :: []
def gtab : List (Str × D) := [("COLUMNS", T [97, 98, 99, 100, 101, 102, 103, 104]), ("MOST_HANGINGS", .int 12)]
noncomputable def Γ : Gv := { glo := fun x => gtab.lookup x, fn := fun f => tab.lookup f }
abbrev xr : Exn → Value → Option Addr → Prop := fun _ _ _ => False
theorem md0 {P : Program} {w : World} {K : PySem.W.Frag} {h base : Heap} {mg : Str → Option Value} (X : K.In h) (G : h.Ns mainGlobals mg) (c : He.SaysD Hd.fa Hd.fn K) : Md P w K mg base 0 Γ (arOf []) xr where
  glo := fun x d hx => by
    simp only [Γ, gtab, List.lookup_cons, List.lookup_nil] at hx
    split at hx
    · rename_i e
      have e := eq_of_beq e
      subst e
      cases hx
      obtain ⟨t, ht⟩ := He.str_ok X G (c.fact 39 (f := .str "COLUMNS" "abcdefgh") rfl)
      exact ⟨.str _, _, ht, ⟨t, rfl⟩, fun H Z => Rp.str _ (strB_ok (by decide +kernel))⟩
    · skip
      split at hx
      · rename_i e
        have e := eq_of_beq e
        subst e
        cases hx
        obtain ⟨t, ht⟩ := He.int_ok X G (c.fact 40 (f := .int "MOST_HANGINGS" 12) rfl)
        exact ⟨.int _, _, ht, ⟨t, rfl⟩, fun H Z => Rp.int _⟩
      · cases hx
  fn := fun f n hf => by simp [arOf] at hf
  bi := fun f => by
    cases f with
    | len => exact He.free_ok X G (c.fact 29 (f := .free "len") rfl)
    | all => exact He.free_ok X G (c.fact 27 (f := .free "all") rfl)
    | any => exact He.free_ok X G (c.fact 41 (f := .free "any") rfl)
    | max => exact He.free_ok X G (c.fact 30 (f := .free "max") rfl)
    | min => exact He.free_ok X G (c.fact 31 (f := .free "min") rfl)
    | abs => exact He.free_ok X G (c.fact 42 (f := .free "abs") rfl)
    | sum => exact He.free_ok X G (c.fact 43 (f := .free "sum") rfl)
    | int => exact He.free_ok X G (c.fact 44 (f := .free "int") rfl)
    | tuple => exact He.free_ok X G (c.fact 37 (f := .free "tuple") rfl)
    | sorted => exact He.free_ok X G (c.fact 35 (f := .free "sorted") rfl)
    | repr => exact He.free_ok X G (c.fact 33 (f := .free "repr") rfl)
    | list => exact He.free_ok X G (c.fact 45 (f := .free "list") rfl)
    | dict => exact He.free_ok X G (c.fact 46 (f := .free "dict") rfl)
  ty := fun t => by
    cases t with
    | str => exact He.free_ok X G (c.fact 36 (f := .free "str") rfl)
    | int => exact He.free_ok X G (c.fact 44 (f := .free "int") rfl)
    | bool => exact He.free_ok X G (c.fact 47 (f := .free "bool") rfl)
    | tuple => exact He.free_ok X G (c.fact 37 (f := .free "tuple") rfl)
    | list => exact He.free_ok X G (c.fact 45 (f := .free "list") rfl)
    | dict => exact He.free_ok X G (c.fact 46 (f := .free "dict") rfl)
  isi := He.free_ok X G (c.fact 28 (f := .free "isinstance") rfl)
  rng := He.free_ok X G (c.fact 32 (f := .free "range") rfl)
  zip := He.free_ok X G (c.fact 38 (f := .free "zip") rfl)
  nb := fun x hx => by
    simp only [frees, List.mem_cons, List.not_mem_nil, or_false] at hx
    rcases hx with rfl | rfl | rfl | rfl
    · exact He.free_ok X G (c.fact 48 (f := .free "enumerate") rfl)
    · exact He.free_ok X G (c.fact 49 (f := .free "reversed") rfl)
    · exact He.free_ok X G (c.fact 34 (f := .free "set") rfl)
    · exact He.free_ok X G (c.fact 36 (f := .free "str") rfl)
theorem facts {P : Program} {w : World} {K : PySem.W.Frag} {h : Heap} {mg : Str → Option Value} {f : Addr} (X : K.In h) (G : h.Ns mainGlobals mg) (hfa : mg ("law" : Str) = some (.ref f)) (c : He.SaysD Hd.fa Hd.fn K) :
    ∃ fd : FuncData, (∀ (s : Shared) (v : Value), BindsTo s fd ⟨[v], []⟩ [("_law_script", v)]) ∧ ∀ base : Heap, K.In base → base.Ns mainGlobals mg → FnG P w K mg base 26 f fd ["_law_script"] (spOf K xr 1 K08.S_law) := by
  obtain ⟨fd0, F0⟩ := c.def_ 0 (d := Hd.d0) rfl
  obtain ⟨fd1, F1⟩ := c.def_ 1 (d := Hd.d1) rfl
  obtain ⟨fd2, F2⟩ := c.def_ 2 (d := Hd.d2) rfl
  obtain ⟨fd3, F3⟩ := c.def_ 3 (d := Hd.d3) rfl
  obtain ⟨fd4, F4⟩ := c.def_ 4 (d := Hd.d4) rfl
  obtain ⟨fd5, F5⟩ := c.def_ 5 (d := Hd.d5) rfl
  obtain ⟨fd6, F6⟩ := c.def_ 6 (d := Hd.d6) rfl
  obtain ⟨fd7, F7⟩ := c.def_ 7 (d := Hd.d7) rfl
  obtain ⟨fd8, F8⟩ := c.def_ 8 (d := Hd.d8) rfl
  obtain ⟨fd9, F9⟩ := c.def_ 9 (d := Hd.d9) rfl
  obtain ⟨fd10, F10⟩ := c.def_ 10 (d := Hd.d10) rfl
  obtain ⟨fd11, F11⟩ := c.def_ 11 (d := Hd.d11) rfl
  obtain ⟨fd12, F12⟩ := c.def_ 12 (d := Hd.d12) rfl
  obtain ⟨fd13, F13⟩ := c.def_ 13 (d := Hd.d13) rfl
  obtain ⟨fd14, F14⟩ := c.def_ 14 (d := Hd.d14) rfl
  obtain ⟨fd15, F15⟩ := c.def_ 15 (d := Hd.d15) rfl
  obtain ⟨fd16, F16⟩ := c.def_ 16 (d := Hd.d16) rfl
  obtain ⟨fd17, F17⟩ := c.def_ 17 (d := Hd.d17) rfl
  obtain ⟨fd18, F18⟩ := c.def_ 18 (d := Hd.d18) rfl
  obtain ⟨fd19, F19⟩ := c.def_ 19 (d := Hd.d19) rfl
  obtain ⟨fd20, F20⟩ := c.def_ 20 (d := Hd.d20) rfl
  obtain ⟨fd21, F21⟩ := c.def_ 21 (d := Hd.d21) rfl
  obtain ⟨fd22, F22⟩ := c.def_ 22 (d := Hd.d22) rfl
  obtain ⟨fd23, F23⟩ := c.def_ 23 (d := Hd.d23) rfl
  obtain ⟨fd24, F24⟩ := c.def_ 24 (d := Hd.d24) rfl
  obtain ⟨fd25, F25⟩ := c.def_ 25 (d := Hd.d25) rfl
  have e := hfa.symm.trans (He.glo_ok X G (c.fact 25 (f := .glo "law") rfl))
  cases e
  have b := FunD.bindsA (ps := ["_law_script"]) F25 fun _ _ _ _ _ _ us hl => match us, hl with | [_], _ => rfl
  refine ⟨fd25, fun s v => b s [v] rfl, fun base _ _ => ?_⟩
  have m0 := md0 (P := P) (w := w) (base := base) X G c
  have b0 : Binds K fd0 ["things"] [] := F0.bindsN fun _ _ _ _ _ _ us hl => match us, hl with | [_], _ => rfl
  have m1 := m0.step (f := "is_rising") (S := S_is_rising) (N := ["things", "one", "other"]) (ps := ["things"]) (core := c_is_rising) F0 (He.glo_ok X G (c.fact 0 (f := .glo "is_rising") rfl)) (by kernel_rfl) ⟨rfl, rfl, rfl, by decide +kernel, rfl, by decide +kernel, by decide +kernel⟩ b0 (by kernel_rfl) (fun rs oh Q E _ q => w_is_rising Γ  rs oh Q E q)
  have b1 : Binds K fd1 ["thing"] [] := F1.bindsN fun _ _ _ _ _ _ us hl => match us, hl with | [_], _ => rfl
  have m2 := m1.step (f := "is_set") (S := S_is_set) (N := ["thing", "column"]) (ps := ["thing"]) (core := c_is_set) F1 (He.glo_ok X G (c.fact 1 (f := .glo "is_set") rfl)) (by kernel_rfl) ⟨rfl, rfl, rfl, by decide +kernel, rfl, by decide +kernel, by decide +kernel⟩ b1 (by kernel_rfl) (fun rs oh Q E _ q => w_is_set Γ (by kernel_rfl) rs oh Q E q)
  have b2 : Binds K fd2 ["one", "other"] [] := F2.bindsN fun _ _ _ _ _ _ us hl => match us, hl with | [_, _], _ => rfl
  have m3 := m2.step (f := "put_to") (S := S_put_to) (N := ["one", "other", "column"]) (ps := ["one", "other"]) (core := c_put_to) F2 (He.glo_ok X G (c.fact 2 (f := .glo "put_to") rfl)) (by kernel_rfl) ⟨rfl, rfl, rfl, by decide +kernel, rfl, by decide +kernel, by decide +kernel⟩ b2 (by kernel_rfl) (fun rs oh Q E _ q => w_put_to Γ (by kernel_rfl) rs oh Q E q)
  have b3 : Binds K fd3 ["one", "other"] [] := F3.bindsN fun _ _ _ _ _ _ us hl => match us, hl with | [_, _], _ => rfl
  have m4 := m3.step (f := "out_of") (S := S_out_of) (N := ["one", "other", "column"]) (ps := ["one", "other"]) (core := c_out_of) F3 (He.glo_ok X G (c.fact 3 (f := .glo "out_of") rfl)) (by kernel_rfl) ⟨rfl, rfl, rfl, by decide +kernel, rfl, by decide +kernel, by decide +kernel⟩ b3 (by kernel_rfl) (fun rs oh Q E _ q => w_out_of Γ  rs oh Q E q)
  have b4 : Binds K fd4 ["one", "other"] [] := F4.bindsN fun _ _ _ _ _ _ us hl => match us, hl with | [_, _], _ => rfl
  have m5 := m4.step (f := "inside") (S := S_inside) (N := ["one", "other"]) (ps := ["one", "other"]) (core := c_inside) F4 (He.glo_ok X G (c.fact 4 (f := .glo "inside") rfl)) (by kernel_rfl) ⟨rfl, rfl, rfl, by decide +kernel, rfl, by decide +kernel, by decide +kernel⟩ b4 (by kernel_rfl) (fun rs oh Q E _ q => w_inside Γ (by kernel_rfl) rs oh Q E q)
  have b5 : Binds K fd5 ["thing"] [] := F5.bindsN fun _ _ _ _ _ _ us hl => match us, hl with | [_], _ => rfl
  have m6 := m5.step (f := "is_head") (S := S_is_head) (N := ["thing"]) (ps := ["thing"]) (core := c_is_head) F5 (He.glo_ok X G (c.fact 5 (f := .glo "is_head") rfl)) (by kernel_rfl) ⟨rfl, rfl, rfl, by decide +kernel, rfl, by decide +kernel, by decide +kernel⟩ b5 (by kernel_rfl) (fun rs oh Q E _ q => w_is_head Γ (by kernel_rfl) rs oh Q E q)
  have b6 : Binds K fd6 ["head", "thing"] [] := F6.bindsN fun _ _ _ _ _ _ us hl => match us, hl with | [_, _], _ => rfl
  have m7 := m6.step (f := "hangs") (S := S_hangs) (N := ["head", "thing", "some"]) (ps := ["head", "thing"]) (core := c_hangs) F6 (He.glo_ok X G (c.fact 6 (f := .glo "hangs") rfl)) (by kernel_rfl) ⟨rfl, rfl, rfl, by decide +kernel, rfl, by decide +kernel, by decide +kernel⟩ b6 (by kernel_rfl) (fun rs oh Q E _ q => w_hangs Γ (by kernel_rfl) (by kernel_rfl) rs oh Q E q)
  have b7 : Binds K fd7 ["thing"] [] := F7.bindsN fun _ _ _ _ _ _ us hl => match us, hl with | [_], _ => rfl
  have m8 := m7.step (f := "is_book") (S := S_is_book) (N := ["thing", "head", "hangings", "one"]) (ps := ["thing"]) (core := c_is_book) F7 (He.glo_ok X G (c.fact 7 (f := .glo "is_book") rfl)) (by kernel_rfl) ⟨rfl, rfl, rfl, by decide +kernel, rfl, by decide +kernel, by decide +kernel⟩ b7 (by kernel_rfl) (fun rs oh Q E _ q => w_is_book Γ (by kernel_rfl) (by kernel_rfl) (by kernel_rfl) (by kernel_rfl) rs oh Q E q)
  have b8 : Binds K fd8 ["thing"] [] := F8.bindsN fun _ _ _ _ _ _ us hl => match us, hl with | [_], _ => rfl
  have m9 := m8.step (f := "need_book") (S := S_need_book) (N := ["thing"]) (ps := ["thing"]) (core := c_need_book) F8 (He.glo_ok X G (c.fact 8 (f := .glo "need_book") rfl)) (by kernel_rfl) ⟨rfl, rfl, rfl, by decide +kernel, rfl, by decide +kernel, by decide +kernel⟩ b8 (by kernel_rfl) (fun rs oh Q E _ q => w_need_book Γ (by kernel_rfl) rs oh Q E q)
  have b9 : Binds K fd9 ["head", "thing"] [] := F9.bindsN fun _ _ _ _ _ _ us hl => match us, hl with | [_, _], _ => rfl
  have m10 := m9.step (f := "need_hanging") (S := S_need_hanging) (N := ["head", "thing"]) (ps := ["head", "thing"]) (core := c_need_hanging) F9 (He.glo_ok X G (c.fact 9 (f := .glo "need_hanging") rfl)) (by kernel_rfl) ⟨rfl, rfl, rfl, by decide +kernel, rfl, by decide +kernel, by decide +kernel⟩ b9 (by kernel_rfl) (fun rs oh Q E _ q => w_need_hanging Γ (by kernel_rfl) rs oh Q E q)
  have b10 : Binds K fd10 ["hangings", "some"] [] := F10.bindsN fun _ _ _ _ _ _ us hl => match us, hl with | [_, _], _ => rfl
  have m11 := m10.step (f := "grown") (S := S_grown) (N := ["hangings", "some", "found", "turned", "left", "right"]) (ps := ["hangings", "some"]) (core := c_grown) F10 (He.glo_ok X G (c.fact 10 (f := .glo "grown") rfl)) (by kernel_rfl) ⟨rfl, rfl, rfl, by decide +kernel, rfl, by decide +kernel, by decide +kernel⟩ b10 (by kernel_rfl) (fun rs oh Q E _ q => w_grown Γ (by kernel_rfl) (by kernel_rfl) rs oh Q E q)
  have b11 : Binds K fd11 ["book", "hanging"] [] := F11.bindsN fun _ _ _ _ _ _ us hl => match us, hl with | [_, _], _ => rfl
  have m12 := m11.step (f := "follows") (S := S_follows) (N := ["book", "hanging"]) (ps := ["book", "hanging"]) (core := c_follows) F11 (He.glo_ok X G (c.fact 11 (f := .glo "follows") rfl)) (by kernel_rfl) ⟨rfl, rfl, rfl, by decide +kernel, rfl, by decide +kernel, by decide +kernel⟩ b11 (by kernel_rfl) (fun rs oh Q E _ q => w_follows Γ (by kernel_rfl) (by kernel_rfl) (by kernel_rfl) (by kernel_rfl) rs oh Q E q)
  have b12 : Binds K fd12 ["_law_script", "_law_k"] [] := F12.bindsN fun _ _ _ _ _ _ us hl => match us, hl with | [_, _], _ => rfl
  have m13 := m12.step (f := "_law_cell_at") (S := S_cell_at) (N := ["_law_script", "_law_k"]) (ps := ["_law_script", "_law_k"]) (core := c__law_cell_at) F12 (He.glo_ok X G (c.fact 12 (f := .glo "_law_cell_at") rfl)) (by kernel_rfl) ⟨rfl, rfl, rfl, by decide +kernel, rfl, by decide +kernel, by decide +kernel⟩ b12 (by kernel_rfl) (fun rs oh Q E _ q => w_cell_at Γ  rs oh Q E q)
  have b13 : Binds K fd13 ["_law_script", "_law_k"] [] := F13.bindsN fun _ _ _ _ _ _ us hl => match us, hl with | [_, _], _ => rfl
  have m14 := m13.step (f := "_law_state") (S := S_state) (N := ["_law_script", "_law_k", "_law_cell"]) (ps := ["_law_script", "_law_k"]) (core := c__law_state) F13 (He.glo_ok X G (c.fact 13 (f := .glo "_law_state") rfl)) (by kernel_rfl) ⟨rfl, rfl, rfl, by decide +kernel, rfl, by decide +kernel, by decide +kernel⟩ b13 (by kernel_rfl) (fun rs oh Q E _ q => w_state Γ (by kernel_rfl) rs oh Q E q)
  have b14 : Binds K fd14 ["_law_state_here", "_law_many"] [] := F14.bindsN fun _ _ _ _ _ _ us hl => match us, hl with | [_, _], _ => rfl
  have m15 := m14.step (f := "_law_choice") (S := S_choice) (N := ["_law_state_here", "_law_many", "_law_mixed", "_law_found"]) (ps := ["_law_state_here", "_law_many"]) (core := c__law_choice) F14 (He.glo_ok X G (c.fact 14 (f := .glo "_law_choice") rfl)) (by kernel_rfl) ⟨rfl, rfl, rfl, by decide +kernel, rfl, by decide +kernel, by decide +kernel⟩ b14 (by kernel_rfl) (fun rs oh Q E _ q => w_choice Γ  rs oh Q E q)
  have b15 : Binds K fd15 ["_law_found", "_law_due_here"] [] := F15.bindsN fun _ _ _ _ _ _ us hl => match us, hl with | [_, _], _ => rfl
  have m16 := m15.step (f := "_law_same") (S := S_same) (N := ["_law_found", "_law_due_here"]) (ps := ["_law_found", "_law_due_here"]) (core := c__law_same) F15 (He.glo_ok X G (c.fact 15 (f := .glo "_law_same") rfl)) (by kernel_rfl) ⟨rfl, rfl, rfl, by decide +kernel, rfl, by decide +kernel, by decide +kernel⟩ b15 (by kernel_rfl) (fun rs oh Q E _ q => w_same Γ  rs oh Q E q)
  have b16 : Binds K fd16 ["_law_head_here", "_law_number"] [] := F16.bindsN fun _ _ _ _ _ _ us hl => match us, hl with | [_, _], _ => rfl
  have m17 := m16.step (f := "_law_bits") (S := S_bits) (N := ["_law_head_here", "_law_number", "_law_found", "_law_column"]) (ps := ["_law_head_here", "_law_number"]) (core := c__law_bits) F16 (He.glo_ok X G (c.fact 16 (f := .glo "_law_bits") rfl)) (by kernel_rfl) ⟨rfl, rfl, rfl, by decide +kernel, rfl, by decide +kernel, by decide +kernel⟩ b16 (by kernel_rfl) (fun rs oh Q E _ q => w_bits Γ  rs oh Q E q)
  have b17 : Binds K fd17 ["_law_state_here"] [] := F17.bindsN fun _ _ _ _ _ _ us hl => match us, hl with | [_], _ => rfl
  have m18 := m17.step (f := "_law_head") (S := S_head) (N := ["_law_state_here", "_law_way"]) (ps := ["_law_state_here"]) (core := c__law_head) F17 (He.glo_ok X G (c.fact 17 (f := .glo "_law_head") rfl)) (by kernel_rfl) ⟨rfl, rfl, rfl, by decide +kernel, rfl, by decide +kernel, by decide +kernel⟩ b17 (by kernel_rfl) (fun rs oh Q E _ q => w_head Γ (by kernel_rfl) (by kernel_rfl) rs oh Q E q)
  have b18 : Binds K fd18 ["_law_state_here", "_law_head_here"] [] := F18.bindsN fun _ _ _ _ _ _ us hl => match us, hl with | [_, _], _ => rfl
  have m19 := m18.step (f := "_law_pick") (S := S_pick) (N := ["_law_state_here", "_law_head_here", "_law_few", "_law_turn", "_law_column"]) (ps := ["_law_state_here", "_law_head_here"]) (core := c__law_pick) F18 (He.glo_ok X G (c.fact 18 (f := .glo "_law_pick") rfl)) (by kernel_rfl) ⟨rfl, rfl, rfl, by decide +kernel, rfl, by decide +kernel, by decide +kernel⟩ b18 (by kernel_rfl) (fun rs oh Q E _ q => w_pick Γ (by kernel_rfl) (by kernel_rfl) rs oh Q E q)
  have b19 : Binds K fd19 ["_law_state_here", "_law_head_here", "_law_many"] [] := F19.bindsN fun _ _ _ _ _ _ us hl => match us, hl with | [_, _, _], _ => rfl
  have m20 := m19.step (f := "_law_hangings") (S := S_hangings) (N := ["_law_state_here", "_law_head_here", "_law_many", "_law_found", "_law_turn"]) (ps := ["_law_state_here", "_law_head_here", "_law_many"]) (core := c__law_hangings) F19 (He.glo_ok X G (c.fact 19 (f := .glo "_law_hangings") rfl)) (by kernel_rfl) ⟨rfl, rfl, rfl, by decide +kernel, rfl, by decide +kernel, by decide +kernel⟩ b19 (by kernel_rfl) (fun rs oh Q E _ q => w_hangings Γ (by kernel_rfl) rs oh Q E q)
  have b20 : Binds K fd20 ["_law_state_here"] [] := F20.bindsN fun _ _ _ _ _ _ us hl => match us, hl with | [_], _ => rfl
  have m21 := m20.step (f := "_law_book") (S := S_book) (N := ["_law_state_here", "_law_head_here", "_law_many"]) (ps := ["_law_state_here"]) (core := c__law_book) F20 (He.glo_ok X G (c.fact 20 (f := .glo "_law_book") rfl)) (by kernel_rfl) ⟨rfl, rfl, rfl, by decide +kernel, rfl, by decide +kernel, by decide +kernel⟩ b20 (by kernel_rfl) (fun rs oh Q E _ q => w_book Γ (by kernel_rfl) (by kernel_rfl) (by kernel_rfl) rs oh Q E q)
  have b21 : Binds K fd21 ["_law_one", "_law_other"] [] := F21.bindsN fun _ _ _ _ _ _ us hl => match us, hl with | [_, _], _ => rfl
  have m22 := m21.step (f := "_law_lies") (S := S_lies) (N := ["_law_one", "_law_other", "_law_column"]) (ps := ["_law_one", "_law_other"]) (core := c__law_lies) F21 (He.glo_ok X G (c.fact 21 (f := .glo "_law_lies") rfl)) (by kernel_rfl) ⟨rfl, rfl, rfl, by decide +kernel, rfl, by decide +kernel, by decide +kernel⟩ b21 (by kernel_rfl) (fun rs oh Q E _ q => w_lies Γ  rs oh Q E q)
  have b22 : Binds K fd22 ["_law_hangings_here", "_law_some"] [] := F22.bindsN fun _ _ _ _ _ _ us hl => match us, hl with | [_, _], _ => rfl
  have m23 := m22.step (f := "_law_cover") (S := S_lcover) (N := ["_law_hangings_here", "_law_some", "_law_found", "_law_ahead", "_law_left", "_law_right", "_law_column"]) (ps := ["_law_hangings_here", "_law_some"]) (core := c__law_cover) F22 (He.glo_ok X G (c.fact 22 (f := .glo "_law_cover") rfl)) (by kernel_rfl) ⟨rfl, rfl, rfl, by decide +kernel, rfl, by decide +kernel, by decide +kernel⟩ b22 (by kernel_rfl) (fun rs oh Q E _ q => w_lcover Γ (by kernel_rfl) rs oh Q E q)
  have b23 : Binds K fd23 ["_law_head_here"] [] := F23.bindsN fun _ _ _ _ _ _ us hl => match us, hl with | [_], _ => rfl
  have m24 := m23.step (f := "_law_sets") (S := S_lsets) (N := ["_law_head_here", "_law_found", "_law_column", "_law_some"]) (ps := ["_law_head_here"]) (core := c__law_sets) F23 (He.glo_ok X G (c.fact 23 (f := .glo "_law_sets") rfl)) (by kernel_rfl) ⟨rfl, rfl, rfl, by decide +kernel, rfl, by decide +kernel, by decide +kernel⟩ b23 (by kernel_rfl) (fun rs oh Q E _ q => w_lsets Γ  rs oh Q E q)
  have b24 : Binds K fd24 ["_law_shut", "_law_hanging"] [] := F24.bindsN fun _ _ _ _ _ _ us hl => match us, hl with | [_, _], _ => rfl
  have m25 := m24.step (f := "_law_due") (S := K08.S_due) (N := ["_law_shut", "_law_hanging", "_law_some"]) (ps := ["_law_shut", "_law_hanging"]) (core := c__law_due_k08) F24 (He.glo_ok X G (c.fact 24 (f := .glo "_law_due") rfl)) (by kernel_rfl) ⟨rfl, rfl, rfl, by decide +kernel, rfl, by decide +kernel, by decide +kernel⟩ b24 (by kernel_rfl) (fun rs oh Q E _ q => K08.w_due Γ (by kernel_rfl) rs oh Q E q)
  exact fn_ok (S := K08.S_law) (N := ["_law_script", "_law_k", "_law_state_here", "_law_book_here", "_law_shut", "_law_turn", "_law_head_here", "_law_hangings_here", "_law_within", "_law_hanging", "_law_some", "_law_left", "_law_right", "_law_more", "_law_known", "_law_one", "_law_column"]) (ps := ["_law_script"]) (core := K08.c_law) F25 ⟨rfl, rfl, rfl, by decide +kernel, rfl, by decide +kernel, by decide +kernel⟩ m25 (by kernel_rfl) (fun rs oh Q E _ q => K08.w_law Γ (by kernel_rfl) (by kernel_rfl) (by kernel_rfl) (by kernel_rfl) (by kernel_rfl) (by kernel_rfl) (by kernel_rfl) (by kernel_rfl) rs oh Q E q)
end Kd.A08
open PySem PySem.W PySem.Calls PyProof.Rows
theorem PySem.Challenge.cw_keytables_k08_whole_what_follows_holds : PySem.Challenge.rw_keytables_k08_whole_what_follows.Holds := by
  w_on; o_law
  refine HandSHeadRun.head_any (r := OpenLaw.row PySem.Challenge.rw_keytables_k08_whole_what_follows) (q := view (OpenLaw.row PySem.Challenge.rw_keytables_k08_whole_what_follows).prog [35]) (H := Hd.hk) (ob := Hd.ob) (M := 4000) (loose := Hd.loose) (d := HandSHeadRun.topDef (OpenLaw.row PySem.Challenge.rw_keytables_k08_whole_what_follows).prog 35) (kwd := []) Hd.ob_eq
    (by kernel_rfl) (fun s => by kernel_rfl) Hd.run (by kernel_rfl) (by kernel_rfl) (by kernel_rfl) (by rfl) (by first | assumption | decide +kernel) (by decide +kernel) ⟨rfl, rfl, rfl, rfl, rfl, by decide +kernel⟩ ?hw ?hc
  case hw => w_witness2
  case hc =>
    refine Kd.walk_G (l := PySem.Challenge.rw_keytables_k08_whole_what_follows) (n := 63) (k := 26) (x := "_law_script") rfl (by decide) (by kernel_rfl) ⟨rfl, by decide, by decide⟩ ?F
    intro w mg fa h Y G hmg0
    obtain ⟨K, KX, c⟩ := Y
    have hmg : mg ("law" : PySem.Str) = some (.ref fa) := by
      have e : (HandSHeadRun.topDef (OpenLaw.row PySem.Challenge.rw_keytables_k08_whole_what_follows).prog 35).name = ("law" : PySem.Str) := by kernel_rfl
      rw [← e]
      exact hmg0
    obtain ⟨fd, hb, hF⟩ := Kd.A08.facts (P := (PySem.Challenge.rw_keytables_k08_whole_what_follows).prog) (w := w) KX G hmg c
    exact ⟨K, fd, _, KX, hb, fun H a ns hl hS => Kd.law_spec (n := 63) (fun ns _ => ⟨ns, rfl, rfl, rfl⟩) (by decide) H a ns hl hS, hF⟩
