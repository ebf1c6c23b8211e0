import PyProof.Rows.All
import Wide.All
import OpenK.AllK
import Wide.FinOn
import HandS.ForMost
import HandS.ForExc
import HandS.Wide
import HandS.TupAny
import HandS.Lambda
import HandS.EndTab
import HandS.IsInst
import HandS.TupMul
import HandS.Conv
import HandS.Deep
import HandS.SortInts
import HandS.Style
import KE.DataEq
import KE.DataFind
import KE.KTupSum
import KE.KSortedM
import KE.DataIsa
import KE.DatumIndex
import HandS.Dict
import HandS.Walk
import HandS.Zip
import HandS.Comp
import HandS.WordsExc
import HandS.CallSlots
import HandS.Defaults
import HandS.ExcOwn
import HandS.ExcIs
import KE.KExcSuper
import KE.RegKSuper
import HandS.HeadHook4
import HandS.Head2
import HandS.DictComp
import HandS.More
import PySem.Challenge.RW_fairrounds_k53_whole_spots_made_by_steps
set_option Elab.async false
set_option linter.all false
set_option maxRecDepth 100000
set_option maxHeartbeats 2000000
/-! the data level: values as data, mutable objects by number, what stands for what -/
namespace RX
open PySem PySem.Spec PyProof.Rows L2

/-- a value as data; a mutable object by its number -/
inductive D where
  | non | bl (b : Bool) | int (i : Int) | str (s : Str) | ty (n : String)
  | tup (xs : List D) | arr (xs : List D) | dk (ks : List (Key × D))
  | ref (i : Nat) | fn (k : Nat) | cls (k : Nat) | exc (c : Nat) | scr (ns : List Int)
instance : Inhabited D := ⟨.non⟩
/-- opaque: a caught error, a lambda; in slots alone -/
def D.isX : D → Bool
  | .exc _ => true
  | _ => false
/-- a mutable object -/
inductive MO where
  | lst (xs : List D) | dk (ks : List (Key × D)) | dead
abbrev Hd := List MO
abbrev Sl := List (Option D)
inductive Res (α : Type) where
  | ok (a : α) (h : Hd) | exc (c : Nat) (h : Hd) | stuck
inductive SR where
  | nx (s : Sl) (h : Hd) | rt (d : D) (h : Hd) | bk (s : Sl) (h : Hd) | ct (s : Sl) (h : Hd) | exc (c : Nat) (s : Sl) (h : Hd) | stuck
abbrev ME := Sl → Hd → Res D
abbrev MA := Sl → Hd → Res (List D)
abbrev MS := Sl → Hd → SR
abbrev MF := List D → Hd → Res D

/-- the addresses of the mutable objects by number; none: given up -/
structure Rh where
  l : List (Option Addr)
  z : List Addr
/-- numbered, or hidden (a list that a comprehension is filling) -/
def live (ρ : Rh) (a : Addr) : Prop := some a ∈ ρ.l ∨ a ∈ ρ.z
def Rh.push (ρ : Rh) (p : Addr) : Rh := ⟨ρ.l ++ [some p], ρ.z⟩
def Rh.drop (ρ : Rh) (j : Nat) : Rh := ⟨ρ.l.set j none, ρ.z⟩
def Rh.hide (ρ : Rh) (p : Addr) : Rh := ⟨ρ.l, p :: ρ.z⟩
def Rh.cut (ρ : Rh) (n : Nat) : Rh := ⟨ρ.l.take n, ρ.z⟩

def isMut (o : HO) : Prop := (∃ vs, o = .lst vs) ∨ ∃ ws, o = .dK ws
theorem isMut_tbl {o : HO} (h : isMut o) : ∀ ps, o ≠ .tbl ps := fun ps z => by subst z; rcases h with ⟨_, z⟩ | ⟨_, z⟩ <;> cases z
/-- from one state to a later one: what is not ours to change stands -/
structure Pst0 (ρ : Rh) (H : Hp) (ρ' : Rh) (H' : Hp) : Prop where
  fr : ∀ a o, H a = some o → ¬ live ρ a → (∀ ps, o ≠ .tbl ps) → H' a = some o
  ext : ∀ (i : Nat) (a : Addr), ρ.l[i]? = some (some a) → ρ'.l[i]? = some (some a) ∨ ρ'.l[i]? = some none
  gone : ∀ i : Nat, ρ.l[i]? = some none → ρ'.l[i]? = some none
  new : ∀ a, live ρ' a → live ρ a ∨ H a = none ∨ ∃ ps, H a = some (.tbl ps)
  lv : ∀ a o, H a = some o → live ρ a → (∀ ps, o ≠ .tbl ps) → ∃ o', H' a = some o' ∧ ∀ ps, o' ≠ .tbl ps
/-- .. and the hidden ones stand too -/
structure Pst (ρ : Rh) (H : Hp) (ρ' : Rh) (H' : Hp) : Prop extends Pst0 ρ H ρ' H' where
  hd : ∀ a ∈ ρ.z, ∀ o, H a = some o → H' a = some o
  hz : ∀ a ∈ ρ.z, a ∈ ρ'.z
section
variable {ρ ρ1 ρ2 : Rh} {H H1 H2 : Hp}
theorem Pst.refl : Pst ρ H ρ H := ⟨⟨fun _ _ e _ _ => e, fun _ _ e => .inl e, fun _ e => e, fun _ l => .inl l, fun _ o e _ t => ⟨o, e, t⟩⟩, fun _ _ _ e => e, fun _ l => l⟩
theorem Pst0.nlive (p : Pst0 ρ H ρ1 H1) {a : Addr} {o : HO} (e : H a = some o) (l : ¬ live ρ a) (t : ∀ ps, o ≠ .tbl ps) : ¬ live ρ1 a := fun l1 => by
  rcases p.new a l1 with z | z | ⟨ps, z⟩
  · exact l z
  · rw [e] at z; cases z
  · rw [e] at z; exact t ps (Option.some.inj z)
theorem Pst0.trans (p : Pst0 ρ H ρ1 H1) (q : Pst0 ρ1 H1 ρ2 H2) : Pst0 ρ H ρ2 H2 where
  fr := fun a o e l t => q.fr a o (p.fr a o e l t) (p.nlive e l t) t
  ext := fun i a e => by
    rcases p.ext i a e with z | z
    · exact q.ext i a z
    · exact .inr (q.gone i z)
  gone := fun i e => q.gone i (p.gone i e)
  new := fun a l => by
    have key : ∀ u : Option HO, H1 a = u → (u = none ∨ ∃ ps, u = some (.tbl ps)) → live ρ a ∨ H a = none ∨ ∃ ps, H a = some (.tbl ps) := fun u hu hn => by
      cases e : H a with
      | none => exact .inr (.inl rfl)
      | some o =>
        by_cases l0 : live ρ a
        · exact .inl l0
        · by_cases t : ∃ ps, o = .tbl ps
          · obtain ⟨ps, rfl⟩ := t
            exact .inr (.inr ⟨ps, rfl⟩)
          · have e1 := p.fr a o e l0 (fun ps q => t ⟨ps, q⟩)
            rw [hu] at e1
            rcases hn with z | ⟨ps, z⟩
            · rw [z] at e1; cases e1
            · rw [z] at e1; cases e1; exact (t ⟨_, rfl⟩).elim
    rcases q.new a l with z | z | z
    · exact p.new a z
    · exact key _ rfl (.inl z)
    · exact key _ rfl (.inr z)
  lv := fun a o e l t => by
    obtain ⟨o1, e1, t1⟩ := p.lv a o e l t
    by_cases l1 : live ρ1 a
    · exact q.lv a o1 e1 l1 t1
    · exact ⟨o1, q.fr a o1 e1 l1 t1, t1⟩
theorem Pst.trans (p : Pst ρ H ρ1 H1) (q : Pst ρ1 H1 ρ2 H2) : Pst ρ H ρ2 H2 :=
  ⟨p.toPst0.trans q.toPst0, fun a l o e => q.hd a (p.hz a l) o (p.hd a l o e), fun a l => q.hz a (p.hz a l)⟩
theorem Pst0.rd (p : Pst0 ρ H ρ1 H1) {a : Addr} {u : HO} (e : Rd H a u) (l : ¬ live ρ a) (t : ∀ ps, u ≠ .tbl ps) : Rd H1 a u ∧ ¬ live ρ1 a := by
  rcases e with e | ⟨o, e⟩
  · exact ⟨.inl (p.fr a u e l t), p.nlive e l t⟩
  · exact ⟨.inr ⟨o, p.fr a _ e l (fun ps z => by cases z)⟩, p.nlive e l (fun ps z => by cases z)⟩
end
/-- live addresses bear lists and dicts -/
def LvOk (ρ : Rh) (H : Hp) : Prop := ∀ a, live ρ a → ∃ o, H a = some o ∧ isMut o
/-- the ghost: where defs and classes stand, the tables of code objects; ex: what opaque slots bear; inv: what else is known for good -/
structure Gc where
  K : PySem.W.Frag
  fa : Nat → Addr
  ca : Nat → Addr
  T : List (Addr × Str)
  ex : List (Addr × Nat) := []
  inv : Rh → Hp → Prop := fun _ _ => True
  mon : ∀ ρ H ρ' H', LvOk ρ H → Pst0 ρ H ρ' H' → inv ρ H → inv ρ' H' := by intros; trivial

mutual
inductive Rp (G : Gc) (ρ : Rh) (H : Hp) : V → D → Prop
  | non : Rp G ρ H .non .non
  | bl (b : Bool) : Rp G ρ H (.bl b) (.bl b)
  | int (i : Int) : Rp G ρ H (.int i) (.int i)
  | str (x : Str) : Rp G ρ H (.str x) (.str x)
  | ty (n : String) : Rp G ρ H (.ty n) (.ty n)
  | tup {a : Addr} {vs : List V} {ds : List D} : SqT G.K H a vs → RpL G ρ H vs ds → Rp G ρ H (.ref a) (.tup ds)
  | arr {a : Addr} {vs : List V} {ds : List D} : H a = some (.lst vs) → ¬ live ρ a → RpL G ρ H vs ds → Rp G ρ H (.ref a) (.arr ds)
  | scr {a : Addr} {ns : List Int} : ((Rd H a (.lst (ns.map V.int)) ∧ ¬ live ρ a) ∨ ∀ H', SqL G.K H' a (ns.map V.int)) → Rp G ρ H (.ref a) (.scr ns)
  | dk {a : Addr} {ws : List (Key × V)} {ks : List (Key × D)} : H a = some (.dK ws) → ¬ live ρ a → ws.map (·.1) = ks.map (·.1) → RpL G ρ H (ws.map (·.2)) (ks.map (·.2)) → Rp G ρ H (.ref a) (.dk ks)
  | ref {i : Nat} {a : Addr} : ρ.l[i]? = some (some a) → Rp G ρ H (.ref a) (.ref i)
  | gone {i : Nat} {v : V} : ρ.l[i]? = some none → Rp G ρ H v (.ref i)
  | fn (k : Nat) : Rp G ρ H (.ref (G.fa k)) (.fn k)
  | cls (k : Nat) : Rp G ρ H (.ref (G.ca k)) (.cls k)
inductive RpL (G : Gc) (ρ : Rh) (H : Hp) : List V → List D → Prop
  | nil : RpL G ρ H [] []
  | cons {v : V} {vs : List V} {d : D} {ds : List D} : Rp G ρ H v d → RpL G ρ H vs ds → RpL G ρ H (v :: vs) (d :: ds)
end

def ObO (G : Gc) (ρ : Rh) (H : Hp) (a : Addr) : MO → Prop
  | .lst ds => ∃ vs, H a = some (.lst vs) ∧ RpL G ρ H vs ds
  | .dk ks => ∃ ws, H a = some (.dK ws) ∧ ws.map (·.1) = ks.map (·.1) ∧ RpL G ρ H (ws.map (·.2)) (ks.map (·.2))
  | .dead => False
/-- the abstract objects stand in the heap -/
structure AbH (G : Gc) (ρ : Rh) (H : Hp) (h : Hd) : Prop where
  len : ρ.l.length = h.length
  ob : ∀ (i : Nat) (a : Addr), ρ.l[i]? = some (some a) → ∃ o, h[i]? = some o ∧ ObO G ρ H a o
  gone : ∀ i : Nat, ρ.l[i]? = some none → h[i]? = some .dead
  inj : ∀ (i j : Nat) (a : Addr), ρ.l[i]? = some (some a) → ρ.l[j]? = some (some a) → i = j
  tabs : LamX.Tabs G.T H
  hid : ∀ a ∈ ρ.z, (∃ vs, H a = some (.lst vs)) ∨ ∃ ws, H a = some (.dK ws)
  dis : ∀ a ∈ ρ.z, some a ∉ ρ.l
  inv : G.inv ρ H
/-- the slots -/
structure AbS (G : Gc) (ρ : Rh) (H : Hp) (s : Sl) (σ : L2.St) : Prop where
  len : s.length = σ.length
  at_ : ∀ (i : Nat) (d : D), s[i]? = some (some d) → d.isX = false → ∃ v, σ[i]? = some (some v) ∧ Rp G ρ H v d
  ax : ∀ (i : Nat) (c : Nat), s[i]? = some (some (.exc c)) → ∃ a, σ[i]? = some (some (.ref a)) ∧ (a, c) ∈ G.ex

section
variable {G : Gc} {ρ ρ1 ρ2 : Rh} {H H1 H2 : Hp}
/-- a list or tuple's kind at a live address -/
theorem AbH.mut {h : Hd} (A : AbH G ρ H h) {a : Addr} (l : live ρ a) : (∃ vs, H a = some (.lst vs)) ∨ ∃ ws, H a = some (.dK ws) := by
  rcases l with l | l
  case inr => exact A.hid a l
  obtain ⟨i, hi, e⟩ := List.mem_iff_getElem.mp l
  obtain ⟨o, _, ob⟩ := A.ob i a (by rw [List.getElem?_eq_getElem hi, e])
  cases o with
  | lst ds => obtain ⟨vs, e, _⟩ := ob; exact .inl ⟨vs, e⟩
  | dk ks => obtain ⟨ws, e, _⟩ := ob; exact .inr ⟨ws, e⟩
  | dead => exact ob.elim
theorem AbH.lvok {h : Hd} (A : AbH G ρ H h) : LvOk ρ H := fun a l => by
  rcases A.mut l with ⟨w, z⟩ | ⟨w, z⟩
  · exact ⟨_, z, .inl ⟨_, rfl⟩⟩
  · exact ⟨_, z, .inr ⟨_, rfl⟩⟩
theorem AbH.nlive_tup {h : Hd} (A : AbH G ρ H h) {a : Addr} {vs : List V} (e : Rd H a (.tup vs)) : ¬ live ρ a := fun l => by
  rcases A.mut l with ⟨ws, z⟩ | ⟨ws, z⟩
  · rcases e with e | ⟨o, e⟩ <;> (rw [z] at e; cases e)
  · rcases e with e | ⟨o, e⟩ <;> (rw [z] at e; cases e)
theorem AbH.sqT {h : Hd} (A : AbH G ρ H h) (p : Pst0 ρ H ρ1 H1) {a : Addr} {vs : List V} (e : SqT G.K H a vs) : SqT G.K H1 a vs := by
  rcases e with e | e
  · exact .inl (p.rd e (A.nlive_tup e) (fun ps z => by cases z)).1
  · exact .inr e
mutual
theorem Rp.mono0 {h : Hd} (A : AbH G ρ H h) (p : Pst0 ρ H ρ1 H1) : ∀ {v : V} {d : D}, Rp G ρ H v d → Rp G ρ1 H1 v d
  | _, _, .non => .non
  | _, _, .bl b => .bl b
  | _, _, .int i => .int i
  | _, _, .str x => .str x
  | _, _, .ty n => .ty n
  | _, _, .tup e r => .tup (A.sqT p e) (RpL.mono0 A p r)
  | _, _, .arr e l r => .arr (p.fr _ _ e l (fun ps z => by cases z)) (p.nlive e l (fun ps z => by cases z)) (RpL.mono0 A p r)
  | _, _, .scr e => .scr (e.imp (fun ⟨e, l⟩ => p.rd e l (fun ps z => by cases z)) id)
  | _, _, .dk e l k r => .dk (p.fr _ _ e l (fun ps z => by cases z)) (p.nlive e l (fun ps z => by cases z)) k (RpL.mono0 A p r)
  | _, _, .ref e => by
    rcases p.ext _ _ e with z | z
    · exact .ref z
    · exact .gone z
  | _, _, .gone e => .gone (p.gone _ e)
  | _, _, .fn k => .fn k
  | _, _, .cls k => .cls k
theorem RpL.mono0 {h : Hd} (A : AbH G ρ H h) (p : Pst0 ρ H ρ1 H1) : ∀ {vs : List V} {ds : List D}, RpL G ρ H vs ds → RpL G ρ1 H1 vs ds
  | _, _, .nil => .nil
  | _, _, .cons r t => .cons (Rp.mono0 A p r) (RpL.mono0 A p t)
end
theorem Rp.mono {h : Hd} (A : AbH G ρ H h) (p : Pst ρ H ρ1 H1) {v : V} {d : D} (r : Rp G ρ H v d) : Rp G ρ1 H1 v d := r.mono0 A p.toPst0
theorem RpL.mono {h : Hd} (A : AbH G ρ H h) (p : Pst ρ H ρ1 H1) {v : List V} {d : List D} (r : RpL G ρ H v d) : RpL G ρ1 H1 v d := r.mono0 A p.toPst0
theorem AbS.mono {h : Hd} {s : Sl} {σ : L2.St} (A : AbH G ρ H h) (p : Pst ρ H ρ1 H1) (S : AbS G ρ H s σ) : AbS G ρ1 H1 s σ :=
  ⟨S.len, fun i d e hx => let ⟨v, e', r⟩ := S.at_ i d e hx; ⟨v, e', r.mono A p⟩, S.ax⟩
theorem AbS.mono0 {h : Hd} {s : Sl} {σ : L2.St} (A : AbH G ρ H h) (p : Pst0 ρ H ρ1 H1) (S : AbS G ρ H s σ) : AbS G ρ1 H1 s σ :=
  ⟨S.len, fun i d e hx => let ⟨v, e', r⟩ := S.at_ i d e hx; ⟨v, e', r.mono0 A p⟩, S.ax⟩
theorem RpL.length : ∀ {vs : List V} {ds : List D}, RpL G ρ H vs ds → vs.length = ds.length
  | _, _, .nil => rfl
  | _, _, .cons _ t => by simp [RpL.length t]
theorem RpL.get : ∀ {vs : List V} {ds : List D} {i : Nat} {d : D}, RpL G ρ H vs ds → ds[i]? = some d → ∃ v, vs[i]? = some v ∧ Rp G ρ H v d
  | _, _, _, _, .nil, e => by simp at e
  | _, _, 0, _, .cons r _, e => by simp at e; subst e; exact ⟨_, rfl, r⟩
  | _, _, i + 1, d, .cons r t, e => by
    obtain ⟨v, h1, h2⟩ := RpL.get (i := i) (d := d) t (by simpa using e)
    exact ⟨v, by simpa using h1, h2⟩
theorem RpL.append : ∀ {xs ys : List V} {us ws : List D}, RpL G ρ H xs us → RpL G ρ H ys ws → RpL G ρ H (xs ++ ys) (us ++ ws)
  | _, _, _, _, .nil, s => s
  | _, _, _, _, .cons r t, s => .cons r (RpL.append t s)
theorem RpL.take : ∀ {xs : List V} {us : List D} (n : Nat), RpL G ρ H xs us → RpL G ρ H (xs.take n) (us.take n)
  | _, _, 0, _ => .nil
  | _, _, _ + 1, .nil => .nil
  | _, _, n + 1, .cons r t => .cons r (RpL.take n t)
theorem RpL.drop : ∀ {xs : List V} {us : List D} (n : Nat), RpL G ρ H xs us → RpL G ρ H (xs.drop n) (us.drop n)
  | _, _, 0, r => r
  | _, _, _ + 1, .nil => .nil
  | _, _, n + 1, .cons _ t => RpL.drop n t
theorem RpL.set {x : V} {u : D} (r : Rp G ρ H x u) : ∀ {xs : List V} {us : List D} (i : Nat), RpL G ρ H xs us → RpL G ρ H (xs.set i x) (us.set i u)
  | _, _, _, .nil => .nil
  | _, _, 0, .cons _ t => .cons r t
  | _, _, i + 1, .cons q t => .cons q (RpL.set r i t)
theorem RpL.reverse : ∀ {xs : List V} {us : List D}, RpL G ρ H xs us → RpL G ρ H xs.reverse us.reverse
  | _, _, .nil => .nil
  | _, _, .cons r t => by rw [List.reverse_cons, List.reverse_cons]; exact (RpL.reverse t).append (.cons r .nil)
theorem RpL.eraseIdx : ∀ {xs : List V} {us : List D} (i : Nat), RpL G ρ H xs us → RpL G ρ H (xs.eraseIdx i) (us.eraseIdx i)
  | _, _, _, .nil => .nil
  | _, _, 0, .cons _ t => t
  | _, _, i + 1, .cons q t => .cons q (RpL.eraseIdx i t)
theorem RpL.flat : ∀ {xs : List V} {us : List D} (k : Nat), RpL G ρ H xs us → RpL G ρ H (List.replicate k xs).flatten (List.replicate k us).flatten
  | _, _, 0, _ => .nil
  | xs, us, k + 1, r => by rw [List.replicate_succ, List.replicate_succ, List.flatten_cons, List.flatten_cons]; exact r.append (RpL.flat k r)
theorem RpL.ints : ∀ {ns : List Int} {vs : List V}, RpL G ρ H vs (ns.map D.int) → vs = ns.map V.int
  | [], _, .nil => rfl
  | _ :: _, _, .cons r t => by cases r; rw [RpL.ints t]; rfl
theorem RpL.bls : ∀ {bs : List Bool} {vs : List V}, RpL G ρ H vs (bs.map D.bl) → vs = bs.map V.bl
  | [], _, .nil => rfl
  | _ :: _, _, .cons r t => by cases r; rw [RpL.bls t]; rfl
theorem RpL.of_ints : ∀ (ns : List Int), RpL G ρ H (ns.map V.int) (ns.map D.int)
  | [] => .nil
  | n :: ns => .cons (.int n) (RpL.of_ints ns)
/-- a new object laid -/
theorem Pst.laid {p : Addr} {o : HO} (hp : H p = none) : Pst ρ H ρ (upd H p o) where
  fr := fun a u e _ _ => by rw [upd_ne (ne_of_none e hp)]; exact e
  ext := fun _ _ e => .inl e
  gone := fun _ e => e
  new := fun _ l => .inl l
  lv := fun a u e _ t => ⟨u, by rw [upd_ne (ne_of_none e hp)]; exact e, t⟩
  hd := fun a _ u e => by rw [upd_ne (ne_of_none e hp)]; exact e
  hz := fun _ l => l
theorem AbH.some_ {h : Hd} (A : AbH G ρ H h) {a : Addr} (l : live ρ a) : ∃ o, H a = some o := by
  rcases A.mut l with ⟨_, z⟩ | ⟨_, z⟩ <;> exact ⟨_, z⟩
theorem ObO.mono0 {h : Hd} (A : AbH G ρ H h) (p : Pst0 ρ H ρ1 H1) {a : Addr} (e : H1 a = H a) {o : MO} (x : ObO G ρ H a o) : ObO G ρ1 H1 a o := by
  cases o with
  | lst ds => obtain ⟨vs, z, r⟩ := x; exact ⟨vs, e.trans z, r.mono0 A p⟩
  | dk ks => obtain ⟨vs, z, k, r⟩ := x; exact ⟨vs, e.trans z, k, r.mono0 A p⟩
  | dead => exact x
theorem ObO.mono {h : Hd} (A : AbH G ρ H h) (p : Pst ρ H ρ1 H1) {a : Addr} (e : H1 a = H a) {o : MO} (x : ObO G ρ H a o) : ObO G ρ1 H1 a o := x.mono0 A p.toPst0 e
theorem AbH.laid {h : Hd} (A : AbH G ρ H h) {p : Addr} {o : HO} (hp : H p = none) : AbH G ρ (upd H p o) h where
  len := A.len
  ob := fun i a e => by
    obtain ⟨u, hu, x⟩ := A.ob i a e
    obtain ⟨z, hz⟩ := A.some_ (.inl (List.mem_of_getElem? e))
    exact ⟨u, hu, x.mono A (Pst.laid hp) (upd_ne (ne_of_none hz hp))⟩
  gone := A.gone
  inj := A.inj
  tabs := A.tabs.ext fun b u e => by rw [upd_ne (ne_of_none e hp)]; exact e
  hid := fun a l => by
    rcases A.hid a l with ⟨w, e⟩ | ⟨w, e⟩
    · exact .inl ⟨w, by rw [upd_ne (ne_of_none e hp)]; exact e⟩
    · exact .inr ⟨w, by rw [upd_ne (ne_of_none e hp)]; exact e⟩
  dis := A.dis
  inv := G.mon _ _ _ _ A.lvok (Pst.laid hp).toPst0 A.inv
theorem live_app {a p : Addr} : live (ρ.push p) a ↔ live ρ a ∨ a = p := by
  unfold live Rh.push; simp
  constructor
  · rintro ((z | z) | z) <;> simp [z]
  · rintro ((z | z) | z) <;> simp [z]
/-- a new mutable object, numbered -/
theorem Pst.alloc {p : Addr} {o : HO} (hp : H p = none) : Pst ρ H (ρ.push p) (upd H p o) where
  fr := (Pst.laid hp).fr
  ext := fun i a e => .inl (by rw [show (ρ.push p).l = ρ.l ++ [some p] from rfl, List.getElem?_append_left (List.getElem?_eq_some_iff.mp e).1]; exact e)
  gone := fun i e => by rw [show (ρ.push p).l = ρ.l ++ [some p] from rfl, List.getElem?_append_left (List.getElem?_eq_some_iff.mp e).1]; exact e
  new := fun a l => by
    rcases live_app.mp l with z | z
    · exact .inl z
    · rw [z]; exact .inr (.inl hp)
  lv := (Pst.laid (ρ := ρ) hp).lv
  hd := (Pst.laid (ρ := ρ) hp).hd
  hz := fun _ l => l
theorem AbH.alloc {h : Hd} (A : AbH G ρ H h) {p : Addr} {o : HO} {m : MO} (hp : H p = none) (hm : ObO G (ρ.push p) (upd H p o) p m) : AbH G (ρ.push p) (upd H p o) (h ++ [m]) where
  len := by simp [A.len, Rh.push]
  ob := fun i a e => by
    rw [show (ρ.push p).l = ρ.l ++ [some p] from rfl] at e
    by_cases hi : i < ρ.l.length
    · rw [List.getElem?_append_left hi] at e
      obtain ⟨u, hu, x⟩ := A.ob i a e
      obtain ⟨z, hz⟩ := A.some_ (.inl (List.mem_of_getElem? e))
      exact ⟨u, by rw [List.getElem?_append_left (by rw [← A.len]; exact hi)]; exact hu, x.mono A (Pst.alloc hp) (upd_ne (ne_of_none hz hp))⟩
    · rw [List.getElem?_append_right (by omega)] at e
      have hj : i - ρ.l.length = 0 := by
        have := (List.getElem?_eq_some_iff.mp e).1
        simp at this; omega
      rw [hj] at e
      cases e
      refine ⟨m, ?_, hm⟩
      rw [List.getElem?_append_right (by rw [← A.len]; omega), ← A.len, hj]; rfl
  gone := fun i e => by
    rw [show (ρ.push p).l = ρ.l ++ [some p] from rfl] at e
    by_cases hi : i < ρ.l.length
    · rw [List.getElem?_append_left hi] at e
      rw [List.getElem?_append_left (by rw [← A.len]; exact hi)]; exact A.gone i e
    · rw [List.getElem?_append_right (by omega)] at e
      have hj : i - ρ.l.length = 0 := by
        have := (List.getElem?_eq_some_iff.mp e).1
        simp at this; omega
      rw [hj] at e; cases e
  inj := fun i j a e e' => by
    have key : ∀ k : Nat, (ρ.push p).l[k]? = some (some a) → (k < ρ.l.length ∧ ρ.l[k]? = some (some a)) ∨ (k = ρ.l.length ∧ a = p) := fun k q => by
      rw [show (ρ.push p).l = ρ.l ++ [some p] from rfl] at q
      by_cases hk : k < ρ.l.length
      · rw [List.getElem?_append_left hk] at q; exact .inl ⟨hk, q⟩
      · rw [List.getElem?_append_right (by omega)] at q
        have hj : k - ρ.l.length = 0 := by
          have := (List.getElem?_eq_some_iff.mp q).1
          simp at this; omega
        rw [hj] at q; cases q; exact .inr ⟨by omega, rfl⟩
    have np : ¬ live ρ p := fun l => by obtain ⟨o, z⟩ := A.some_ l; rw [hp] at z; cases z
    rcases key i e with ⟨_, z⟩ | ⟨z, q⟩ <;> rcases key j e' with ⟨_, z'⟩ | ⟨z', q'⟩
    · exact A.inj i j a z z'
    · subst q'; exact (np (.inl (List.mem_of_getElem? z))).elim
    · subst q; exact (np (.inl (List.mem_of_getElem? z'))).elim
    · omega
  tabs := A.tabs.ext fun b u e => by rw [upd_ne (ne_of_none e hp)]; exact e
  hid := (A.laid (o := o) hp).hid
  inv := G.mon _ _ _ _ A.lvok (Pst.alloc hp).toPst0 A.inv
  dis := fun a l m => by
    rw [show (ρ.push p).l = ρ.l ++ [some p] from rfl] at m
    rcases List.mem_append.mp m with m | m
    · exact A.dis a l m
    · simp at m
      subst m
      obtain ⟨o, z⟩ := A.some_ (.inr l)
      rw [hp] at z; cases z
end
end RX

set_option Elab.async false
set_option linter.all false
set_option maxRecDepth 100000
set_option maxHeartbeats 2000000
namespace RX
open PySem PySem.Spec PyProof.Rows L2

def Res.bind {α β : Type} (r : Res α) (k : α → Hd → Res β) : Res β := match r with
  | .ok a h => k a h
  | .exc c h => .exc c h
  | .stuck => .stuck
/-- what is wanted of a result -/
def RK (G : Gc) (ρ : Rh) (H : Hp) (σ : L2.St) (W : WX) {α : Type} (r : Res α) (K : α → Rh → Hp → Prop) : Prop := match r with
  | .ok a h' => ∀ ρ' H', Pst ρ H ρ' H' → AbH G ρ' H' h' → K a ρ' H'
  | .exc c h' => ∀ ρ' H', Pst ρ H ρ' H' → AbH G ρ' H' h' → W (.ref (G.ca c)) none σ H'
  | .stuck => False
/-- a value's wish -/
def KV (G : Gc) (Q : VK) : D → Rh → Hp → Prop := fun d ρ H => ∀ v, Rp G ρ H v d → Q v H
def TE_ (G : Gc) (W : WX) (m : ME) : L2.TE := fun σ H Q => ∃ ρ s h, AbS G ρ H s σ ∧ AbH G ρ H h ∧ RK G ρ H σ W (m s h) (KV G Q)
def TA_ (G : Gc) (W : WX) (m : MA) : L2.TA := fun σ H Q => ∃ ρ s h, AbS G ρ H s σ ∧ AbH G ρ H h ∧ RK G ρ H σ W (m s h) (fun ds ρ' H' => ∀ vs, RpL G ρ' H' vs ds → Q vs H')
def TT_ (G : Gc) (W : WX) (m : ME) : L2.TT := fun σ H Q => ∃ ρ s h, AbS G ρ H s σ ∧ AbH G ρ H h ∧ RK G ρ H σ W (m s h) (fun d _ H' => ∃ b, d = .bl b ∧ Q b H')
abbrev OkE (X : Cx) (G : Gc) (W : WX) (e : Expr) (m : ME) : Prop := PE X e (TE_ G W m)
abbrev OkT (X : Cx) (G : Gc) (W : WX) (e : Expr) (m : ME) : Prop := PT X e (TT_ G W m)
abbrev OkW (X : Cx) (G : Gc) (W : WX) (e : Expr) (m : ME) : Prop := PW X e (TT_ G W m)
abbrev OkA (X : Cx) (G : Gc) (W : WX) (es : List Expr) (m : MA) : Prop := PA X es (TA_ G W m)
section
variable {G : Gc} {ρ ρ1 : Rh} {H H1 : Hp} {σ : L2.St} {W : WX} {α β : Type} {K K' : α → Rh → Hp → Prop} {r : Res α}
theorem RK.shift (q : RK G ρ H σ W r K) (p : Pst ρ H ρ1 H1) : RK G ρ1 H1 σ W r K := by
  cases r with
  | ok a h => exact fun ρ' H' p' A => q ρ' H' (p.trans p') A
  | exc c h => exact fun ρ' H' p' A => q ρ' H' (p.trans p') A
  | stuck => exact q
theorem RK.imp (q : RK G ρ H σ W r K) (k : ∀ a ρ' H', K a ρ' H' → K' a ρ' H') : RK G ρ H σ W r K' := by
  cases r with
  | ok a h => exact fun ρ' H' p' A => k a ρ' H' (q ρ' H' p' A)
  | exc c h => exact q
  | stuck => exact q
theorem RK.bind {k : α → Hd → Res β} {K : β → Rh → Hp → Prop} (q : RK G ρ H σ W (r.bind k) K) : RK G ρ H σ W r fun a ρ1 H1 => ∃ h1, r = .ok a h1 ∧ AbH G ρ1 H1 h1 ∧ Pst ρ H ρ1 H1 ∧ RK G ρ1 H1 σ W (k a h1) K := by
  cases r with
  | ok a h => exact fun ρ' H' p' A => ⟨h, rfl, A, p', RK.shift (r := k a h) q p'⟩
  | exc c h => exact q
  | stuck => exact q
theorem RK.here {a : α} {h : Hd} (q : RK G ρ H σ W (.ok a h) K) (A : AbH G ρ H h) : K a ρ H := q ρ H .refl A
/-- a value that stands -/
theorem RK.val {Q : VK} {d : D} {h : Hd} {v : V} (q : RK G ρ H σ W (.ok d h) (KV G Q)) (A : AbH G ρ H h) (r : Rp G ρ H v d) : Q v H := q ρ H .refl A v r
/-- a new list, given out as data -/
theorem RK.newL {Q : VK} {ds : List D} {h : Hd} {vs : List V} (q : RK G ρ H σ W (.ok (.arr ds) h) (KV G Q)) (A : AbH G ρ H h) (r : RpL G ρ H vs ds) {p : Addr} (hp : H p = none) : Q (.ref p) (upd H p (.lst vs)) :=
  q ρ _ (Pst.laid hp) (A.laid hp) _ (.arr upd_same (fun l => by obtain ⟨o, z⟩ := A.some_ l; rw [hp] at z; cases z) (r.mono A (Pst.laid hp)))
theorem RK.newT {Q : VK} {ds : List D} {h : Hd} {vs : List V} (q : RK G ρ H σ W (.ok (.tup ds) h) (KV G Q)) (A : AbH G ρ H h) (r : RpL G ρ H vs ds) {p : Addr} (hp : H p = none) : Q (.ref p) (upd H p (.tup vs)) :=
  q ρ _ (Pst.laid hp) (A.laid hp) _ (.tup (.inl (.inl upd_same)) (r.mono A (Pst.laid hp)))
/-- a new list, numbered -/
theorem RK.newM {Q : VK} {ds : List D} {h : Hd} {vs : List V} (q : RK G ρ H σ W (.ok (.ref h.length) (h ++ [.lst ds])) (KV G Q)) (A : AbH G ρ H h) (r : RpL G ρ H vs ds) {p : Addr} (hp : H p = none) : Q (.ref p) (upd H p (.lst vs)) :=
  q (ρ.push p) _ (Pst.alloc hp) (A.alloc hp ⟨vs, upd_same, r.mono A (Pst.alloc hp)⟩) _ (.ref (by rw [← A.len]; simp [Rh.push]))
/-- a list's items: data, or a mutable one's -/
def lstOf (h : Hd) : D → Option (List D)
  | .arr xs => some xs
  | .ref i => match h[i]? with
    | some (.lst xs) => some xs
    | _ => none
  | _ => none
theorem lst_of {h : Hd} {v : V} {d : D} {ds : List D} (A : AbH G ρ H h) (r : Rp G ρ H v d) (e : lstOf h d = some ds) : ∃ a vs, v = .ref a ∧ H a = some (.lst vs) ∧ RpL G ρ H vs ds := by
  cases r with
  | arr hd nl rl => simp only [lstOf] at e; cases e; exact ⟨_, _, rfl, hd, rl⟩
  | ref hi =>
    obtain ⟨o, ho, x⟩ := A.ob _ _ hi
    simp only [lstOf, ho] at e
    cases o with
    | lst xs => cases e; obtain ⟨vs, z, rl⟩ := x; exact ⟨_, vs, rfl, z, rl⟩
    | dk ks => cases e
    | dead => cases e
  | gone hi => simp only [lstOf, A.gone _ hi] at e; cases e
  | _ => cases e
theorem Rp.tup_of {v : V} {ds : List D} (r : Rp G ρ H v (.tup ds)) : ∃ a vs, v = .ref a ∧ SqT G.K H a vs ∧ RpL G ρ H vs ds := by
  cases r with
  | tup s l => exact ⟨_, _, rfl, s, l⟩
theorem Rp.int_of {v : V} {i : Int} (r : Rp G ρ H v (.int i)) : v = .int i := by cases r; rfl
theorem Rp.bl_of {v : V} {i : Bool} (r : Rp G ρ H v (.bl i)) : v = .bl i := by cases r; rfl
theorem Rp.str_of {v : V} {i : Str} (r : Rp G ρ H v (.str i)) : v = .str i := by cases r; rfl
theorem Rp.non_of {v : V} (r : Rp G ρ H v .non) : v = .non := by cases r; rfl
end
section
variable {G : Gc} {X : Cx} {W : WX} {a b c e : Expr} {ma mb mc m : ME} {pos : Pos}
/-- one part, then what follows -/
theorem te_bind {ρ : Rh} {H : Hp} {σ : L2.St} {s : Sl} {h : Hd} {β : Type} {k : D → Hd → Res β} {K : β → Rh → Hp → Prop} {R : VK} (S : AbS G ρ H s σ) (A : AbH G ρ H h) (q : RK G ρ H σ W ((ma s h).bind k) K)
    (hk : ∀ d h1 ρ1 H1 x, Pst ρ H ρ1 H1 → AbS G ρ1 H1 s σ → AbH G ρ1 H1 h1 → Rp G ρ1 H1 x d → RK G ρ1 H1 σ W (k d h1) K → R x H1) : TE_ G W ma σ H R :=
  ⟨ρ, s, h, S, A, q.bind.imp fun d ρ1 H1 ⟨h1, _, A1, p, q1⟩ v r => hk d h1 ρ1 H1 v p (S.mono A p) A1 r q1⟩
theorem ta_bind {ρ : Rh} {H : Hp} {σ : L2.St} {s : Sl} {h : Hd} {β : Type} {m : MA} {k : List D → Hd → Res β} {K : β → Rh → Hp → Prop} {R : List V → Hp → Prop} (S : AbS G ρ H s σ) (A : AbH G ρ H h) (q : RK G ρ H σ W ((m s h).bind k) K)
    (hk : ∀ d h1 ρ1 H1 x, Pst ρ H ρ1 H1 → AbS G ρ1 H1 s σ → AbH G ρ1 H1 h1 → RpL G ρ1 H1 x d → RK G ρ1 H1 σ W (k d h1) K → R x H1) : TA_ G W m σ H R :=
  ⟨ρ, s, h, S, A, q.bind.imp fun d ρ1 H1 ⟨h1, _, A1, p, q1⟩ v r => hk d h1 ρ1 H1 v p (S.mono A p) A1 r q1⟩
theorem tt_bind {ρ : Rh} {H : Hp} {σ : L2.St} {s : Sl} {h : Hd} {β : Type} {k : D → Hd → Res β} {K : β → Rh → Hp → Prop} {R : Bool → Hp → Prop} (S : AbS G ρ H s σ) (A : AbH G ρ H h) (q : RK G ρ H σ W ((ma s h).bind k) K)
    (hs : ∀ d h1 ρ1 H1, RK G ρ1 H1 σ W (k d h1) K → AbH G ρ1 H1 h1 → ∃ b, d = .bl b)
    (hk : ∀ b h1 ρ1 H1, Pst ρ H ρ1 H1 → AbS G ρ1 H1 s σ → AbH G ρ1 H1 h1 → RK G ρ1 H1 σ W (k (.bl b) h1) K → R b H1) : TT_ G W ma σ H R :=
  ⟨ρ, s, h, S, A, q.bind.imp fun d ρ1 H1 ⟨h1, _, A1, p, q1⟩ => by
    obtain ⟨b, rfl⟩ := hs d h1 ρ1 H1 q1 A1
    exact ⟨b, rfl, hk b h1 ρ1 H1 p (S.mono A p) A1 q1⟩⟩
/-! ### names, constants -/
def mVar (i : Nat) : ME := fun s h => match s[i]? with
  | some (some d) => match d.isX with
    | false => .ok d h
    | true => .stuck
  | _ => .stuck
def mC (d : D) : ME := fun _ h => .ok d h
theorem okVar {i : Nat} {x : Str} (hN : X.N[i]? = some x := by rfl) (hv : Vis X.env.scope x := by first | exact .inl rfl | exact .inr (.inl rfl) | exact .inr (.inr rfl)) (hd : (x == ("__debug__" : Str)) = false := by decide) (hcd : (x == ("__classdict__" : Str)) = false := by decide) :
    OkE X G W (.Name x pos) (mVar i) := by
  refine ⟨fun pins s σ H Q I ⟨ρ, sd, h, S, A, q⟩ => (pe_var hN hv hd hcd).run pins s σ H Q I ?_⟩
  cases e : sd[i]? with
  | none => simp only [mVar, e] at q; exact q.elim
  | some o =>
    cases o with
    | none => simp only [mVar, e] at q; exact q.elim
    | some d =>
      simp only [mVar, e] at q
      cases hx : d.isX with
      | true => rw [hx] at q; exact q.elim
      | false =>
        rw [hx] at q
        obtain ⟨v, hv, r⟩ := S.at_ i d e hx
        exact ⟨v, hv, q.val A r⟩
theorem okC {v : V} {d : D} (hp : PE X e (tC v)) (r : ∀ ρ H, Rp G ρ H v d) : OkE X G W e (mC d) :=
  ⟨fun pins s σ H Q I ⟨ρ, sd, h, S, A, q⟩ => hp.run pins s σ H Q I (RK.val (d := d) (h := h) q A (r ρ H))⟩
theorem okInt {i j} : OkE X G W (.Constant (.int i) j pos) (mC (.int i)) := okC pe_int fun _ _ => .int i
theorem okBl {i j} : OkE X G W (.Constant (.bool i) j pos) (mC (.bl i)) := okC pe_bl fun _ _ => .bl i
theorem okNon {j} : OkE X G W (.Constant .none j pos) (mC .non) := okC pe_non fun _ _ => .non
theorem okStr {i j} : OkE X G W (.Constant (.str i) j pos) (mC (.str i)) := okC pe_str fun _ _ => .str i
/-- a module's constant -/
theorem okGlob {x : Str} {v : V} {u : Value} {d : D} (hg : Gl X x) (hm : X.mg x = some u) (r : RelV v u) (rp : ∀ ρ H, Rp G ρ H v d) (hd : (x == ("__debug__" : Str)) = false := by decide) : OkE X G W (.Name x pos) (mC d) := okC (pe_glob hg hm r hd) rp
/-! ### operators -/
def mOp (f : D → D → Hd → Res D) (ma mb : ME) : ME := fun s h => (ma s h).bind fun x h1 => (mb s h1).bind fun y h2 => f x y h2
def mUn (f : D → Hd → Res D) (ma : ME) : ME := fun s h => (ma s h).bind fun x h1 => f x h1
/-- an operation by values that does what f says -/
def FitR (X : Cx) (G : Gc) (g : Value → Value → Sem Value) (f : D → D → Hd → Res D) : Prop := X.K = G.K →
  ∀ (W : WX) (pins : List (Addr × Obj)) (s : Shared) (σ : L2.St) (H : Hp) (ρ : Rh) (h : Hd) (x y : V) (d e : D) (v u : Value) (Q : VK), Inv X pins σ H s → RelV x v → RelV y u → AbH G ρ H h → Rp G ρ H x d → Rp G ρ H y e → RK G ρ H σ W (f d e h) (KV G Q) →
    wpAny (model X.prog X.w) X.A (g v u) (EP X pins σ Q) X.xe s
def Fit1 (X : Cx) (G : Gc) (g : Value → Sem Value) (f : D → Hd → Res D) : Prop := X.K = G.K →
  ∀ (W : WX) (pins : List (Addr × Obj)) (s : Shared) (σ : L2.St) (H : Hp) (ρ : Rh) (h : Hd) (x : V) (d : D) (v : Value) (Q : VK), Inv X pins σ H s → RelV x v → AbH G ρ H h → Rp G ρ H x d → RK G ρ H σ W (f d h) (KV G Q) →
    wpAny (model X.prog X.w) X.A (g v) (EP X pins σ Q) X.xe s
/-- the reading by which HandS's own rules take a fit -/
def rFit (G : Gc) (f : D → D → Hd → Res D) : R2 := fun x y H Q => ∃ (W : WX) (σ : L2.St) (ρ : Rh) (h : Hd) (d e : D), AbH G ρ H h ∧ Rp G ρ H x d ∧ Rp G ρ H y e ∧ RK G ρ H σ W (f d e h) (KV G Q)
theorem FitR.op {g : Value → Value → Sem Value} {f : D → D → Hd → Res D} (F : FitR X G g f) (hK : X.K = G.K) : OpR X g (rFit G f) := fun pins s σ H x y v u Q I rx ry ⟨W, σ', ρ, h, d, e, A, dx, dy, q⟩ => by
  refine F hK (fun c d' _ H' => W c d' σ' H') pins s σ H ρ h x y d e v u Q I rx ry A dx dy ?_
  cases hf : f d e h with
  | ok a h => rw [hf] at q; exact q
  | exc c h => rw [hf] at q; exact q
  | stuck => rw [hf] at q; exact q
theorem rd_op {f : D → D → Hd → Res D} {σ : L2.St} {H : Hp} {Q : VK} (q : TE_ G W (mOp f ma mb) σ H Q) : tOp (rFit G f) (TE_ G W ma) (TE_ G W mb) σ H Q := by
  obtain ⟨ρ, sd, h, S, A, q⟩ := q
  refine te_bind S A q fun d h1 ρ1 H1 x p S1 A1 rx q1 => te_bind S1 A1 q1 fun d' h2 ρ2 H2 y p2 S2 A2 ry q2 => ?_
  exact ⟨W, σ, ρ2, h2, d, d', A2, rx.mono A1 p2, ry, q2⟩
/-- a test's wish as a value's -/
theorem tt_te {σ : L2.St} {H : Hp} {Q : Bool → Hp → Prop} (q : TT_ G W m σ H Q) : TE_ G W m σ H fun x H' => ∃ k, x = .bl k ∧ Q k H' := by
  obtain ⟨ρ, sd, h, S, A, q⟩ := q
  exact ⟨ρ, sd, h, S, A, q.imp fun d ρ' H' ⟨b, e, k⟩ v r => by subst e; exact ⟨b, r.bl_of, k⟩⟩
theorem okOp {op : Operator} {f : D → D → Hd → Res D} (F : FitR X G (binaryOp op) f) (ha : OkE X G W a ma) (hb : OkE X G W b mb) (hK : X.K = G.K := by rfl) : OkE X G W (.BinOp a op b pos) (mOp f ma mb) :=
  ⟨fun pins s σ H Q I q => (pe_op (F.op hK) ha hb).run pins s σ H Q I (rd_op q)⟩
theorem okCmp {op : CmpOp} {f : D → D → Hd → Res D} (F : FitR X G (compareOp op) f) (ha : OkE X G W a ma) (hb : OkE X G W b mb) (hK : X.K = G.K := by rfl) (hm : behindInMarks op b = false := by first | exact nomark _ | rfl) : OkE X G W (.Compare a [op] [b] pos) (mOp f ma mb) :=
  ⟨fun pins s σ H Q I q => (pe_cmpR (F.op hK) ha hb hm).run pins s σ H Q I (rd_op q)⟩
theorem okCmpT {op : CmpOp} {f : D → D → Hd → Res D} (F : FitR X G (compareOp op) f) (ha : OkE X G W a ma) (hb : OkE X G W b mb) (hK : X.K = G.K := by rfl) (hm : behindInMarks op b = false := by first | exact nomark _ | rfl) : OkT X G W (.Compare a [op] [b] pos) (mOp f ma mb) :=
  ⟨fun pins s σ H Q I q => (pt_cmpR (F.op hK) ha hb hm).run pins s σ H Q I (rd_op (tt_te q))⟩
/-- a test of a value -/
theorem okT (he : OkE X G W e m) (hs : ∀ whole, isTrue e X.env whole = (do let v ← whole; standAt e.pos; holding [v] (truthy v)) := by intro _; rfl) : OkT X G W e m :=
  ⟨fun pins s σ H Q I q => (pt_val he hs).run pins s σ H Q I (tt_te q)⟩
/-! ### chains -/
def mChain (f g : D → D → Hd → Res D) (ma mb mc : ME) : ME := fun s h => (ma s h).bind fun x h1 => (mb s h1).bind fun y h2 => (f x y h2).bind fun z h3 => match z with
  | .bl true => (mc s h3).bind fun w' h4 => g y w' h4
  | .bl false => .ok (.bl false) h3
  | _ => .stuck
theorem rd_chain {f g : D → D → Hd → Res D} {σ : L2.St} {H : Hp} {Q : VK} (q : TE_ G W (mChain f g ma mb mc) σ H Q) : tChain (rFit G f) (rFit G g) (TE_ G W ma) (TE_ G W mb) (TE_ G W mc) σ H Q := by
  obtain ⟨ρ, sd, h, S, A, q⟩ := q
  refine te_bind S A q fun d h1 ρ1 H1 x p S1 A1 rx q1 => te_bind S1 A1 q1 fun d' h2 ρ2 H2 y p2 S2 A2 ry q2 => ?_
  refine ⟨W, σ, ρ2, h2, d, d', A2, rx.mono A1 p2, ry, q2.bind.imp fun z ρ3 H3 ⟨h3, _, A3, p3, q3⟩ v r => ?_⟩
  cases z with
  | bl b =>
    obtain rfl := r.bl_of
    refine ⟨b, rfl, ?_⟩
    cases b with
    | true =>
      rw [if_pos rfl]
      refine te_bind (S2.mono A2 p3) A3 q3 fun d4 h4 ρ4 H4 y4 p4 S4 A4 r4 q4 => ?_
      exact ⟨W, σ, ρ4, h4, d', d4, A4, (ry.mono A2 p3).mono A3 p4, r4, q4⟩
    | false =>
      rw [if_neg (by decide)]
      exact RK.val q3 A3 (.bl false)
  | _ => exact q3.elim
theorem okChain {op op' : CmpOp} {f g : D → D → Hd → Res D} (F : FitR X G (compareOp op) f) (F' : FitR X G (compareOp op') g) (ha : OkE X G W a ma) (hb : OkE X G W b mb) (hc : OkE X G W c mc) (hK : X.K = G.K := by rfl) (hm : lastMarks [op, op'] [b, c] = false := by with_unfolding_all rfl) :
    OkE X G W (.Compare a [op, op'] [b, c] pos) (mChain f g ma mb mc) :=
  ⟨fun pins s σ H Q I q => (pe_chain (F.op hK) (F'.op hK) ha hb hc hm).run pins s σ H Q I (rd_chain q)⟩
theorem okChainT {op op' : CmpOp} {f g : D → D → Hd → Res D} (F : FitR X G (compareOp op) f) (F' : FitR X G (compareOp op') g) (ha : OkE X G W a ma) (hb : OkE X G W b mb) (hc : OkE X G W c mc) (hK : X.K = G.K := by rfl) (hm : lastMarks [op, op'] [b, c] = false := by with_unfolding_all rfl) :
    OkT X G W (.Compare a [op, op'] [b, c] pos) (mChain f g ma mb mc) :=
  ⟨fun pins s σ H Q I q => (pt_chain (F.op hK) (F'.op hK) ha hb hc hm).run pins s σ H Q I (rd_chain (tt_te q))⟩
/-! ### and, or, not, if -/
def mAnd (ma mb : ME) : ME := fun s h => (ma s h).bind fun x h1 => match x with
  | .bl true => mb s h1
  | .bl false => .ok (.bl false) h1
  | _ => .stuck
def mOr (ma mb : ME) : ME := fun s h => (ma s h).bind fun x h1 => match x with
  | .bl true => .ok (.bl true) h1
  | .bl false => mb s h1
  | _ => .stuck
def mNot (ma : ME) : ME := fun s h => (ma s h).bind fun x h1 => match x with
  | .bl b => .ok (.bl (!b)) h1
  | _ => .stuck
def mIf (mc ma mb : ME) : ME := fun s h => (mc s h).bind fun x h1 => match x with
  | .bl true => ma s h1
  | .bl false => mb s h1
  | _ => .stuck
variable {rest : List Expr}
theorem okAnd (ha : OkE X G W a ma) (hb : OkE X G W (.BoolOp .And (b :: rest) pos) mb) : OkE X G W (.BoolOp .And (a :: b :: rest) pos) (mAnd ma mb) := by
  refine ⟨fun pins s σ H Q I ⟨ρ, sd, h, S, A, q⟩ => (pe_and ha hb).run pins s σ H Q I ?_⟩
  refine te_bind S A q fun d h1 ρ1 H1 x p S1 A1 rx q1 => ?_
  cases d with
  | bl k =>
    obtain rfl := rx.bl_of
    cases k with
    | true => exact ⟨_, rfl, by rw [if_pos rfl]; exact ⟨ρ1, sd, h1, S1, A1, q1⟩⟩
    | false => exact ⟨_, rfl, by rw [if_neg (by decide)]; exact RK.val q1 A1 (.bl false)⟩
  | _ => exact q1.elim
theorem okOr (ha : OkE X G W a ma) (hb : OkE X G W (.BoolOp .Or (b :: rest) pos) mb) : OkE X G W (.BoolOp .Or (a :: b :: rest) pos) (mOr ma mb) := by
  refine ⟨fun pins s σ H Q I ⟨ρ, sd, h, S, A, q⟩ => (pe_or ha hb).run pins s σ H Q I ?_⟩
  refine te_bind S A q fun d h1 ρ1 H1 x p S1 A1 rx q1 => ?_
  cases d with
  | bl k =>
    obtain rfl := rx.bl_of
    cases k with
    | true => exact ⟨_, rfl, by rw [if_pos rfl]; exact RK.val q1 A1 (.bl true)⟩
    | false => exact ⟨_, rfl, by rw [if_neg (by decide)]; exact ⟨ρ1, sd, h1, S1, A1, q1⟩⟩
  | _ => exact q1.elim
theorem okBool1 {op : BoolOp} (ha : OkE X G W a ma) : OkE X G W (.BoolOp op [a] pos) ma := ⟨fun pins s σ H Q I q => (pe_one ha).run pins s σ H Q I q⟩
theorem okNot (ha : OkE X G W a ma) : OkE X G W (.UnaryOp .Not a pos) (mNot ma) := by
  refine ⟨fun pins s σ H Q I ⟨ρ, sd, h, S, A, q⟩ => (L2.pe_not ha).run pins s σ H Q I ?_⟩
  refine te_bind S A q fun d h1 ρ1 H1 x p S1 A1 rx q1 => ?_
  cases d with
  | bl k => obtain rfl := rx.bl_of; exact ⟨_, rfl, RK.val q1 A1 (.bl _)⟩
  | _ => exact q1.elim
theorem okIf (hc : OkT X G W c mc) (ha : OkE X G W a ma) (hb : OkE X G W b mb) : OkE X G W (.IfExp c a b pos) (mIf mc ma mb) := by
  refine ⟨fun pins s σ H Q I ⟨ρ, sd, h, S, A, q⟩ => (pe_ifExp hc ha hb).run pins s σ H Q I ?_⟩
  refine tt_bind S A q (fun d h1 ρ1 H1 q1 A1 => ?_) fun k h1 ρ1 H1 p S1 A1 q1 => ?_
  · cases d with
    | bl k => exact ⟨k, rfl⟩
    | _ => exact q1.elim
  · cases k with
    | true => rw [if_pos rfl]; exact ⟨ρ1, sd, h1, S1, A1, q1⟩
    | false => rw [if_neg (by decide)]; exact ⟨ρ1, sd, h1, S1, A1, q1⟩
/-- .. as tests -/
theorem okAndW (ha : OkT X G W a ma) (hb : OkW X G W (.BoolOp .And (b :: rest) pos) mb) : OkW X G W (.BoolOp .And (a :: b :: rest) pos) (mAnd ma mb) := by
  refine ⟨fun whole pins s σ H Q I ⟨ρ, sd, h, S, A, q⟩ => (pw_and ha hb).run whole pins s σ H Q I ?_⟩
  refine tt_bind S A q (fun d h1 ρ1 H1 q1 A1 => ?_) fun k h1 ρ1 H1 p S1 A1 q1 => ?_
  · cases d with
    | bl k => exact ⟨k, rfl⟩
    | _ => exact q1.elim
  · cases k with
    | true => rw [if_pos rfl]; exact ⟨ρ1, sd, h1, S1, A1, q1⟩
    | false =>
      rw [if_neg (by decide)]
      obtain ⟨b, e, z⟩ := q1.here A1
      cases e; exact z
theorem okOrW (ha : OkT X G W a ma) (hb : OkW X G W (.BoolOp .Or (b :: rest) pos) mb) : OkW X G W (.BoolOp .Or (a :: b :: rest) pos) (mOr ma mb) := by
  refine ⟨fun whole pins s σ H Q I ⟨ρ, sd, h, S, A, q⟩ => (pw_or ha hb).run whole pins s σ H Q I ?_⟩
  refine tt_bind S A q (fun d h1 ρ1 H1 q1 A1 => ?_) fun k h1 ρ1 H1 p S1 A1 q1 => ?_
  · cases d with
    | bl k => exact ⟨k, rfl⟩
    | _ => exact q1.elim
  · cases k with
    | true =>
      rw [if_pos rfl]
      obtain ⟨b, e, z⟩ := q1.here A1
      cases e; exact z
    | false => rw [if_neg (by decide)]; exact ⟨ρ1, sd, h1, S1, A1, q1⟩
theorem okAnd1W (ha : OkT X G W a ma) : OkW X G W (.BoolOp .And [a] pos) ma := ⟨fun whole pins s σ H Q I q => (pw_and1 ha).run whole pins s σ H Q I q⟩
theorem okOr1W (ha : OkT X G W a ma) : OkW X G W (.BoolOp .Or [a] pos) ma := ⟨fun whole pins s σ H Q I q => (pw_or1 ha).run whole pins s σ H Q I q⟩
theorem okWT (ha : OkW X G W a ma) : OkT X G W a ma := ⟨fun pins s σ H Q I q => ha.pt.run pins s σ H Q I q⟩
theorem okNotT (ha : OkT X G W a ma) : OkT X G W (.UnaryOp .Not a pos) (mNot ma) := by
  refine ⟨fun pins s σ H Q I ⟨ρ, sd, h, S, A, q⟩ => (pt_not ha).run pins s σ H Q I ?_⟩
  refine tt_bind S A q (fun d h1 ρ1 H1 q1 A1 => ?_) fun k h1 ρ1 H1 p S1 A1 q1 => ?_
  · cases d with
    | bl k => exact ⟨k, rfl⟩
    | _ => exact q1.elim
  · obtain ⟨b, e, z⟩ := q1.here A1
    cases e; exact z
/-! ### one operand -/
def r1Fit (G : Gc) (f : D → Hd → Res D) : V → Hp → VK → Prop := fun x H Q => ∃ (W : WX) (σ : L2.St) (ρ : Rh) (h : Hd) (d : D), AbH G ρ H h ∧ Rp G ρ H x d ∧ RK G ρ H σ W (f d h) (KV G Q)
theorem Fit1.un {g : Value → Sem Value} {f : D → Hd → Res D} (F : Fit1 X G g f) (hK : X.K = G.K) : UnR X g (r1Fit G f) := fun pins s σ H x v Q I rx ⟨W, σ', ρ, h, d, A, dx, q⟩ => by
  refine F hK (fun c d' _ H' => W c d' σ' H') pins s σ H ρ h x d v Q I rx A dx ?_
  cases hf : f d h with
  | ok a h => rw [hf] at q; exact q
  | exc c h => rw [hf] at q; exact q
  | stuck => rw [hf] at q; exact q
theorem okUn {op : UnaryOp} {f : D → Hd → Res D} (F : Fit1 X G (unaryOp op) f) (ha : OkE X G W a ma) (hK : X.K = G.K := by rfl) : OkE X G W (.UnaryOp op a pos) (mUn f ma) := by
  refine ⟨fun pins s σ H Q I ⟨ρ, sd, h, S, A, q⟩ => (pe_un (F.un hK) ha).run pins s σ H Q I ?_⟩
  exact te_bind S A q fun d h1 ρ1 H1 x p S1 A1 rx q1 => ⟨W, σ, ρ1, h1, d, A1, rx, q1⟩
/-! ### argument lists, displays -/
def aNil : MA := fun _ h => .ok [] h
def aCons (m : ME) (r : MA) : MA := fun s h => (m s h).bind fun x h1 => (r s h1).bind fun xs h2 => .ok (x :: xs) h2
variable {es : List Expr} {mr : MA}
theorem okaNil : OkA X G W [] aNil := ⟨fun pos pins s σ H Q I ⟨ρ, sd, h, S, A, q⟩ => pa_nil.run pos pins s σ H Q I (q.here A _ .nil)⟩
theorem okaCons (ha : OkE X G W e m) (hr : OkA X G W es mr) (hs : starEach (e :: es) X.env = (false, eval e X.env) :: starEach es X.env := by rfl) : OkA X G W (e :: es) (aCons m mr) := by
  refine ⟨fun pos pins s σ H Q I ⟨ρ, sd, h, S, A, q⟩ => (pa_cons ha hr hs).run pos pins s σ H Q I ?_⟩
  refine te_bind S A q fun d h1 ρ1 H1 x p S1 A1 rx q1 => ta_bind S1 A1 q1 fun ds h2 ρ2 H2 vs p2 S2 A2 rs q2 => ?_
  exact q2.here A2 _ (.cons (rx.mono A1 p2) rs)
def mTup (ms : MA) : ME := fun s h => (ms s h).bind fun xs h1 => if xs.length ≤ sizeLine then .ok (.tup xs) h1 else .stuck
def mLst (ms : MA) : ME := fun s h => (ms s h).bind fun xs h1 => if xs.length ≤ sizeLine then .ok (.arr xs) h1 else .stuck
/-- a list that is to change -/
def mLstM (ms : MA) : ME := fun s h => (ms s h).bind fun xs h1 => if xs.length ≤ sizeLine then .ok (.ref h1.length) (h1 ++ [.lst xs]) else .stuck
theorem okTup {x1} (hr : OkA X G W es mr) : OkE X G W (.Tuple es x1 pos) (mTup mr) := by
  refine ⟨fun pins s σ H Q I ⟨ρ, sd, h, S, A, q⟩ => (pe_tup hr).run pins s σ H Q I ?_⟩
  refine ta_bind S A q fun ds h1 ρ1 H1 vs p S1 A1 rs q1 => ?_
  by_cases hl : ds.length ≤ sizeLine
  · rw [if_pos hl] at q1
    exact ⟨by rw [rs.length]; exact hl, fun p hp => q1.newT A1 rs hp⟩
  · rw [if_neg hl] at q1; exact q1.elim
theorem okLst (hr : OkA X G W es mr) : OkE X G W (.List es pos) (mLst mr) := by
  refine ⟨fun pins s σ H Q I ⟨ρ, sd, h, S, A, q⟩ => (pe_lst hr).run pins s σ H Q I ?_⟩
  refine ta_bind S A q fun ds h1 ρ1 H1 vs p S1 A1 rs q1 => ?_
  by_cases hl : ds.length ≤ sizeLine
  · rw [if_pos hl] at q1
    exact ⟨by rw [rs.length]; exact hl, fun p hp => q1.newL A1 rs hp⟩
  · rw [if_neg hl] at q1; exact q1.elim
theorem okLstM (hr : OkA X G W es mr) : OkE X G W (.List es pos) (mLstM mr) := by
  refine ⟨fun pins s σ H Q I ⟨ρ, sd, h, S, A, q⟩ => (pe_lst hr).run pins s σ H Q I ?_⟩
  refine ta_bind S A q fun ds h1 ρ1 H1 vs p S1 A1 rs q1 => ?_
  by_cases hl : ds.length ≤ sizeLine
  · rw [if_pos hl] at q1
    exact ⟨by rw [rs.length]; exact hl, fun p hp => q1.newM A1 rs hp⟩
  · rw [if_neg hl] at q1; exact q1.elim
end
end RX

set_option Elab.async false
set_option linter.all false
set_option maxRecDepth 100000
set_option maxHeartbeats 2000000
namespace RX
open PySem PySem.Spec PyProof.Rows L2
section
variable {G : Gc} {X : Cx}
/-! ### ints -/
def fAdd : D → D → Hd → Res D := fun d e h => match d, e with
  | .int i, .int j => .ok (.int (i + j)) h
  | .tup xs, .tup ys => if xs.length + ys.length ≤ sizeLine then .ok (.tup (xs ++ ys)) h else .stuck
  | d, e => match lstOf h d, lstOf h e with
    | some xs, some ys => if xs.length + ys.length ≤ sizeLine then .ok (.arr (xs ++ ys)) h else .stuck
    | _, _ => .stuck
def fSub : D → D → Hd → Res D := fun d e h => match d, e with
  | .int i, .int j => .ok (.int (i - j)) h
  | _, _ => .stuck
def small64 (i : Int) : Bool := decide (i.natAbs < 18446744073709551616)
def fMul : D → D → Hd → Res D := fun d e h => match d, e with
  | .int i, .int j => if small64 i || small64 j then .ok (.int (i * j)) h else .stuck
  | .tup xs, .int k => if decide (xs ≠ []) && decide (2 ≤ k) && decide (k ≤ 1000) && decide (xs.length ≤ 1000) then .ok (.tup (List.replicate k.toNat xs).flatten) h else .stuck
  | d, .int k => match lstOf h d with
    | some xs => if decide (-(2 ^ 62) ≤ k) && decide (k < 2 ^ 62) && decide (xs.length * k.toNat ≤ sizeLine) then .ok (.arr (List.replicate k.toNat xs).flatten) h else .stuck
    | none => .stuck
  | _, _ => .stuck
/-- a repeated list that is to change -/
def fMulM : D → D → Hd → Res D := fun d e h => match e with
  | .int k => match lstOf h d with
    | some xs => if decide (-(2 ^ 62) ≤ k) && decide (k < 2 ^ 62) && decide (xs.length * k.toNat ≤ sizeLine) then .ok (.ref h.length) (h ++ [.lst (List.replicate k.toNat xs).flatten]) else .stuck
    | none => .stuck
  | _ => .stuck
def fDiv : D → D → Hd → Res D := fun d e h => match d, e with
  | .int i, .int j => if decide (0 < j) && decide (j < 2 ^ 9000) then .ok (.int (i / j)) h else .stuck
  | _, _ => .stuck
def fMod : D → D → Hd → Res D := fun d e h => match d, e with
  | .int i, .int j => if decide (0 < j) then .ok (.int (i % j)) h else .stuck
  | _, _ => .stuck
def fPow : D → D → Hd → Res D := fun d e h => match d, e with
  | .int i, .int j => if decide (0 ≤ j) && decide (j ≤ 1000) && small64 i then .ok (.int (i ^ j.toNat)) h else .stuck
  | _, _ => .stuck
def fNeg : D → Hd → Res D := fun d h => match d with
  | .int i => .ok (.int (-i)) h
  | _ => .stuck
theorem small64_of {i : Int} (h : small64 i = true) : -(2 ^ 64) < i ∧ i < 2 ^ 64 := by
  unfold small64 at h
  rw [decide_eq_true_eq] at h
  have e : (2 : Int) ^ 64 = 18446744073709551616 := by decide
  rw [e]
  omega
theorem log2_of_lt {j : Int} {b : Nat} (h0 : 0 < j) (h : j < 2 ^ b) (hb : 0 < b) : j.natAbs.log2 < b := by
  have hn : j.natAbs ≠ 0 := by omega
  refine (Nat.log2_lt hn).2 ?_
  have e : ((j.natAbs : Nat) : Int) = j := by omega
  have : ((j.natAbs : Nat) : Int) < ((2 ^ b : Nat) : Int) := by rw [e]; push_cast; exact h
  exact Int.ofNat_lt.mp this
/-- a list's object, by its data -/
theorem lst_rel {ρ : Rh} {H : Hp} {h : Hd} {v : V} {d : D} {ds : List D} (A : AbH G ρ H h) (r : Rp G ρ H v d) (e : lstOf h d = some ds) : ∃ a vs, v = .ref a ∧ H a = some (.lst vs) ∧ RpL G ρ H vs ds := lst_of A r e
theorem catL {d e : D} {W : WX} {pins : List (Addr × Obj)} {s : Shared} {σ : L2.St} {H : Hp} {ρ : Rh} {h : Hd} {x y : V} {v u : Value} {Q : VK} (I : Inv X pins σ H s) (rx : RelV x v) (ry : RelV y u) (A : AbH G ρ H h) (dx : Rp G ρ H x d) (dy : Rp G ρ H y e)
    (q : RK G ρ H σ W (match lstOf h d, lstOf h e with
    | some xs, some ys => if xs.length + ys.length ≤ sizeLine then Res.ok (D.arr (xs ++ ys)) h else .stuck
    | _, _ => .stuck) (KV G Q)) : wpAny (model X.prog X.w) X.A (binaryOp .Add v u) (EP X pins σ Q) X.xe s := by
  cases ed : lstOf h d with
  | none => rw [ed] at q; exact q.elim
  | some xs =>
    cases ee : lstOf h e with
    | none => rw [ed, ee] at q; exact q.elim
    | some ys =>
      rw [ed, ee] at q
      obtain ⟨a, vs, rfl, ha, ra⟩ := lst_rel A dx ed
      obtain ⟨b, ws, rfl, hb, rb⟩ := lst_rel A dy ee
      by_cases hl : xs.length + ys.length ≤ sizeLine
      · simp only [if_pos hl] at q
        exact op_cat pins s σ H _ _ v u Q I rx ry ⟨a, b, vs, ws, rfl, rfl, ha, hb, by rw [ra.length, rb.length]; exact hl, fun p hp => q.newL A (ra.append rb) hp⟩
      · simp only [if_neg hl] at q; exact q.elim
theorem fit_add : FitR X G (binaryOp .Add) fAdd := by
  intro hK W pins s σ H ρ h x y d e v u Q I rx ry A dx dy q
  cases d with
  | int i =>
    cases e with
    | int j =>
      obtain rfl := dx.int_of
      obtain rfl := dy.int_of
      exact op_add pins s σ H _ _ v u Q I rx ry ⟨i, j, rfl, rfl, RK.val (d := .int (i + j)) q A (.int _)⟩
    | _ => exact catL (d := .int i) I rx ry A dx dy q
  | tup xs =>
    cases e with
    | tup ys =>
      obtain ⟨a, vs, rfl, ha, ra⟩ := dx.tup_of
      obtain ⟨b, ws, rfl, hb, rb⟩ := dy.tup_of
      rw [← hK] at ha hb
      simp only [fAdd] at q
      by_cases hl : xs.length + ys.length ≤ sizeLine
      · rw [if_pos hl] at q
        refine op_catA pins s σ H _ _ v u Q I rx ry ⟨a, b, vs, ws, rfl, rfl, ha, hb, by rw [ra.length, rb.length]; exact hl, fun e0 => ?_, fun n0 e0 => ?_, fun n0 n1 p hp => ?_⟩
        · subst e0
          cases ra
          exact q.val A dy
        · subst e0
          cases rb
          rw [List.append_nil] at q
          exact q.val A dx
        · exact q.newT A (ra.append rb) hp
      · rw [if_neg hl] at q; exact q.elim
    | _ => exact catL (d := .tup xs) I rx ry A dx dy q
  | _ => exact catL I rx ry A dx dy q
theorem fit_sub : FitR X G (binaryOp .Sub) fSub := by
  intro hK W pins s σ H ρ h x y d e v u Q I rx ry A dx dy q
  unfold fSub at q
  split at q
  · obtain rfl := dx.int_of
    obtain rfl := dy.int_of
    exact op_sub pins s σ H _ _ v u Q I rx ry ⟨_, _, rfl, rfl, q.val A (.int _)⟩
  · exact q.elim
theorem repL {d : D} {k : Int} {W : WX} {pins : List (Addr × Obj)} {s : Shared} {σ : L2.St} {H : Hp} {ρ : Rh} {h : Hd} {x y : V} {v u : Value} {Q : VK} {f : List D → Res D} (I : Inv X pins σ H s) (rx : RelV x v) (ry : RelV y u) (A : AbH G ρ H h) (dx : Rp G ρ H x d) (dy : Rp G ρ H y (.int k))
    (hf : ∀ (xs : List D) (vs : List V), RpL G ρ H vs xs → RK G ρ H σ W (f xs) (KV G Q) → ∀ p, H p = none → Q (.ref p) (upd H p (.lst (List.replicate k.toNat vs).flatten)))
    (q : RK G ρ H σ W (match lstOf h d with
    | some xs => if decide (-(2 ^ 62) ≤ k) && decide (k < 2 ^ 62) && decide (xs.length * k.toNat ≤ sizeLine) then f xs else .stuck
    | none => .stuck) (KV G Q)) : wpAny (model X.prog X.w) X.A (binaryOp .Mult v u) (EP X pins σ Q) X.xe s := by
  cases ed : lstOf h d with
  | none => rw [ed] at q; exact q.elim
  | some xs =>
    simp only [ed] at q
    obtain ⟨a, vs, rfl, ha, ra⟩ := lst_rel A dx ed
    obtain rfl := dy.int_of
    split at q
    · rename_i hc
      simp only [Bool.and_eq_true, decide_eq_true_eq] at hc
      exact op_rep pins s σ H _ _ v u Q I rx ry ⟨a, k, vs, rfl, rfl, ha, by omega, by omega, by rw [ra.length]; exact hc.2, hf xs vs ra q⟩
    · exact q.elim
theorem fit_mul : FitR X G (binaryOp .Mult) fMul := by
  intro hK W pins s σ H ρ h x y d e v u Q I rx ry A dx dy q
  cases e with
  | int k =>
    cases d with
    | int i =>
      obtain rfl := dx.int_of
      obtain rfl := dy.int_of
      simp only [fMul] at q
      split at q
      · rename_i hc
        refine op_mul pins s σ H _ _ v u Q I rx ry ⟨_, _, rfl, rfl, ?_, q.val A (.int _)⟩
        rcases Bool.or_eq_true_iff.mp hc with z | z
        · exact .inl (small64_of z)
        · exact .inr (small64_of z)
      · exact q.elim
    | tup xs =>
      simp only [fMul] at q
      obtain ⟨a, vs, rfl, ha, ra⟩ := dx.tup_of
      rw [← hK] at ha
      obtain rfl := dy.int_of
      split at q
      · rename_i hc
        simp only [Bool.and_eq_true, decide_eq_true_eq] at hc
        refine op_repT pins s σ H _ _ v u Q I rx ry ⟨a, k, vs, rfl, rfl, ha, ?_, hc.1.1.2, hc.1.2, by rw [ra.length]; exact hc.2, fun p hp => q.newT A (ra.flat _) hp⟩
        intro e0; subst e0; cases ra; exact hc.1.1.1 rfl
      · exact q.elim
    | _ => exact repL I rx ry A dx dy (fun xs vs r q p hp => q.newL A (r.flat _) hp) q
  | _ => cases d <;> exact q.elim
theorem fit_mulM : FitR X G (binaryOp .Mult) fMulM := by
  intro hK W pins s σ H ρ h x y d e v u Q I rx ry A dx dy q
  cases e with
  | int k => exact repL I rx ry A dx dy (fun xs vs r q p hp => q.newM A (r.flat _) hp) q
  | _ => exact q.elim
theorem fit_div : FitR X G (binaryOp .FloorDiv) fDiv := by
  intro hK W pins s σ H ρ h x y d e v u Q I rx ry A dx dy q
  unfold fDiv at q
  split at q
  · obtain rfl := dx.int_of
    obtain rfl := dy.int_of
    split at q
    · rename_i hc
      simp only [Bool.and_eq_true, decide_eq_true_eq] at hc
      exact op_fdivW pins s σ H _ _ v u Q I rx ry ⟨_, _, rfl, rfl, ⟨hc.1, log2_of_lt hc.1 hc.2 (by decide)⟩, q.val A (.int _)⟩
    · exact q.elim
  · exact q.elim
theorem fit_mod : FitR X G (binaryOp .Mod) fMod := by
  intro hK W pins s σ H ρ h x y d e v u Q I rx ry A dx dy q
  unfold fMod at q
  split at q
  · obtain rfl := dx.int_of
    obtain rfl := dy.int_of
    split at q
    · rename_i hc
      exact op_mod pins s σ H _ _ v u Q I rx ry ⟨_, _, rfl, rfl, of_decide_eq_true hc, q.val A (.int _)⟩
    · exact q.elim
  · exact q.elim
theorem fit_pow : FitR X G (binaryOp .Pow) fPow := by
  intro hK W pins s σ H ρ h x y d e v u Q I rx ry A dx dy q
  unfold fPow at q
  split at q
  · obtain rfl := dx.int_of
    obtain rfl := dy.int_of
    split at q
    · rename_i hc
      simp only [Bool.and_eq_true, decide_eq_true_eq] at hc
      have := small64_of hc.2
      exact op_pow pins s σ H _ _ v u Q I rx ry ⟨_, _, rfl, rfl, ⟨hc.1.1, by omega, by omega⟩, q.val A (.int _)⟩
    · exact q.elim
  · exact q.elim
theorem fit_neg : Fit1 X G (unaryOp .USub) fNeg := by
  intro hK W pins s σ H ρ h x d v Q I rx A dx q
  unfold fNeg at q
  split at q
  · obtain rfl := dx.int_of
    exact un_neg pins s σ H _ v Q I rx ⟨_, rfl, q.val A (.int _)⟩
  · exact q.elim
/-! ### comparisons of ints -/
def fCmp (p : Int → Int → Bool) : D → D → Hd → Res D := fun d e h => match d, e with
  | .int i, .int j => .ok (.bl (p i j)) h
  | _, _ => .stuck
theorem fit_cmp {op : CmpOp} {p : Int → Int → Bool} (ho : OpR X (compareOp op) (rI0 fun i j => .bl (p i j))) : FitR X G (compareOp op) (fCmp p) := by
  intro hK W pins s σ H ρ h x y d e v u Q I rx ry A dx dy q
  unfold fCmp at q
  split at q
  · obtain rfl := dx.int_of
    obtain rfl := dy.int_of
    exact ho pins s σ H _ _ v u Q I rx ry ⟨_, _, rfl, rfl, q.val A (.bl _)⟩
  · exact q.elim
/-- <, also of tuples of ints -/
def intsOf : List D → Option (List Int)
  | [] => some []
  | .int i :: r => (intsOf r).map (i :: ·)
  | _ => none
theorem intsOf_eq : ∀ {ds : List D} {ns : List Int}, intsOf ds = some ns → ds = ns.map D.int
  | [], ns, e => by cases e; rfl
  | .int i :: r, ns, e => by
    simp only [intsOf] at e
    cases h : intsOf r with
    | none => rw [h] at e; cases e
    | some ms => rw [h] at e; cases e; rw [intsOf_eq h]; rfl
  | .non :: r, ns, e => by cases e
  | .bl _ :: r, ns, e => by cases e
  | .str _ :: r, ns, e => by cases e
  | .ty _ :: r, ns, e => by cases e
  | .tup _ :: r, ns, e => by cases e
  | .arr _ :: r, ns, e => by cases e
  | .dk _ :: r, ns, e => by cases e
  | .ref _ :: r, ns, e => by cases e
  | .fn _ :: r, ns, e => by cases e
  | .cls _ :: r, ns, e => by cases e
  | .exc _ :: r, ns, e => by cases e
  | .scr _ :: r, ns, e => by cases e
@[simp] theorem intsOf_map : ∀ ns : List Int, intsOf (ns.map D.int) = some ns
  | [] => rfl
  | n :: ns => by simp [intsOf, intsOf_map ns]
def fLt : D → D → Hd → Res D := fun d e h => match d, e with
  | .int i, .int j => .ok (.bl (decide (i < j))) h
  | .tup xs, .tup ys => match intsOf xs, intsOf ys with
    | some ns, some ms => .ok (.bl (HT.lexLt ns ms)) h
    | _, _ => .stuck
  | _, _ => .stuck
theorem fit_lt (hu : X.A.units < cLine) : FitR X G (compareOp .Lt) fLt := by
  intro hK W pins s σ H ρ h x y d e v u Q I rx ry A dx dy q
  unfold fLt at q
  split at q
  · obtain rfl := dx.int_of
    obtain rfl := dy.int_of
    exact op_lt pins s σ H _ _ v u Q I rx ry ⟨_, _, rfl, rfl, q.val A (.bl _)⟩
  · obtain ⟨a, vs, rfl, ha, ra⟩ := dx.tup_of
    obtain ⟨b, ws, rfl, hb, rb⟩ := dy.tup_of
    split at q
    · rename_i e1 e2
      rw [intsOf_eq e1] at ra
      rw [intsOf_eq e2] at rb
      rw [ra.ints, ← hK] at ha
      rw [rb.ints, ← hK] at hb
      exact op_ltT hu pins s σ H _ _ v u Q I rx ry ⟨a, b, _, _, rfl, rfl, ha, hb, q.val A (.bl _)⟩
    · exact q.elim
  · exact q.elim
abbrev fGt := fCmp fun i j => decide (j < i)
abbrev fLe := fCmp fun i j => decide (i ≤ j)
abbrev fGe := fCmp fun i j => decide (j ≤ i)
theorem fit_gt : FitR X G (compareOp .Gt) fGt := fit_cmp op_gt
theorem fit_le : FitR X G (compareOp .LtE) fLe := fit_cmp op_le
theorem fit_ge : FitR X G (compareOp .GtE) fGe := fit_cmp op_ge
/-! ### is None, is True -/
def fIsN : D → D → Hd → Res D := fun d e h => match e with
  | .non => match d with
    | .non => .ok (.bl true) h
    | .bl _ | .int _ | .str _ | .tup _ | .arr _ | .dk _ => .ok (.bl false) h
    | _ => .stuck
  | _ => .stuck
def fNotN : D → D → Hd → Res D := fun d e h => (fIsN d e h).bind fun x h => match x with
  | .bl b => .ok (.bl (!b)) h
  | _ => .stuck
theorem isN_rel {ρ : Rh} {H : Hp} {h : Hd} {d : D} {v : V} {b : Bool} (e : fIsN d .non h = .ok (.bl b) h) (r : Rp G ρ H v d) : decide (v = .non) = b := by
  cases d <;> first | (simp [fIsN] at e; subst e; cases r; simp) | (simp [fIsN] at e)
theorem isN_ok {h : Hd} {d : D} : (∃ b, fIsN d .non h = .ok (.bl b) h) ∨ fIsN d .non h = .stuck := by
  cases d <;> first | exact .inl ⟨_, rfl⟩ | exact .inr rfl
theorem fit_isN : FitR X G (compareOp .Is) fIsN := by
  intro hK W pins s σ H ρ h x y d e v u Q I rx ry A dx dy q
  cases e with
  | non =>
    obtain rfl := dy.non_of
    rcases isN_ok (h := h) (d := d) with ⟨b, e⟩ | e
    · rw [e] at q
      refine op_isN pins s σ H _ _ v u Q I rx ry ⟨rfl, ?_⟩
      rw [isN_rel e dx]
      exact q.val A (.bl _)
    · rw [e] at q; exact q.elim
  | _ => exact q.elim
theorem fit_notN : FitR X G (compareOp .IsNot) fNotN := by
  intro hK W pins s σ H ρ h x y d e v u Q I rx ry A dx dy q
  cases e with
  | non =>
    obtain rfl := dy.non_of
    rcases isN_ok (h := h) (d := d) with ⟨b, e⟩ | e
    · simp only [fNotN, e, Res.bind] at q
      refine op_notN pins s σ H _ _ v u Q I rx ry ⟨rfl, ?_⟩
      rw [isN_rel e dx]
      exact q.val A (.bl _)
    · simp only [fNotN, e, Res.bind] at q; exact q.elim
  | _ => simp only [fNotN, fIsN, Res.bind] at q; exact q.elim
end
end RX

set_option Elab.async false
set_option linter.all false
set_option maxRecDepth 100000
set_option maxHeartbeats 2000000
namespace RX
open PySem PySem.Spec PyProof.Rows L2
/-! ### as the library's data -/
mutual
def toPy : D → PyData
  | .non => .none
  | .bl b => .bool b
  | .int i => .int i
  | .str s => .str s
  | .tup xs => .tuple (toPyL xs)
  | .arr xs => .list (toPyL xs)
  | .dk _ => .dict []
  | _ => .none
def toPyL : List D → List PyData
  | [] => []
  | x :: xs => toPy x :: toPyL xs
end
mutual
/-- data that == reads -/
def isD : D → Bool
  | .non => true
  | .bl _ => true
  | .int _ => true
  | .str _ => true
  | .tup xs => isDL xs
  | .arr xs => isDL xs
  | _ => false
def isDL : List D → Bool
  | [] => true
  | x :: xs => isD x && isDL xs
end
@[simp] theorem toPyL_map {α : Type} (f : α → D) : ∀ xs : List α, toPyL (xs.map f) = xs.map fun x => toPy (f x)
  | [] => by simp [toPyL]
  | x :: xs => by simp [toPyL, toPyL_map f xs]
theorem toPyL_eq : ∀ xs : List D, toPyL xs = xs.map toPy
  | [] => by simp [toPyL]
  | x :: xs => by simp [toPyL, toPyL_eq xs]
theorem isDL_eq : ∀ xs : List D, isDL xs = xs.all isD
  | [] => by simp [isDL]
  | x :: xs => by simp [isDL, isDL_eq xs]
def top (h : Hd) (d : D) : D := match lstOf h d with
  | some xs => .arr xs
  | none => d
def dep (d : D) : Nat := (toPy d).depth
/-- data that is not too deep -/
def shp (d : D) : Bool := isD d && decide (dep d ≤ 50)
def fEq : D → D → Hd → Res D := fun d e h => if shp (top h d) && shp (top h e) then .ok (.bl (PyData.eqv (toPy (top h d)) (toPy (top h e)))) h else .stuck
def fNe : D → D → Hd → Res D := fun d e h => if shp (top h d) && shp (top h e) then .ok (.bl (!PyData.eqv (toPy (top h d)) (toPy (top h e)))) h else .stuck
mutual
theorem plain_of : ∀ d : D, isD d = true → (toPy d).plain = true
  | .non, _ => by rw [toPy]; rfl
  | .bl _, _ => by rw [toPy]; rfl
  | .int _, _ => by rw [toPy]; rfl
  | .str _, _ => by rw [toPy]; rfl
  | .tup xs, e => by rw [toPy]; show PyData.plainAll _ = true; exact plainL_of xs (by rw [isD] at e; exact e)
  | .arr xs, e => by rw [toPy]; show PyData.plainAll _ = true; exact plainL_of xs (by rw [isD] at e; exact e)
  | .ty _, e => by simp [isD] at e
  | .dk _, e => by simp [isD] at e
  | .ref _, e => by simp [isD] at e
  | .fn _, e => by simp [isD] at e
  | .cls _, e => by simp [isD] at e
  | .exc _, e => by simp [isD] at e
  | .scr _, e => by simp [isD] at e
theorem plainL_of : ∀ ds : List D, isDL ds = true → PyData.plainAll (toPyL ds) = true
  | [], _ => by rw [toPyL]; rfl
  | d :: ds, e => by
    rw [isDL, Bool.and_eq_true] at e
    rw [toPyL]
    show (PyData.plain _ && PyData.plainAll _) = true
    rw [plain_of d e.1, plainL_of ds e.2]; rfl
end
section
variable {G : Gc} {X : Cx} {ρ : Rh} {H : Hp}
mutual
theorem dp_of : ∀ {d : D} {v : V}, Rp G ρ H v d → isD d = true → Dp G.K H v (toPy d)
  | .non, _, r, _ => by cases r; rw [toPy]; exact .non
  | .bl b, _, r, _ => by cases r; rw [toPy]; exact .bl b
  | .int i, _, r, _ => by cases r; rw [toPy]; exact .int i
  | .str x, _, r, _ => by cases r; rw [toPy]; exact .str x
  | .tup xs, _, r, e => by
    cases r with
    | tup s l => rw [toPy]; exact .tup s (dpL_of l (by rw [isD] at e; exact e))
  | .arr xs, _, r, e => by
    cases r with
    | arr s n l => rw [toPy]; exact .lst (.inl (.inl s)) (dpL_of l (by rw [isD] at e; exact e))
  | .ty _, _, _, e => by simp [isD] at e
  | .dk _, _, _, e => by simp [isD] at e
  | .ref _, _, _, e => by simp [isD] at e
  | .fn _, _, _, e => by simp [isD] at e
  | .cls _, _, _, e => by simp [isD] at e
  | .exc _, _, _, e => by simp [isD] at e
  | .scr _, _, _, e => by simp [isD] at e
theorem dpL_of : ∀ {ds : List D} {vs : List V}, RpL G ρ H vs ds → isDL ds = true → DpAll G.K H vs (toPyL ds)
  | [], _, .nil, _ => by rw [toPyL]; exact .nil
  | d :: ds, _, .cons r t, e => by
    rw [isDL, Bool.and_eq_true] at e
    rw [toPyL]
    exact .cons (dp_of r e.1) (dpL_of t e.2)
end
/-- a value that is data, as the library reads it -/
theorem reads_top {pins : List (Addr × Obj)} {σ : L2.St} {s : Shared} {h : Hd} (I : Inv X pins σ H s) (hK : X.K = G.K) (A : AbH G ρ H h) {d : D} {v : V} {u : Value} (rv : RelV v u) (r : Rp G ρ H v d) (e : isD (top h d) = true) : ∃ as, Reads s.heap u (toPy (top h d)) as := by
  have dp : Dp G.K H v (toPy (top h d)) := by
    unfold top at e ⊢
    cases el : lstOf h d with
    | none => simp only [el] at e; exact dp_of r e
    | some xs =>
      simp only [el] at e ⊢
      obtain ⟨a, vs, rfl, ha, ra⟩ := lst_rel A r el
      rw [toPy]
      exact .lst (.inl (.inl ha)) (dpL_of ra (by rw [isD] at e; exact e))
  rw [← hK] at dp
  exact Dp.reads I _ v u dp rv
theorem shp_of {d : D} (e : shp d = true) : isD d = true ∧ dep d ≤ 50 := by
  unfold shp at e
  rw [Bool.and_eq_true] at e
  exact ⟨e.1, of_decide_eq_true e.2⟩
theorem fit_eq (hu : X.A.units + 64 < cLine) : FitR X G (compareOp .Eq) fEq := by
  intro hK W pins s σ H ρ h x y d e v u Q I rx ry A dx dy q
  unfold fEq at q
  split at q
  · rename_i hc
    rw [Bool.and_eq_true] at hc
    have c1 := shp_of hc.1
    have c2 := shp_of hc.2
    obtain ⟨as, r1⟩ := reads_top I hK A rx dx c1.1
    obtain ⟨bs, r2⟩ := reads_top I hK A ry dy c2.1
    exact SeqAt.eq_plain r1 r2 (plain_of _ c1.1) (plain_of _ c2.1) (by have := Nat.min_le_left (toPy (top h d)).depth (toPy (top h e)).depth; have := c1.2; unfold dep at this; omega) ⟨.bl _, H, I, rfl, q.val A (.bl _)⟩
  · exact q.elim
theorem fit_ne (hu : X.A.units + 64 < cLine) : FitR X G (compareOp .NotEq) fNe := by
  intro hK W pins s σ H ρ h x y d e v u Q I rx ry A dx dy q
  unfold fNe at q
  split at q
  · rename_i hc
    rw [Bool.and_eq_true] at hc
    have c1 := shp_of hc.1
    have c2 := shp_of hc.2
    obtain ⟨as, r1⟩ := reads_top I hK A rx dx c1.1
    obtain ⟨bs, r2⟩ := reads_top I hK A ry dy c2.1
    exact SeqAt.ne_plain r1 r2 (plain_of _ c1.1) (plain_of _ c2.1) (by have := Nat.min_le_left (toPy (top h d)).depth (toPy (top h e)).depth; have := c1.2; unfold dep at this; omega) ⟨.bl _, H, I, rfl, q.val A (.bl _)⟩
  · exact q.elim
/-! ### in -/
def fIn (neg : Bool) : D → D → Hd → Res D := fun d e h => match top h e with
  | .tup xs => if shp (top h d) && isDL xs then .ok (.bl (if neg then !xs.any fun z => PyData.eqv (toPy z) (toPy (top h d)) else xs.any fun z => PyData.eqv (toPy z) (toPy (top h d)))) h else .stuck
  | .arr xs => if shp (top h d) && isDL xs then .ok (.bl (if neg then !xs.any fun z => PyData.eqv (toPy z) (toPy (top h d)) else xs.any fun z => PyData.eqv (toPy z) (toPy (top h d)))) h else .stuck
  | _ => .stuck
theorem fit_in (hu : X.A.units + 64 < cLine) : FitR X G (compareOp .In) (fIn false) := by
  intro hK W pins s σ H ρ h x y d e v u Q I rx ry A dx dy q
  unfold fIn at q
  split at q
  · rename_i xs e0
    split at q
    · rename_i hc
      rw [Bool.and_eq_true] at hc
      have c1 := shp_of hc.1
      have c2 : isD (top h e) = true := by rw [e0, isD]; exact hc.2
      obtain ⟨as, r1⟩ := reads_top I hK A rx dx c1.1
      obtain ⟨bs, r2⟩ := reads_top I hK A ry dy c2
      rw [e0, toPy] at r2
      refine SeqAt.in_tuple_data r2 r1 (plainL_of _ hc.2) (plain_of _ c1.1) (by have := Nat.min_le_right (PyData.depthAll (toPyL xs)) (toPy (top h d)).depth; have := c1.2; unfold dep at this; omega) ⟨.bl _, H, I, rfl, ?_⟩
      rw [toPyL_eq, List.any_map]
      exact q.val A (.bl _)
    · exact q.elim
  · rename_i xs e0
    split at q
    · rename_i hc
      rw [Bool.and_eq_true] at hc
      have c1 := shp_of hc.1
      have c2 : isD (top h e) = true := by rw [e0, isD]; exact hc.2
      obtain ⟨as, r1⟩ := reads_top I hK A rx dx c1.1
      obtain ⟨bs, r2⟩ := reads_top I hK A ry dy c2
      rw [e0, toPy] at r2
      refine SeqAt.in_list_data r2 r1 (plainL_of _ hc.2) (plain_of _ c1.1) (by have := Nat.min_le_right (PyData.depthAll (toPyL xs)) (toPy (top h d)).depth; have := c1.2; unfold dep at this; omega) ⟨.bl _, H, I, rfl, ?_⟩
      rw [toPyL_eq, List.any_map]
      exact q.val A (.bl _)
    · exact q.elim
  · exact q.elim
theorem fit_notIn (hu : X.A.units + 64 < cLine) : FitR X G (compareOp .NotIn) (fIn true) := by
  intro hK W pins s σ H ρ h x y d e v u Q I rx ry A dx dy q
  unfold fIn at q
  split at q
  · rename_i xs e0
    split at q
    · rename_i hc
      rw [Bool.and_eq_true] at hc
      have c1 := shp_of hc.1
      have c2 : isD (top h e) = true := by rw [e0, isD]; exact hc.2
      obtain ⟨as, r1⟩ := reads_top I hK A rx dx c1.1
      obtain ⟨bs, r2⟩ := reads_top I hK A ry dy c2
      rw [e0, toPy] at r2
      refine SeqAt.notIn_tuple_data r2 r1 (plainL_of _ hc.2) (plain_of _ c1.1) (by have := Nat.min_le_right (PyData.depthAll (toPyL xs)) (toPy (top h d)).depth; have := c1.2; unfold dep at this; omega) ⟨.bl _, H, I, rfl, ?_⟩
      rw [toPyL_eq, List.any_map]
      exact q.val A (.bl _)
    · exact q.elim
  · rename_i xs e0
    split at q
    · rename_i hc
      rw [Bool.and_eq_true] at hc
      have c1 := shp_of hc.1
      have c2 : isD (top h e) = true := by rw [e0, isD]; exact hc.2
      obtain ⟨as, r1⟩ := reads_top I hK A rx dx c1.1
      obtain ⟨bs, r2⟩ := reads_top I hK A ry dy c2
      rw [e0, toPy] at r2
      refine SeqAt.notIn_list_data r2 r1 (plainL_of _ hc.2) (plain_of _ c1.1) (by have := Nat.min_le_right (PyData.depthAll (toPyL xs)) (toPy (top h d)).depth; have := c1.2; unfold dep at this; omega) ⟨.bl _, H, I, rfl, ?_⟩
      rw [toPyL_eq, List.any_map]
      exact q.val A (.bl _)
    · exact q.elim
  · exact q.elim
/-! ### is of bools -/
def fIsB (neg : Bool) : D → D → Hd → Res D := fun d e h => match d, e with
  | .bl a, .bl b => .ok (.bl (if neg then !decide (a = b) else decide (a = b))) h
  | _, _ => .stuck
theorem fit_isB : FitR X G (compareOp .Is) (fIsB false) := by
  intro hK W pins s σ H ρ h x y d e v u Q I rx ry A dx dy q
  unfold fIsB at q
  split at q
  · obtain rfl := dx.bl_of
    obtain rfl := dy.bl_of
    exact op_isBl pins s σ H _ _ v u Q I rx ry ⟨_, _, rfl, rfl, q.val A (.bl _)⟩
  · exact q.elim
theorem fit_notB : FitR X G (compareOp .IsNot) (fIsB true) := by
  intro hK W pins s σ H ρ h x y d e v u Q I rx ry A dx dy q
  unfold fIsB at q
  split at q
  · obtain rfl := dx.bl_of
    obtain rfl := dy.bl_of
    exact op_notBl pins s σ H _ _ v u Q I rx ry ⟨_, _, rfl, rfl, q.val A (.bl _)⟩
  · exact q.elim
end
/-! ### subscripts -/
section
variable {G : Gc} {X : Cx} {W : WX} {a b e : Expr} {ma mb m : ME} {pos : Pos}
/-- a reading of HandS's that is met by f -/
def MetR (G : Gc) (r : R2) (f : D → D → Hd → Res D) : Prop := ∀ (W : WX) (σ : L2.St) (H : Hp) (ρ : Rh) (h : Hd) (x y : V) (d e : D) (Q : VK), AbH G ρ H h → Rp G ρ H x d → Rp G ρ H y e → RK G ρ H σ W (f d e h) (KV G Q) → r x y H Q
theorem rd_met {r : R2} {f : D → D → Hd → Res D} (M : MetR G r f) {σ : L2.St} {H : Hp} {Q : VK} (q : TE_ G W (mOp f ma mb) σ H Q) : tOp r (TE_ G W ma) (TE_ G W mb) σ H Q := by
  obtain ⟨ρ, sd, h, S, A, q⟩ := q
  refine te_bind S A q fun d h1 ρ1 H1 x p S1 A1 rx q1 => te_bind S1 A1 q1 fun d' h2 ρ2 H2 y p2 S2 A2 ry q2 => ?_
  exact M W σ H2 ρ2 h2 x y d d' Q A2 (rx.mono A1 p2) ry q2
def fIx : D → D → Hd → Res D := fun d e h => match e with
  | .int i => match d with
    | .tup xs => match atI xs i with
      | some x => .ok x h
      | none => .stuck
    | d => match lstOf h d with
      | some xs => match atI xs i with
        | some x => .ok x h
        | none => .stuck
      | none => .stuck
  | _ => .stuck
theorem atI_rel {ρ : Rh} {H : Hp} {vs : List V} {ds : List D} {i : Int} {d : D} (r : RpL G ρ H vs ds) (e : atI ds i = some d) : ∃ v, atI vs i = some v ∧ Rp G ρ H v d := by
  unfold atI at e ⊢
  rw [r.length]
  cases h : ixN ds.length i with
  | none => rw [h] at e; cases e
  | some j =>
    rw [h] at e
    exact r.get e
theorem met_ix (hK : X.K = G.K) : MetR G (rIx X.K) fIx := by
  intro W σ H ρ h x y d e Q A dx dy q
  unfold fIx at q
  split at q
  · obtain rfl := dy.int_of
    split at q
    · obtain ⟨a, vs, rfl, ha, ra⟩ := dx.tup_of
      split at q
      · rename_i e1
        obtain ⟨v, e2, rv⟩ := atI_rel ra e1
        exact .inr (.inl ⟨a, vs, _, v, rfl, rfl, by rw [hK]; exact ha, e2, q.val A rv⟩)
      · exact q.elim
    · split at q
      · rename_i e0
        obtain ⟨a, vs, rfl, ha, ra⟩ := lst_rel A dx e0
        split at q
        · rename_i e1
          obtain ⟨v, e2, rv⟩ := atI_rel ra e1
          exact .inl ⟨a, vs, _, v, rfl, rfl, .inl (.inl ha), e2, q.val A rv⟩
        · exact q.elim
      · exact q.elim
  · exact q.elim
theorem okIx (ha : OkE X G W a ma) (hb : OkE X G W b mb) (hs : PlainIx b := by exact fun _ _ => rfl) (hK : X.K = G.K := by rfl) : OkE X G W (.Subscript a b pos) (mOp fIx ma mb) :=
  ⟨fun pins s σ H Q I q => (pe_ix ix_seq ha hb hs).run pins s σ H Q I (rd_met (met_ix hK) q)⟩
/-! ### slices -/
def cutD (xs : List D) (lo hi : Option Int) : List D := (xs.drop (HT.sIx xs.length 0 lo)).take (HT.sIx xs.length xs.length hi - HT.sIx xs.length 0 lo)
def fSl (d : D) (lo hi : Option Int) (h : Hd) : Res D := match d with
  | .tup xs => .ok (.tup (cutD xs lo hi)) h
  | .scr ns => .ok (.arr (cutD (ns.map D.int) lo hi)) h
  | d => match lstOf h d with
    | some xs => .ok (.arr (cutD xs lo hi)) h
    | none => .stuck
/-- a slice's part -/
def optM (mo : Option ME) (s : Sl) (h : Hd) : Res (Option Int) := match mo with
  | none => .ok none h
  | some m => (m s h).bind fun d h1 => match d with
    | .int i => .ok (some i) h1
    | _ => .stuck
def mSl (m : ME) (lo hi : Option ME) : ME := fun s h => (m s h).bind fun d h1 => (optM lo s h1).bind fun l h2 => (optM hi s h2).bind fun u h3 => fSl d l u h3
def TO_ (G : Gc) (W : WX) (mo : Option ME) : L2.TO := fun σ H Q => ∃ ρ s h, AbS G ρ H s σ ∧ AbH G ρ H h ∧ RK G ρ H σ W (optM mo s h) (fun o _ H' => Q o H')
abbrev OkO (X : Cx) (G : Gc) (W : WX) (e : Option Expr) (mo : Option ME) : Prop := PO X e (TO_ G W mo)
theorem okoNone : OkO X G W none none := ⟨fun pins s σ H Q I ⟨ρ, sd, h, S, A, q⟩ => po_none.run pins s σ H Q I (q.here A)⟩
theorem okoSome (he : OkE X G W e m) : OkO X G W (some e) (some m) := by
  refine ⟨fun pins s σ H Q I ⟨ρ, sd, h, S, A, q⟩ => (po_some he).run pins s σ H Q I ?_⟩
  refine te_bind S A q fun d h1 ρ1 H1 x p S1 A1 rx q1 => ?_
  cases d with
  | int i => obtain rfl := rx.int_of; exact ⟨i, rfl, q1.here A1⟩
  | _ => exact q1.elim
theorem to_bind {ρ : Rh} {H : Hp} {σ : L2.St} {s : Sl} {h : Hd} {β : Type} {mo : Option ME} {k : Option Int → Hd → Res β} {K : β → Rh → Hp → Prop} {R : Option Int → Hp → Prop} (S : AbS G ρ H s σ) (A : AbH G ρ H h) (q : RK G ρ H σ W ((optM mo s h).bind k) K)
    (hk : ∀ o h1 ρ1 H1, Pst ρ H ρ1 H1 → AbS G ρ1 H1 s σ → AbH G ρ1 H1 h1 → RK G ρ1 H1 σ W (k o h1) K → R o H1) : TO_ G W mo σ H R :=
  ⟨ρ, s, h, S, A, q.bind.imp fun d ρ1 H1 ⟨h1, _, A1, p, q1⟩ => hk d h1 ρ1 H1 p (S.mono A p) A1 q1⟩
theorem cut_rel {ρ : Rh} {H : Hp} {vs : List V} {ds : List D} (r : RpL G ρ H vs ds) (lo hi : Option Int) : RpL G ρ H (cutV vs lo hi) (cutD ds lo hi) := by
  unfold cutV cutD
  rw [r.length]
  exact (r.drop _).take _
theorem cut_whole {xs : List D} {lo hi : Option Int} (h : HT.sIx xs.length 0 lo = 0 ∧ HT.sIx xs.length xs.length hi = xs.length) : cutD xs lo hi = xs := by
  unfold cutD
  rw [h.1, h.2, List.drop_zero, Nat.sub_zero, List.take_length]
theorem okSl {lo hi : Option Expr} {ml mh : Option ME} {p2 : Pos} (ha : OkE X G W a ma) (hl : OkO X G W lo ml) (hh : OkO X G W hi mh) (hK : X.K = G.K := by rfl) : OkE X G W (.Subscript a (.Slice lo hi none p2) pos) (mSl ma ml mh) := by
  refine ⟨fun pins s σ H Q I ⟨ρ, sd, h, S, A, q⟩ => (pe_slice (SlR.or sl_tupA sl_list) ha hl hh).run pins s σ H Q I ?_⟩
  refine te_bind S A q fun d h1 ρ1 H1 x p S1 A1 rx q1 => to_bind S1 A1 q1 fun l h2 ρ2 H2 p2 S2 A2 q2 => to_bind S2 A2 q2 fun u h3 ρ3 H3 p3 S3 A3 q3 => ?_
  have rx3 := (rx.mono A1 p2).mono A2 p3
  unfold fSl at q3
  split at q3
  · obtain ⟨a, vs, rfl, ha, ra⟩ := rx3.tup_of
    refine .inl ⟨a, vs, rfl, by rw [hK]; exact ha, fun hw => ?_, fun hw p hp => q3.newT A3 (cut_rel ra l u) hp⟩
    rw [ra.length] at hw
    rw [cut_whole hw] at q3
    exact q3.val A3 rx3
  · rename_i ns
    cases rx3 with
    | scr hx =>
      rename_i a0
      have hq : SqL G.K H3 a0 (ns.map V.int) := by
        rcases hx with ⟨r, _⟩ | r
        · exact .inl r
        · exact r _
      exact .inr ⟨a0, _, rfl, by rw [hK]; exact hq, fun p hp => q3.newL A3 (cut_rel (RpL.of_ints ns) l u) hp⟩
  · split at q3
    · rename_i e0
      obtain ⟨a, vs, rfl, ha, ra⟩ := lst_rel A3 rx3 e0
      exact .inr ⟨a, vs, rfl, .inl (.inl ha), fun p hp => q3.newL A3 (cut_rel ra l u) hp⟩
    · exact q3.elim
end
end RX

set_option Elab.async false
set_option linter.all false
set_option maxRecDepth 100000
set_option maxHeartbeats 2000000
namespace RX
open PySem PySem.Spec PyProof.Rows L2
def mCB (F : List D → Hd → Res D) (ms : MA) : ME := fun s h => (ms s h).bind fun ds h1 => F ds h1
section
variable {G : Gc} {X : Cx} {W : WX} {a b e : Expr} {es : List Expr} {ma mb m : ME} {ms : MA} {pos p : Pos} {x : Str} {id T : String}
def FitC (X : Cx) (G : Gc) (f : Value) (F : List D → Hd → Res D) : Prop := X.K = G.K →
  ∀ (W : WX) (pins : List (Addr × Obj)) (s : Shared) (σ : L2.St) (H : Hp) (ρ : Rh) (h : Hd) (vs : List V) (ds : List D) (us : List Value) (Q : VK), Inv X pins σ H s → Vals vs us → AbH G ρ H h → RpL G ρ H vs ds → RK G ρ H σ W (F ds h) (KV G Q) →
    wpAny (model X.prog X.w) X.A (call f us) (EP X pins σ Q) X.xe s
def rcFit (G : Gc) (F : List D → Hd → Res D) : List V → Hp → VK → Prop := fun vs H Q => ∃ (W : WX) (σ : L2.St) (ρ : Rh) (h : Hd) (ds : List D), AbH G ρ H h ∧ RpL G ρ H vs ds ∧ RK G ρ H σ W (F ds h) (KV G Q)
theorem FitC.call {f : Value} {F : List D → Hd → Res D} (Ft : FitC X G f F) (hK : X.K = G.K) : CallR X f (rcFit G F) := fun pins s σ H vs us Q I r ⟨W, σ', ρ, h, ds, A, rs, q⟩ => by
  refine Ft hK (fun c d' _ H' => W c d' σ' H') pins s σ H ρ h vs ds us Q I r A rs ?_
  cases hf : F ds h with
  | ok a h => rw [hf] at q; exact q
  | exc c h => rw [hf] at q; exact q
  | stuck => rw [hf] at q; exact q
theorem rd_cb {F : List D → Hd → Res D} {σ : L2.St} {H : Hp} {Q : VK} (q : TE_ G W (mCB F ms) σ H Q) : tCB (rcFit G F) (TA_ G W ms) σ H Q := by
  obtain ⟨ρ, sd, h, S, A, q⟩ := q
  exact ta_bind S A q fun ds h1 ρ1 H1 vs p S1 A1 rs q1 => ⟨W, σ, ρ1, h1, ds, A1, rs, q1⟩
/-- a built-in function called by its name -/
theorem okCB {F : List D → Hd → Res D} (Ft : FitC X G (.builtin id) F) (hm : X.mg x = none) (hv : bootBuiltins x = some (.builtin id)) (ha : OkA X G W (e :: es) ms) (hg : Gl X x := by rfl) (hK : X.K = G.K := by rfl) (hn : x ≠ "__name__" := by decide) (hdb : (x == ("__debug__" : Str)) = false := by decide)
    (he : starEach (e :: es) X.env = (false, eval e X.env) :: starEach es X.env := by rfl) (hpl : (backTo pos (starEach es X.env)).any (·.1) = false := by rfl) : OkE X G W (.Call (.Name x p) (e :: es) [] pos) (mCB F ms) :=
  ⟨fun pins s σ H Q I q => (pe_callB (Ft.call hK) hg hm hv ha hn hdb he hpl).run pins s σ H Q I (rd_cb q)⟩
/-- a built-in type called by its name -/
theorem okCT {F : List D → Hd → Res D} (Ft : FitC X G (.type T) F) (hm : X.mg x = none) (hv : bootBuiltins x = some (.type T)) (ha : OkA X G W (e :: es) ms) (hg : Gl X x := by rfl) (hK : X.K = G.K := by rfl) (hn : x ≠ "__name__" := by decide) (hdb : (x == ("__debug__" : Str)) = false := by decide)
    (he : starEach (e :: es) X.env = (false, eval e X.env) :: starEach es X.env := by rfl) (hpl : (backTo pos (starEach es X.env)).any (·.1) = false := by rfl) : OkE X G W (.Call (.Name x p) (e :: es) [] pos) (mCB F ms) :=
  ⟨fun pins s σ H Q I q => (pe_callTy (Ft.call hK) hg hm hv ha hn hdb he hpl).run pins s σ H Q I (rd_cb q)⟩
end
section
variable {G : Gc} {X : Cx} {ρ : Rh} {H : Hp}
theorem RpL.one {vs : List V} {d : D} (r : RpL G ρ H vs [d]) : ∃ v, vs = [v] ∧ Rp G ρ H v d := by
  cases r with
  | cons r t => cases t; exact ⟨_, rfl, r⟩
theorem RpL.two {vs : List V} {d e : D} (r : RpL G ρ H vs [d, e]) : ∃ v w, vs = [v, w] ∧ Rp G ρ H v d ∧ Rp G ρ H w e := by
  cases r with
  | cons r t => cases t with
    | cons r2 t2 => cases t2; exact ⟨_, _, rfl, r, r2⟩
/-! ### len, abs, int -/
def FLen : List D → Hd → Res D := fun ds h => match ds with
  | [.tup xs] => .ok (.int xs.length) h
  | [d] => match lstOf h d with
    | some xs => .ok (.int xs.length) h
    | none => .stuck
  | _ => .stuck
theorem fit_len : FitC X G (.builtin "len") FLen := by
  intro hK W pins s σ H ρ h vs ds us Q I r A rs q
  unfold FLen at q
  split at q
  · obtain ⟨v, rfl, rv⟩ := rs.one
    obtain ⟨a, ws, rfl, ha, ra⟩ := rv.tup_of
    exact call_len_seq pins s σ H _ us Q I r ⟨a, ws, rfl, .inr (by rw [hK]; exact ha), by rw [ra.length]; exact q.val A (.int _)⟩
  · split at q
    · rename_i e
      obtain ⟨v, rfl, rv⟩ := rs.one
      obtain ⟨a, ws, rfl, ha, ra⟩ := lst_rel A rv e
      exact call_len_seq pins s σ H _ us Q I r ⟨a, ws, rfl, .inl (.inl (.inl ha)), by rw [ra.length]; exact q.val A (.int _)⟩
    · exact q.elim
  · exact q.elim
def FAbs : List D → Hd → Res D := fun ds h => match ds with
  | [.int i] => .ok (.int (if i < 0 then -i else i)) h
  | _ => .stuck
theorem fit_abs : FitC X G (.builtin "abs") FAbs := by
  intro hK W pins s σ H ρ h vs ds us Q I r A rs q
  unfold FAbs at q
  split at q
  · obtain ⟨v, rfl, rv⟩ := rs.one
    obtain rfl := rv.int_of
    exact call_abs pins s σ H _ us Q I r ⟨_, rfl, q.val A (.int _)⟩
  · exact q.elim
def FInt : List D → Hd → Res D := fun ds h => match ds with
  | [.int i] => .ok (.int i) h
  | [.bl b] => .ok (.int (if b then 1 else 0)) h
  | _ => .stuck
theorem fit_int : FitC X G (.type "int") FInt := by
  intro hK W pins s σ H ρ h vs ds us Q I r A rs q
  unfold FInt at q
  split at q
  · obtain ⟨v, rfl, rv⟩ := rs.one
    obtain rfl := rv.int_of
    exact call_int1 pins s σ H _ us Q I r (.inl ⟨_, rfl, q.val A (.int _)⟩)
  · obtain ⟨v, rfl, rv⟩ := rs.one
    obtain rfl := rv.bl_of
    exact call_int1 pins s σ H _ us Q I r (.inr ⟨_, rfl, q.val A (.int _)⟩)
  · exact q.elim
/-! ### sum, max, min -/
/-- a sequence's items: a tuple's, a list's -/
def seqOf (h : Hd) : D → Option (List D)
  | .tup xs => some xs
  | d => lstOf h d
theorem seq_rel {h : Hd} {v : V} {d : D} {ds : List D} (A : AbH G ρ H h) (r : Rp G ρ H v d) (e : seqOf h d = some ds) : ∃ a vs, v = .ref a ∧ ((SqT G.K H a vs) ∨ H a = some (.lst vs)) ∧ RpL G ρ H vs ds := by
  unfold seqOf at e
  split at e
  · cases e
    obtain ⟨a, ws, rfl, ha, ra⟩ := r.tup_of
    exact ⟨a, ws, rfl, .inl ha, ra⟩
  · obtain ⟨a, ws, rfl, ha, ra⟩ := lst_rel A r e
    exact ⟨a, ws, rfl, .inr ha, ra⟩
def FSum : List D → Hd → Res D := fun ds h => match ds with
  | [d] => match (seqOf h d).bind intsOf with
    | some ns => .ok (.int ns.sum) h
    | none => .stuck
  | _ => .stuck
theorem fit_sum (hc : X.calm = true) : FitC X G (.builtin "sum") FSum := by
  intro hK W pins s σ H ρ h vs ds us Q I r A rs q
  unfold FSum at q
  split at q
  · rename_i d
    obtain ⟨v, rfl, rv⟩ := rs.one
    cases e0 : seqOf h d with
    | none => rw [e0] at q; exact q.elim
    | some xs =>
      rw [e0] at q
      cases e1 : intsOf xs with
      | none => simp only [Option.bind_some, e1] at q; exact q.elim
      | some ns =>
        simp only [Option.bind_some, e1] at q
        obtain ⟨a, ws, rfl, ha, ra⟩ := seq_rel A rv e0
        rw [intsOf_eq e1] at ra
        rw [ra.ints] at ha
        rcases ha with ha | ha
        · obtain ⟨its, rvs, hl, _⟩ := I.tuple (by rw [hK]; exact ha)
          rw [Vals.ref1 r]
          have hi := rvs.ints
          obtain ⟨xs2, hx⟩ := hi.allInts.items
          have hn : numsOf its.toArray.toList = ns := by rw [show its.toArray.toList = its from rfl, hi.numsOf]
          rw [hx] at hn
          rw [nums_intItems] at hn
          have hl' : s.heap.IsTuple a (intItems xs2) := by rw [← hx]; exact hl
          refine PySem.W.ktm_sumG (I.ok.hd hc) hl' fun h' tk t' hk => ?_
          rw [preSum_eq, List.take_of_length_le (by simp), hn]
          exact ⟨.int _, H, I.kept hk, ⟨_, rfl⟩, q.val A (.int _)⟩
        · exact cr_sum hc pins s σ H _ us Q I r ⟨a, ns, rfl, .inl (.inl ha), q.val A (.int _)⟩
  · exact q.elim
def maxI : List Int → Int
  | [] => 0
  | n :: ns => ns.foldl max n
def minI : List Int → Int
  | [] => 0
  | n :: ns => ns.foldl min n
theorem foldl_max_ge : ∀ (ns : List Int) (n : Int), n ≤ ns.foldl max n ∧ (∀ y ∈ ns, y ≤ ns.foldl max n) ∧ (ns.foldl max n = n ∨ ns.foldl max n ∈ ns)
  | [], n => ⟨Int.le_refl _, fun _ h => (nomatch h), .inl rfl⟩
  | m :: ns, n => by
    obtain ⟨h1, h2, h3⟩ := foldl_max_ge ns (max n m)
    refine ⟨Int.le_trans (Int.le_max_left n m) h1, fun y hy => ?_, ?_⟩
    · rcases List.mem_cons.mp hy with rfl | hy
      · exact Int.le_trans (Int.le_max_right n y) h1
      · exact h2 y hy
    · rw [List.foldl_cons]
      rcases h3 with h3 | h3
      · rw [h3]
        rcases Int.le_total n m with z | z
        · right; rw [Int.max_eq_right z]; exact List.mem_cons_self
        · left; exact Int.max_eq_left z
      · exact .inr (List.mem_cons_of_mem _ h3)
theorem foldl_min_le : ∀ (ns : List Int) (n : Int), ns.foldl min n ≤ n ∧ (∀ y ∈ ns, ns.foldl min n ≤ y) ∧ (ns.foldl min n = n ∨ ns.foldl min n ∈ ns)
  | [], n => ⟨Int.le_refl _, fun _ h => (nomatch h), .inl rfl⟩
  | m :: ns, n => by
    obtain ⟨h1, h2, h3⟩ := foldl_min_le ns (min n m)
    refine ⟨Int.le_trans h1 (Int.min_le_left n m), fun y hy => ?_, ?_⟩
    · rcases List.mem_cons.mp hy with rfl | hy
      · exact Int.le_trans h1 (Int.min_le_right n y)
      · exact h2 y hy
    · rw [List.foldl_cons]
      rcases h3 with h3 | h3
      · rw [h3]
        rcases Int.le_total n m with z | z
        · left; exact Int.min_eq_left z
        · right; rw [Int.min_eq_right z]; exact List.mem_cons_self
      · exact .inr (List.mem_cons_of_mem _ h3)
theorem maxI_mem {ns : List Int} (h : ns ≠ []) : maxI ns ∈ ns := by
  cases ns with
  | nil => exact (h rfl).elim
  | cons n ns => rcases (foldl_max_ge ns n).2.2 with z | z
                 · show ns.foldl max n ∈ _; rw [z]; exact List.mem_cons_self
                 · exact List.mem_cons_of_mem _ z
theorem maxI_ge {ns : List Int} {y : Int} (h : y ∈ ns) : y ≤ maxI ns := by
  cases ns with
  | nil => cases h
  | cons n ns =>
    rcases List.mem_cons.mp h with rfl | h
    · exact (foldl_max_ge ns y).1
    · exact (foldl_max_ge ns n).2.1 y h
theorem minI_mem {ns : List Int} (h : ns ≠ []) : minI ns ∈ ns := by
  cases ns with
  | nil => exact (h rfl).elim
  | cons n ns => rcases (foldl_min_le ns n).2.2 with z | z
                 · show ns.foldl min n ∈ _; rw [z]; exact List.mem_cons_self
                 · exact List.mem_cons_of_mem _ z
theorem minI_le {ns : List Int} {y : Int} (h : y ∈ ns) : minI ns ≤ y := by
  cases ns with
  | nil => cases h
  | cons n ns =>
    rcases List.mem_cons.mp h with rfl | h
    · exact (foldl_min_le ns y).1
    · exact (foldl_min_le ns n).2.1 y h
theorem maxI_is {ns : List Int} {m : Int} (h : m ∈ ns) (g : ∀ y ∈ ns, y ≤ m) : m = maxI ns :=
  Int.le_antisymm (maxI_ge h) (g _ (maxI_mem (List.ne_nil_of_mem h)))
theorem minI_is {ns : List Int} {m : Int} (h : m ∈ ns) (g : ∀ y ∈ ns, m ≤ y) : m = minI ns :=
  Int.le_antisymm (g _ (minI_mem (List.ne_nil_of_mem h))) (minI_le h)
def FMax : List D → Hd → Res D := fun ds h => match ds with
  | [.int i, .int j] => .ok (.int (if j > i then j else i)) h
  | [d] => match (seqOf h d).bind intsOf with
    | some (n :: ns) => .ok (.int (maxI (n :: ns))) h
    | _ => .stuck
  | _ => .stuck
def FMin : List D → Hd → Res D := fun ds h => match ds with
  | [.int i, .int j] => .ok (.int (if j < i then j else i)) h
  | [d] => match (seqOf h d).bind intsOf with
    | some (n :: ns) => .ok (.int (minI (n :: ns))) h
    | _ => .stuck
  | _ => .stuck
section
variable {prog : Program} {w : World} {A : Around} {E : Value → Shared → Prop} {s : Shared} {l : Addr} {its : List Value} {ns : List Int} {Q : Value → Shared → Prop}
theorem iter_tup {items : Array Value} (ht : s.heap.IsTuple l items) {Q : Value → Shared → Prop}
    (h : ∀ s₂ : Shared, s₂ = { s with heap := s.heap.push { cls := .type "tuple_iterator", data := .fields #[.ref l, .int 0 0] } } → (s₂.heap.IsTupleIter s.heap.objs.size l 0 ∧ s₂.heap.IsTuple l items) → l ≠ s.heap.objs.size → (∀ b ∈ [s.heap.objs.size, l], b < s₂.heap.objs.size) → Q (.ref s.heap.objs.size) s₂) :
    wpAny (model prog w) A (pyIter (.ref l)) Q E s := by
  obtain ⟨o, ho, hc, n, hd⟩ := id ht
  refine wpAny_pyIter_tuple ht (h _ rfl ⟨⟨_, Heap.get?_push_size _ rfl, rfl, rfl⟩, ht.at fun o e => Heap.get?_push_of_some _ e⟩ (Nat.ne_of_lt (Heap.lt_size ho)) fun b hb => ?_)
  rcases List.mem_cons.mp hb with rfl | hb
  · exact Heap.lt_size (Heap.get?_push_size _ rfl)
  · obtain rfl := List.mem_singleton.mp hb
    exact Heap.lt_size (Heap.get?_push_of_some _ ho)
theorem tup_kept {h' : Heap} {o : Obj} (hk : ∀ b u, b ∉ [s.heap.objs.size] → (s.heap.push o).get? b = some u → h'.get? b = some u) : ∀ b u, s.heap.get? b = some u → h'.get? b = some u := fun b u e =>
  hk b u (fun m => absurd (Heap.lt_size e) ((List.mem_singleton.mp m) ▸ Nat.lt_irrefl _)) (Heap.get?_push_of_some _ e)
theorem max_tup (hh : A.handled = none) (ht : s.heap.IsTuple l its.toArray) (hi : IntsAre its ns) (hne : 0 < ns.length)
    (h : ∀ h' tk M t', (∀ b o, s.heap.get? b = some o → h'.get? b = some o) → M ∈ ns → (∀ a, a ∈ ns → a ≤ M) → Q (.int M t') { s with heap := h', toks := tk }) : wpAny (model prog w) A (call (.builtin "max") [.ref l]) Q E s := by
  obtain ⟨xs, e⟩ := hi.allInts.items
  have hn : numsOf (intItems xs).toList = ns := by rw [← e]; exact hi.numsOf
  rw [nums_intItems] at hn
  subst hn
  rw [e] at ht
  have hsz : 0 < xs.size := by simpa using hne
  refine call_max_walk (iter_tup ht fun s₂ e2 st hlI hfp => ?_)
  subst e2
  refine ⟨_, _, _, _, _, _, _, rfl, Walks.tuple (A := A.in1) hh _ l hlI (intItems xs), st, hfp, by simpa [intItems] using hsz, CmpOf.ints_gt (numAt xs) (fun _ _ => intItems_at), fun v h' tk hP hk => ?_⟩
  have hP' : (intItems xs)[argBest (fun i j => decide (numAt xs i > numAt xs j)) (xs.size - 1)]? = some v := by simpa [intItems] using hP
  obtain ⟨t, rfl⟩ := intItems_at hP'
  obtain ⟨h1, h2⟩ := argBest_gt (numAt xs) (xs.size - 1)
  refine h h' tk _ t (tup_kept hk) ?_ fun a ha => ?_
  · rw [numAt_eq]; exact PySem.getD_mem (by rw [List.length_map, Array.length_toList]; omega)
  · obtain ⟨j, hj, rfl⟩ := mem_getD ha
    rw [List.length_map, Array.length_toList] at hj
    rw [← numAt_eq]; exact h2 j (by omega)
theorem min_tup (hh : A.handled = none) (ht : s.heap.IsTuple l its.toArray) (hi : IntsAre its ns) (hne : 0 < ns.length)
    (h : ∀ h' tk M t', (∀ b o, s.heap.get? b = some o → h'.get? b = some o) → M ∈ ns → (∀ a, a ∈ ns → M ≤ a) → Q (.int M t') { s with heap := h', toks := tk }) : wpAny (model prog w) A (call (.builtin "min") [.ref l]) Q E s := by
  obtain ⟨xs, e⟩ := hi.allInts.items
  have hn : numsOf (intItems xs).toList = ns := by rw [← e]; exact hi.numsOf
  rw [nums_intItems] at hn
  subst hn
  rw [e] at ht
  have hsz : 0 < xs.size := by simpa using hne
  refine call_min_walk (iter_tup ht fun s₂ e2 st hlI hfp => ?_)
  subst e2
  refine ⟨_, _, _, _, _, _, _, rfl, Walks.tuple (A := A.in1) hh _ l hlI (intItems xs), st, hfp, by simpa [intItems] using hsz, CmpOf.ints_lt (numAt xs) (fun _ _ => intItems_at), fun v h' tk hP hk => ?_⟩
  have hP' : (intItems xs)[argBest (fun i j => decide (numAt xs i < numAt xs j)) (xs.size - 1)]? = some v := by simpa [intItems] using hP
  obtain ⟨t, rfl⟩ := intItems_at hP'
  obtain ⟨h1, h2⟩ := argBest_lt (numAt xs) (xs.size - 1)
  refine h h' tk _ t (tup_kept hk) ?_ fun a ha => ?_
  · rw [numAt_eq]; exact PySem.getD_mem (by rw [List.length_map, Array.length_toList]; omega)
  · obtain ⟨j, hj, rfl⟩ := mem_getD ha
    rw [List.length_map, Array.length_toList] at hj
    rw [← numAt_eq]; exact h2 j (by omega)
end
theorem fit_max (hc : X.calm = true) : FitC X G (.builtin "max") FMax := by
  intro hK W pins s σ H ρ h vs ds us Q I r A rs q
  unfold FMax at q
  split at q
  · obtain ⟨v, w, rfl, rv, rw_⟩ := rs.two
    obtain rfl := rv.int_of
    obtain rfl := rw_.int_of
    exact call_max2 hc pins s σ H _ us Q I r ⟨_, _, rfl, q.val A (.int _)⟩
  · rename_i d
    obtain ⟨v, rfl, rv⟩ := rs.one
    split at q
    · rename_i n ns e0
      obtain ⟨xs, e1, e2⟩ := Option.bind_eq_some_iff.mp e0
      obtain ⟨a, ws, rfl, ha, ra⟩ := seq_rel A rv e1
      rw [intsOf_eq e2] at ra
      rw [ra.ints] at ha
      rcases ha with ha | ha
      · obtain ⟨its, rvs, hl, _⟩ := I.tuple (by rw [hK]; exact ha)
        rw [Vals.ref1 r]
        refine max_tup (I.ok.hd hc) hl rvs.ints (by simp) fun h' tk m t' hk h1 h2 => ⟨.int _, H, I.kept hk, ⟨_, rfl⟩, ?_⟩
        rw [maxI_is h1 h2]
        exact q.val A (.int _)
      · refine cr_max hc pins s σ H _ us Q I r ⟨a, n :: ns, rfl, .inl (.inl ha), by simp, fun m h1 h2 => ?_⟩
        rw [maxI_is h1 h2]
        exact q.val A (.int _)
    · exact q.elim
  · exact q.elim
theorem fit_min (hc : X.calm = true) : FitC X G (.builtin "min") FMin := by
  intro hK W pins s σ H ρ h vs ds us Q I r A rs q
  unfold FMin at q
  split at q
  · obtain ⟨v, w, rfl, rv, rw_⟩ := rs.two
    obtain rfl := rv.int_of
    obtain rfl := rw_.int_of
    exact call_min2 hc pins s σ H _ us Q I r ⟨_, _, rfl, q.val A (.int _)⟩
  · rename_i d
    obtain ⟨v, rfl, rv⟩ := rs.one
    split at q
    · rename_i n ns e0
      obtain ⟨xs, e1, e2⟩ := Option.bind_eq_some_iff.mp e0
      obtain ⟨a, ws, rfl, ha, ra⟩ := seq_rel A rv e1
      rw [intsOf_eq e2] at ra
      rw [ra.ints] at ha
      rcases ha with ha | ha
      · obtain ⟨its, rvs, hl, _⟩ := I.tuple (by rw [hK]; exact ha)
        rw [Vals.ref1 r]
        refine min_tup (I.ok.hd hc) hl rvs.ints (by simp) fun h' tk m t' hk h1 h2 => ⟨.int _, H, I.kept hk, ⟨_, rfl⟩, ?_⟩
        rw [minI_is h1 h2]
        exact q.val A (.int _)
      · refine cr_min hc pins s σ H _ us Q I r ⟨a, n :: ns, rfl, .inl (.inl ha), by simp, fun m h1 h2 => ?_⟩
        rw [minI_is h1 h2]
        exact q.val A (.int _)
    · exact q.elim
  · exact q.elim
/-! ### any, all of lists of bools -/
def blsOf : List D → Option (List Bool)
  | [] => some []
  | .bl b :: r => (blsOf r).map (b :: ·)
  | _ => none
theorem blsOf_eq : ∀ {ds : List D} {bs : List Bool}, blsOf ds = some bs → ds = bs.map D.bl
  | [], bs, e => by cases e; rfl
  | d :: r, bs, e => by
    cases d <;> first | cases e | skip
    rename_i b
    simp only [blsOf] at e
    cases h : blsOf r with
    | none => rw [h] at e; cases e
    | some ms => rw [h] at e; cases e; rw [blsOf_eq h]; rfl
@[simp] theorem blsOf_map : ∀ ns : List Bool, blsOf (ns.map D.bl) = some ns
  | [] => rfl
  | n :: ns => by simp [blsOf, blsOf_map ns]
def FAll : List D → Hd → Res D := fun ds h => match ds with
  | [d] => match (lstOf h d).bind blsOf with
    | some bs => .ok (.bl (bs.all id)) h
    | none => .stuck
  | _ => .stuck
def FAny : List D → Hd → Res D := fun ds h => match ds with
  | [d] => match (lstOf h d).bind blsOf with
    | some bs => .ok (.bl (bs.any id)) h
    | none => .stuck
  | _ => .stuck
theorem fit_all (hc : X.calm = true) : FitC X G (.builtin "all") FAll := by
  intro hK W pins s σ H ρ h vs ds us Q I r A rs q
  unfold FAll at q
  split at q
  · obtain ⟨v, rfl, rv⟩ := rs.one
    split at q
    · rename_i e0
      obtain ⟨xs, e1, e2⟩ := Option.bind_eq_some_iff.mp e0
      obtain ⟨a, ws, rfl, ha, ra⟩ := lst_rel A rv e1
      rw [blsOf_eq e2] at ra
      rw [ra.bls] at ha
      exact cr_all hc pins s σ H _ us Q I r ⟨a, _, rfl, .inl (.inl ha), q.val A (.bl _)⟩
    · exact q.elim
  · exact q.elim
theorem fit_any (hc : X.calm = true) : FitC X G (.builtin "any") FAny := by
  intro hK W pins s σ H ρ h vs ds us Q I r A rs q
  unfold FAny at q
  split at q
  · obtain ⟨v, rfl, rv⟩ := rs.one
    split at q
    · rename_i e0
      obtain ⟨xs, e1, e2⟩ := Option.bind_eq_some_iff.mp e0
      obtain ⟨a, ws, rfl, ha, ra⟩ := lst_rel A rv e1
      rw [blsOf_eq e2] at ra
      rw [ra.bls] at ha
      exact cr_any hc pins s σ H _ us Q I r ⟨a, _, rfl, .inl (.inl ha), q.val A (.bl _)⟩
    · exact q.elim
  · exact q.elim
/-! ### sorted, tuple, list -/
def sortI (ns : List Int) : List Int := ns.mergeSort fun a b => decide (a ≤ b)
theorem sortI_perm (ns : List Int) : (sortI ns).Perm ns := List.mergeSort_perm _ _
theorem sortI_sorted (ns : List Int) : (sortI ns).Pairwise (· ≤ ·) := by
  have h := List.pairwise_mergeSort (le := fun a b : Int => decide (a ≤ b)) (fun a b c h1 h2 => by simp at *; omega) (fun a b => by simp; omega) ns
  exact h.imp fun h => by simpa using h
theorem sortI_is {ns ms : List Int} (p : ms.Perm ns) (h : ms.Pairwise (· ≤ ·)) : ms = sortI ns := PySem.W.ksm_same (p.trans (sortI_perm ns).symm) h (sortI_sorted ns)
def FSorted : List D → Hd → Res D := fun ds h => match ds with
  | [d] => match (lstOf h d).bind intsOf with
    | some ns => .ok (.arr ((sortI ns).map D.int)) h
    | none => .stuck
  | _ => .stuck
theorem fit_sorted : FitC X G (.builtin "sorted") FSorted := by
  intro hK W pins s σ H ρ h vs ds us Q I r A rs q
  unfold FSorted at q
  split at q
  · obtain ⟨v, rfl, rv⟩ := rs.one
    split at q
    · rename_i e0
      obtain ⟨xs, e1, e2⟩ := Option.bind_eq_some_iff.mp e0
      obtain ⟨a, ws, rfl, ha, ra⟩ := lst_rel A rv e1
      rw [intsOf_eq e2] at ra
      rw [ra.ints] at ha
      refine cr_sortedI pins s σ H _ us Q I r ⟨a, _, rfl, .inl (.inl ha), fun ns' p h1 h2 hp => ?_⟩
      rw [sortI_is h1 h2]
      exact q.newL A (RpL.of_ints _) hp
    · exact q.elim
  · exact q.elim
def FTuple : List D → Hd → Res D := fun ds h => match ds with
  | [d] => match seqOf h d with
    | some xs => .ok (.tup xs) h
    | none => .stuck
  | _ => .stuck
theorem fit_tuple : FitC X G (.type "tuple") FTuple := by
  intro hK W pins s σ H ρ h vs ds us Q I r A rs q
  unfold FTuple at q
  split at q
  · obtain ⟨v, rfl, rv⟩ := rs.one
    split at q
    · rename_i e0
      obtain ⟨a, ws, rfl, ha, ra⟩ := seq_rel A rv e0
      rcases ha with ha | ha
      · exact call_tuple_of pins s σ H _ us Q I r ⟨a, ws, rfl, .inr ⟨by rw [hK]; exact ha, q.val A (.tup ha ra)⟩⟩
      · exact call_tuple_of pins s σ H _ us Q I r ⟨a, ws, rfl, .inl ⟨.inl (.inl ha), fun p hp => q.newT A ra hp⟩⟩
    · exact q.elim
  · exact q.elim
/-- list(x), given out as data; numbered -/
def FList : List D → Hd → Res D := fun ds h => match ds with
  | [d] => match seqOf h d with
    | some xs => .ok (.arr xs) h
    | none => .stuck
  | _ => .stuck
def FListM : List D → Hd → Res D := fun ds h => match ds with
  | [d] => match seqOf h d with
    | some xs => .ok (.ref h.length) (h ++ [.lst xs])
    | none => .stuck
  | _ => .stuck
theorem fit_list : FitC X G (.type "list") FList := by
  intro hK W pins s σ H ρ h vs ds us Q I r A rs q
  unfold FList at q
  split at q
  · obtain ⟨v, rfl, rv⟩ := rs.one
    split at q
    · rename_i e0
      obtain ⟨a, ws, rfl, ha, ra⟩ := seq_rel A rv e0
      refine call_list_of pins s σ H _ us Q I r ⟨a, ws, rfl, ?_, fun p hp => q.newL A ra hp⟩
      rcases ha with ha | ha
      · exact .inr (by rw [hK]; exact ha)
      · exact .inl (.inl (.inl ha))
    · exact q.elim
  · exact q.elim
theorem fit_listM : FitC X G (.type "list") FListM := by
  intro hK W pins s σ H ρ h vs ds us Q I r A rs q
  unfold FListM at q
  split at q
  · obtain ⟨v, rfl, rv⟩ := rs.one
    split at q
    · rename_i e0
      obtain ⟨a, ws, rfl, ha, ra⟩ := seq_rel A rv e0
      refine call_list_of pins s σ H _ us Q I r ⟨a, ws, rfl, ?_, fun p hp => q.newM A ra hp⟩
      rcases ha with ha | ha
      · exact .inr (by rw [hK]; exact ha)
      · exact .inl (.inl (.inl ha))
    · exact q.elim
  · exact q.elim
end
end RX

set_option Elab.async false
set_option linter.all false
set_option maxRecDepth 100000
set_option maxHeartbeats 2000000
namespace RX
open PySem PySem.Spec PyProof.Rows L2
section
variable {G : Gc} {X : Cx} {ρ : Rh} {H : Hp}
/-! ### {} -/
def mDict0 : ME := fun _ h => .ok (.dk []) h
theorem okDict0 {W : WX} {pos : Pos} : OkE X G W (.Dict [] [] pos) mDict0 := by
  refine ⟨fun pins s σ H Q I ⟨ρ, sd, h, S, A, q⟩ => pe_dnewK.run pins s σ H Q I ?_⟩
  intro p hp
  exact q ρ _ (Pst.laid hp) (A.laid hp) _ (.dk upd_same (fun l => by obtain ⟨o, z⟩ := A.some_ l; rw [hp] at z; cases z) rfl .nil)
/-- {}, numbered -/
def mDict0M : ME := fun _ h => .ok (.ref h.length) (h ++ [.dk []])
theorem okDict0M {W : WX} {pos : Pos} : OkE X G W (.Dict [] [] pos) mDict0M := by
  refine ⟨fun pins s σ H Q I ⟨ρ, sd, h, S, A, q⟩ => pe_dnewK.run pins s σ H Q I ?_⟩
  intro p hp
  exact q (ρ.push p) _ (Pst.alloc hp) (A.alloc hp ⟨[], upd_same, rfl, .nil⟩) _ (.ref (by rw [← A.len]; simp [Rh.push]))
/-! ### a value that is data, or {} -/
def isR (d : D) : Bool := match d with
  | .dk [] => true
  | d => isD d
theorem reads_dk0 {pins : List (Addr × Obj)} {σ : L2.St} {s : Shared} (I : Inv X pins σ H s) {v : V} {u : Value} (rv : RelV v u) (r : Rp G ρ H v (.dk [])) : ∃ a as, u = .ref a ∧ Reads s.heap u (.dict []) as ∧ sysModules ∉ as := by
  cases r with
  | dk e n k r =>
    rename_i a ws
    have e0 : ws = [] := by cases ws with
      | nil => rfl
      | cons w ws => cases k
    subst e0
    obtain ⟨_, hs, vs, kv, o, es, ep, ho, hx, hd, _, hp, _⟩ := I.hok _ _ e
    cases kv
    cases rv
    have he : es.toList = [] := by
      cases h : es.toList with
      | nil => rfl
      | cons x xs => rw [h] at hp; cases hp
    refine ⟨a, [a] ++ [] ++ [], rfl, .dict ho hx.1 hd (by rw [he]; exact .nil) (by rw [he]; exact .nil), ?_⟩
    simp only [List.append_nil, List.mem_singleton]
    intro z
    rw [z] at hs
    simp at hs
theorem reads_any {pins : List (Addr × Obj)} {σ : L2.St} {s : Shared} {h : Hd} (I : Inv X pins σ H s) (hK : X.K = G.K) (A : AbH G ρ H h) {d : D} {v : V} {u : Value} (rv : RelV v u) (r : Rp G ρ H v d) (e : isR (top h d) = true) : ∃ as, Reads s.heap u (toPy (top h d)) as := by
  by_cases e0 : top h d = .dk []
  · have e1 : d = .dk [] := by
      unfold top at e0
      split at e0
      · cases e0
      · exact e0
    subst e1
    obtain ⟨_, as, _, h1, _⟩ := reads_dk0 I rv r
    exact ⟨as, by rw [e0, toPy]; exact h1⟩
  · refine reads_top I hK A rv r ?_
    unfold isR at e
    split at e
    · rename_i e1; exact (e0 e1).elim
    · exact e
mutual
theorem noDict_of : ∀ d : D, isD d = true → (toPy d).hasDict = false
  | .non, _ => by rw [toPy, PyData.hasDict]
  | .bl _, _ => by rw [toPy, PyData.hasDict]
  | .int _, _ => by rw [toPy, PyData.hasDict]
  | .str _, _ => by rw [toPy, PyData.hasDict]
  | .tup xs, e => by rw [toPy, PyData.hasDict]; exact noDictL_of xs (by rw [isD] at e; exact e)
  | .arr xs, e => by rw [toPy, PyData.hasDict]; exact noDictL_of xs (by rw [isD] at e; exact e)
  | .ty _, e => by simp [isD] at e
  | .dk _, e => by simp [isD] at e
  | .ref _, e => by simp [isD] at e
  | .fn _, e => by simp [isD] at e
  | .cls _, e => by simp [isD] at e
  | .exc _, e => by simp [isD] at e
  | .scr _, e => by simp [isD] at e
theorem noDictL_of : ∀ ds : List D, isDL ds = true → PyData.hasDictAll (toPyL ds) = false
  | [], _ => by rw [toPyL, PyData.hasDictAll]
  | d :: ds, e => by
    rw [isDL, Bool.and_eq_true] at e
    rw [toPyL, PyData.hasDictAll, noDict_of d e.1, noDictL_of ds e.2]; rfl
end
/-! ### isinstance with a built-in class: the head alone is asked -/
def hdP (h : Hd) : D → Option PyData
  | .non => some .none
  | .bl b => some (.bool b)
  | .int i => some (.int i)
  | .str x => some (.str x)
  | .tup _ => some (.tuple [])
  | .arr _ => some (.list [])
  | .dk _ => some (.dict [])
  | .ref i => match h[i]? with
    | some (.lst _) => some (.list [])
    | some (.dk _) => some (.dict [])
    | _ => none
  | _ => none
def ObCls (s : Shared) (u : Value) (T : String) : Prop := ∃ a o, u = .ref a ∧ s.heap.get? a = some o ∧ o.cls = .type T
def HeadIs (s : Shared) (u : Value) : PyData → Prop
  | .none => u = .none
  | .bool b => u = .bool b
  | .int i => ∃ t, u = .int i t
  | .str x => ∃ t, u = .str x t
  | .tuple _ => ObCls s u "tuple"
  | .list _ => ObCls s u "list"
  | .dict _ => ObCls s u "dict"
theorem hd_lst {pins : List (Addr × Obj)} {σ : L2.St} {s : Shared} (I : Inv X pins σ H s) {a : Addr} {vs : List V} (e : H a = some (.lst vs)) : ObCls s (.ref a) "list" := by
  obtain ⟨_, _, _, _, ho⟩ := I.hok a _ e
  exact ⟨a, _, rfl, ho, rfl⟩
theorem hd_dk {pins : List (Addr × Obj)} {σ : L2.St} {s : Shared} (I : Inv X pins σ H s) {a : Addr} {vs : List (Key × V)} (e : H a = some (.dK vs)) : ObCls s (.ref a) "dict" := by
  obtain ⟨_, hs, vs, kv, o, es, ep, ho, hx, hd, _⟩ := I.hok _ _ e
  exact ⟨a, o, rfl, ho, hx.1⟩
theorem hd_rel {pins : List (Addr × Obj)} {σ : L2.St} {s : Shared} {h : Hd} (I : Inv X pins σ H s) (hK : X.K = G.K) (A : AbH G ρ H h) {d : D} {v : V} {u : Value} {p : PyData} (rv : RelV v u) (r : Rp G ρ H v d) (e : hdP h d = some p) : HeadIs s u p := by
  cases r with
  | non => cases e; exact rv
  | bl b => cases e; exact rv
  | int i => cases e; exact rv
  | str x => cases e; exact rv
  | tup ht _ =>
    cases e
    obtain ⟨its, _, ⟨o, ho, hc, _⟩, _⟩ := I.tuple (by rw [hK]; exact ht)
    exact ⟨_, o, rv, ho, hc⟩
  | arr ha _ _ => cases e; cases rv; exact hd_lst I ha
  | dk ha _ _ _ => cases e; cases rv; exact hd_dk I ha
  | ref hi =>
    obtain ⟨o, ho, x⟩ := A.ob _ _ hi
    simp only [hdP, ho] at e
    cases o with
    | lst xs => cases e; cases rv; obtain ⟨vs, z, _⟩ := x; exact hd_lst I z
    | dk ks => cases e; cases rv; obtain ⟨vs, z, _⟩ := x; exact hd_dk I z
    | dead => cases e
  | gone hi => simp only [hdP, A.gone _ hi] at e; cases e
  | _ => cases e
def isTy (d : PyData) (n : String) : Option Bool :=
  if n = "int" then some d.isInt else if n = "bool" then some d.isBool else if n = "tuple" then some d.isTuple else if n = "list" then some d.isList else if n = "str" then some d.isStr else none
def FIsi : List D → Hd → Res D := fun ds h => match ds with
  | [d, .ty n] => match (hdP h d).bind fun p => isTy p n with
    | some b => .ok (.bl b) h
    | none => .stuck
  | _ => .stuck
theorem isi_head {A : Around} {E : Value → Shared → Prop} {s : Shared} {u : Value} {p : PyData} {n : String} {b : Bool} {Q : Value → Shared → Prop} {prog : Program} {w : World} (hp : HeadIs s u p) (e : isTy p n = some b) (q : ∀ tk, Q (.bool b) { s with toks := tk }) :
    wpAny (model prog w) A (call (.builtin "isinstance") [u, .type n]) Q E s := by
  have cases5 : (n = "int" ∧ b = p.isInt) ∨ (n = "bool" ∧ b = p.isBool) ∨ (n = "tuple" ∧ b = p.isTuple) ∨ (n = "list" ∧ b = p.isList) ∨ (n = "str" ∧ b = p.isStr) := by
    unfold isTy at e
    split at e
    · cases e; exact .inl ⟨by assumption, rfl⟩
    · split at e
      · cases e; exact .inr (.inl ⟨by assumption, rfl⟩)
      · split at e
        · cases e; exact .inr (.inr (.inl ⟨by assumption, rfl⟩))
        · split at e
          · cases e; exact .inr (.inr (.inr (.inl ⟨by assumption, rfl⟩)))
          · split at e
            · cases e; exact .inr (.inr (.inr (.inr ⟨by assumption, rfl⟩)))
            · cases e
  rcases cases5 with ⟨rfl, rfl⟩ | ⟨rfl, rfl⟩ | ⟨rfl, rfl⟩ | ⟨rfl, rfl⟩ | ⟨rfl, rfl⟩
  · cases p with
    | none => cases hp; exact IsiPair.NoneType_int (q _)
    | bool b => cases hp; exact IsiPair.bool_int (q s.toks)
    | int i => obtain ⟨t, rfl⟩ := hp; exact IsiPair.int_int (q s.toks)
    | str i => obtain ⟨t, rfl⟩ := hp; exact IsiPair.str_int (q _)
    | tuple xs => obtain ⟨a, o, rfl, h1, h2⟩ := hp; exact IsiPair.tuple_int h1 h2 (q _)
    | list xs => obtain ⟨a, o, rfl, h1, h2⟩ := hp; exact IsiPair.list_int h1 h2 (q _)
    | dict xs => obtain ⟨a, o, rfl, h1, h2⟩ := hp; exact IsiPair.dict_int h1 h2 (q _)
  · cases p with
    | none => cases hp; exact IsiPair.NoneType_bool (q _)
    | bool b => cases hp; exact IsiPair.bool_bool (q s.toks)
    | int i => obtain ⟨t, rfl⟩ := hp; exact IsiPair.int_bool (q _)
    | str i => obtain ⟨t, rfl⟩ := hp; exact IsiPair.str_bool (q _)
    | tuple xs => obtain ⟨a, o, rfl, h1, h2⟩ := hp; exact IsiPair.tuple_bool h1 h2 (q _)
    | list xs => obtain ⟨a, o, rfl, h1, h2⟩ := hp; exact IsiPair.list_bool h1 h2 (q _)
    | dict xs => obtain ⟨a, o, rfl, h1, h2⟩ := hp; exact IsiPair.dict_bool h1 h2 (q _)
  · cases p with
    | none => cases hp; exact IsiPair.NoneType_tuple (q _)
    | bool b => cases hp; exact IsiPair.bool_tuple (q _)
    | int i => obtain ⟨t, rfl⟩ := hp; exact IsiPair.int_tuple (q _)
    | str i => obtain ⟨t, rfl⟩ := hp; exact IsiPair.str_tuple (q _)
    | tuple xs => obtain ⟨a, o, rfl, h1, h2⟩ := hp; exact IsiPair.tuple_tuple h1 h2 (q s.toks)
    | list xs => obtain ⟨a, o, rfl, h1, h2⟩ := hp; exact IsiPair.list_tuple h1 h2 (q _)
    | dict xs => obtain ⟨a, o, rfl, h1, h2⟩ := hp; exact IsiPair.dict_tuple h1 h2 (q _)
  · cases p with
    | none => cases hp; exact IsiPair.NoneType_list (q _)
    | bool b => cases hp; exact IsiPair.bool_list (q _)
    | int i => obtain ⟨t, rfl⟩ := hp; exact IsiPair.int_list (q _)
    | str i => obtain ⟨t, rfl⟩ := hp; exact IsiPair.str_list (q _)
    | tuple xs => obtain ⟨a, o, rfl, h1, h2⟩ := hp; exact IsiPair.tuple_list h1 h2 (q _)
    | list xs => obtain ⟨a, o, rfl, h1, h2⟩ := hp; exact IsiPair.list_list h1 h2 (q s.toks)
    | dict xs => obtain ⟨a, o, rfl, h1, h2⟩ := hp; exact IsiPair.dict_list h1 h2 (q _)
  · cases p with
    | none => cases hp; exact IsiPair.NoneType_str (q _)
    | bool b => cases hp; exact IsiPair.bool_str (q _)
    | int i => obtain ⟨t, rfl⟩ := hp; exact IsiPair.int_str (q _)
    | str i => obtain ⟨t, rfl⟩ := hp; exact IsiPair.str_str (q s.toks)
    | tuple xs => obtain ⟨a, o, rfl, h1, h2⟩ := hp; exact IsiPair.tuple_str h1 h2 (q _)
    | list xs => obtain ⟨a, o, rfl, h1, h2⟩ := hp; exact IsiPair.list_str h1 h2 (q _)
    | dict xs => obtain ⟨a, o, rfl, h1, h2⟩ := hp; exact IsiPair.dict_str h1 h2 (q _)
theorem fit_isi : FitC X G (.builtin "isinstance") FIsi := by
  intro hK W pins s σ H ρ h vs ds us Q I r A rs q
  unfold FIsi at q
  split at q
  · rename_i d n
    obtain ⟨v, w, rfl, rv, rw_⟩ := rs.two
    have ew : w = .ty n := by cases rw_; rfl
    subst ew
    split at q
    · rename_i b hb
      obtain ⟨p, e1, e2⟩ := Option.bind_eq_some_iff.mp hb
      cases r with
      | cons r1 r2 => cases r2 with
        | cons r2 r3 =>
          cases r3
          cases r2
          exact isi_head (hd_rel I hK A r1 rv e1) e2 fun tk => ⟨.bl _, H, I.tok _, rfl, q.val A (.bl _)⟩
    · exact q.elim
  · exact q.elim
/-! ### repr -/
/-- a text of it is not too long -/
def rOk (d : D) : Bool := isR d && decide (dep d ≤ 50) && (toPy d).showable && (toPy d).leavesShort 13 && decide ((toPy d).bulk ≤ 2 ^ 20)
def FRepr : List D → Hd → Res D := fun ds h => match ds with
  | [d] => if rOk (top h d) then .ok (.str (toPy (top h d)).shown) h else .stuck
  | _ => .stuck
theorem fit_repr (hg : X.A.guards = some []) (hu : X.A.units + 64 < cLine) : FitC X G (.builtin "repr") FRepr := by
  intro hK W pins s σ H ρ h vs ds us Q I r A rs q
  unfold FRepr at q
  split at q
  · rename_i d
    obtain ⟨v, rfl, rv⟩ := rs.one
    split at q
    · rename_i hc
      unfold rOk at hc
      simp only [Bool.and_eq_true, decide_eq_true_eq] at hc
      obtain ⟨⟨⟨⟨h1, h2⟩, h3⟩, h4⟩, h5⟩ := hc
      unfold dep at h2
      have hz := PyData.shown_fits_bulk (B := 13) (by decide) (by decide) h4 h5
      cases r with
      | cons r1 r2 =>
        cases r2
        rename_i u
        have fin : ∀ {x : Str} {h' : Heap} {tk : Nat} {t : Tok}, x = (toPy (top h d)).shown → (∀ b o, s.heap.get? b = some o → h'.get? b = some o) → EP X pins σ Q (.str x t) { s with heap := h', toks := tk } := fun e hk => by
          subst e
          exact ⟨.str _, H, I.kept hk, ⟨_, rfl⟩, q.val A (.str _)⟩
        by_cases hr : ∃ a, u = .ref a
        · obtain ⟨a, rfl⟩ := hr
          by_cases e0 : top h d = .dk []
          · have e1 : d = .dk [] := by
              unfold top at e0
              split at e0
              · cases e0
              · exact e0
            subst e1
            obtain ⟨_, as, _, rd, hs⟩ := reads_dk0 I r1 rv
            rw [e0, toPy] at h2 h3 hz
            refine repr_of_reads' rd h3 (fun _ => hs) hg (by omega) (fun _ _ e => e) (fun h' t tk hk => fin (by rw [e0, toPy]) hk) hz
          · have hd : isD (top h d) = true := by
              unfold isR at h1
              split at h1
              · rename_i e1; exact (e0 e1).elim
              · exact h1
            obtain ⟨as, rd⟩ := reads_top I hK A r1 rv hd
            exact repr_of_reads' rd h3 (PyData.noDict_hsm (noDict_of _ hd)) hg (by omega) (fun _ _ e => e) (fun h' t tk hk => fin rfl hk) hz
        · obtain ⟨as, rd⟩ := reads_any I hK A r1 rv h1
          have fin2 : ∀ {x : Str} {tk : Nat} {t : Tok}, x = (toPy (top h d)).shown → EP X pins σ Q (.str x t) { s with toks := tk } := fun e => fin e fun _ _ e => e
          revert h3 hz fin2
          generalize toPy (top h d) = p at rd
          intro h3 hz fin2
          cases rd with
          | none => exact PySem.P.repr_of_none (fin2 PyData.shown_none.symm)
          | bool b => exact PySem.P.repr_of_bool (fin2 (by rw [PyData.shown_bool]))
          | int i t => exact PySem.P.repr_of_int (by simpa [PyData.showable] using h3) (fin2 (PyData.shown_int i).symm)
          | str x t => exact PySem.P.repr_of_str (fin2 (PyData.shown_str x).symm) (by rw [PyData.shown_str] at hz; exact hz)
          | list h1 _ _ _ => exact (hr ⟨_, rfl⟩).elim
          | tuple h1 _ _ _ => exact (hr ⟨_, rfl⟩).elim
          | dict h1 _ _ _ _ => exact (hr ⟨_, rfl⟩).elim
    · exact q.elim
  · exact q.elim
end
end RX

set_option Elab.async false
set_option linter.all false
set_option maxRecDepth 100000
set_option maxHeartbeats 2000000
namespace RX
open PySem PySem.Spec PyProof.Rows L2
section
variable {G : Gc} {ρ : Rh} {H : Hp} {h : Hd}
/-! ### a mutable object is changed -/
theorem AbH.nm (A : AbH G ρ H h) {i : Nat} {a : Addr} (hi : ρ.l[i]? = some (some a)) : some a ∈ ρ.l ∧ a ∉ ρ.z := ⟨List.mem_of_getElem? hi, fun z => A.dis a z (List.mem_of_getElem? hi)⟩
theorem Pst.write {a : Addr} {o o' : HO} (hl : some a ∈ ρ.l ∧ a ∉ ρ.z) (ha : H a = some o) (hm : isMut o) (hn : ∀ ps, o' ≠ .tbl ps := by intro _ z; cases z) : Pst ρ H ρ (upd H a o') where
  fr := fun b u e l _ => by rw [upd_ne (fun z => by subst z; exact l (.inl hl.1))]; exact e
  ext := fun _ _ e => .inl e
  gone := fun _ e => e
  new := fun _ l => .inl l
  lv := fun b u e _ t => by
    by_cases z : b = a
    · rw [z]; exact ⟨_, upd_same, hn⟩
    · exact ⟨u, by rw [upd_ne z]; exact e, t⟩
  hd := fun b l u e => by rw [upd_ne (fun z => by subst z; exact hl.2 l)]; exact e
  hz := fun _ l => l
theorem tabs_upd {T : List (Addr × Str)} {a : Addr} {o o' : HO} (t : LamX.Tabs T H) (ha : H a = some o) (hm : isMut o) : LamX.Tabs T (upd H a o') := fun p hp => by
  obtain ⟨ps, e, tr, k⟩ := t p hp
  have ne : ∀ (b : Addr) (u : HO), H b = some u → ¬ isMut u → b ≠ a := fun b u e n z => by
    rw [z, ha] at e; cases e; exact n hm
  refine ⟨ps, by rw [upd_ne (ne _ _ e (by rintro (⟨_, z⟩ | ⟨_, z⟩) <;> cases z))]; exact e, tr, fun pos cv hc => ?_⟩
  obtain ⟨c, rfl, ec⟩ := k pos cv hc
  exact ⟨c, rfl, by rw [upd_ne (ne _ _ ec (by rintro (⟨_, z⟩ | ⟨_, z⟩) <;> cases z))]; exact ec⟩
theorem AbH.write (A : AbH G ρ H h) {i : Nat} {a : Addr} {o o' : HO} {m : MO} (hi : ρ.l[i]? = some (some a)) (ha : H a = some o) (hm : isMut o) (hx : ObO G ρ (upd H a o') a m) (hn : ∀ ps, o' ≠ .tbl ps := by intro _ z; cases z) : AbH G ρ (upd H a o') (h.set i m) where
  len := by rw [List.length_set]; exact A.len
  ob := fun j b e => by
    by_cases z : j = i
    · subst z
      rw [hi] at e; cases e
      exact ⟨m, List.getElem?_set_self (by rw [← A.len]; exact (List.getElem?_eq_some_iff.mp hi).1), hx⟩
    · obtain ⟨u, hu, x⟩ := A.ob j b e
      have nb : b ≠ a := fun q => z (A.inj j i a (q ▸ e) hi)
      exact ⟨u, by rw [List.getElem?_set_ne (Ne.symm z)]; exact hu, x.mono A (Pst.write (A.nm hi) ha hm hn) (upd_ne nb)⟩
  gone := fun j e => by
    rw [List.getElem?_set_ne (fun z => by rw [← z, hi] at e; cases e)]; exact A.gone j e
  inj := A.inj
  tabs := tabs_upd A.tabs ha hm
  hid := fun b l => by
    have nb : b ≠ a := fun z => A.dis b l (by rw [z]; exact List.mem_of_getElem? hi)
    rw [upd_ne nb]; exact A.hid b l
  dis := A.dis
  inv := G.mon _ _ _ _ A.lvok (Pst.write (A.nm hi) ha hm hn).toPst0 A.inv
theorem ref_lst (A : AbH G ρ H h) {v : V} {i : Nat} {xs : List D} (r : Rp G ρ H v (.ref i)) (e : h[i]? = some (.lst xs)) : ∃ a vs, v = .ref a ∧ ρ.l[i]? = some (some a) ∧ H a = some (.lst vs) ∧ RpL G ρ H vs xs := by
  cases r with
  | ref hi =>
    rename_i a
    obtain ⟨o, ho, x⟩ := A.ob _ _ hi
    rw [e] at ho; cases ho
    obtain ⟨vs, z, r⟩ := x
    exact ⟨a, vs, rfl, hi, z, r⟩
  | gone hi => rw [A.gone _ hi] at e; cases e
variable {σ : L2.St} {W : WX}
theorem RK.writeL {Q : VK} {d : D} {w : V} {i : Nat} {a : Addr} {vs vs' : List V} {ds' : List D} (q : RK G ρ H σ W (.ok d (h.set i (.lst ds'))) (KV G Q)) (A : AbH G ρ H h) (hi : ρ.l[i]? = some (some a)) (ha : H a = some (.lst vs)) (r : RpL G ρ H vs' ds') (rw_ : Rp G ρ H w d) : Q w (upd H a (.lst vs')) := by
  have hm : isMut (.lst vs) := .inl ⟨_, rfl⟩
  have p : Pst ρ H ρ (upd H a (.lst vs')) := Pst.write (A.nm hi) ha hm
  exact q ρ _ p (A.write hi ha hm ⟨vs', upd_same, r.mono A p⟩) w (rw_.mono A p)
end
/-! ### methods of lists -/
def mMeth (F : D → List D → Hd → Res D) (m : ME) (ms : MA) : ME := fun s h => (m s h).bind fun d h1 => match lstOf h1 d with
  | some _ => (ms s h1).bind fun ds h2 => F d ds h2
  | none => .stuck
section
variable {G : Gc} {X : Cx} {W : WX} {o e : Expr} {es : List Expr} {m : ME} {ms : MA} {name : Str} {apos cpos : Pos} {id : String}
def FitM (X : Cx) (G : Gc) (id : String) (F : D → List D → Hd → Res D) : Prop := X.K = G.K →
  ∀ (W : WX) (pins : List (Addr × Obj)) (s : Shared) (σ : L2.St) (H : Hp) (ρ : Rh) (h : Hd) (x : V) (d : D) (xs : List V) (ds : List D) (v : Value) (us : List Value) (Q : VK), Inv X pins σ H s → RelV x v → Vals xs us → AbH G ρ H h → Rp G ρ H x d → RpL G ρ H xs ds → RK G ρ H σ W (F d ds h) (KV G Q) →
    wpAny (model X.prog X.w) X.A (call (.builtin id) (v :: us)) (EP X pins σ Q) X.xe s
def rmFit (G : Gc) (F : D → List D → Hd → Res D) : V → List V → Hp → VK → Prop := fun x vs H Q => ∃ (W : WX) (σ : L2.St) (ρ : Rh) (h : Hd) (d : D) (ds : List D), AbH G ρ H h ∧ Rp G ρ H x d ∧ RpL G ρ H vs ds ∧ RK G ρ H σ W (F d ds h) (KV G Q)
theorem FitM.mt {F : D → List D → Hd → Res D} (Ft : FitM X G id F) (hK : X.K = G.K) : MtR X id (rmFit G F) := fun pins s σ H x xs v us Q I rx r ⟨W, σ', ρ, h, d, ds, A, rd, rs, q⟩ => by
  refine Ft hK (fun c d' _ H' => W c d' σ' H') pins s σ H ρ h x d xs ds v us Q I rx r A rd rs ?_
  cases hf : F d ds h with
  | ok a h => rw [hf] at q; exact q
  | exc c h => rw [hf] at q; exact q
  | stuck => rw [hf] at q; exact q
theorem rd_meth {F : D → List D → Hd → Res D} {σ : L2.St} {H : Hp} {Q : VK} (hK : X.K = G.K) (q : TE_ G W (mMeth F m ms) σ H Q) : tBM X.K "list" (rmFit G F) (TE_ G W m) (TA_ G W ms) σ H Q := by
  obtain ⟨ρ, sd, h, S, A, q⟩ := q
  refine te_bind S A q fun d h1 ρ1 H1 x p S1 A1 rx q1 => ?_
  cases e0 : lstOf h1 d with
  | none => rw [e0] at q1; exact q1.elim
  | some xs =>
    simp only [e0] at q1
    obtain ⟨a, vs, rfl, ha, _⟩ := lst_rel A1 rx e0
    exact ⟨.inl ⟨rfl, _, .inl (.inl ha)⟩, ta_bind S1 A1 q1 fun ds h2 ρ2 H2 vs p2 S2 A2 rs q2 => ⟨W, σ, ρ2, h2, d, ds, A2, rx.mono A1 p2, rs, q2⟩⟩
/-- o.m(e, ..), o a list -/
theorem okMeth {F : D → List D → Hd → Res D} (Ft : FitM X G id F) (slot : Slot "list" name id) (hty : typeOf (.builtin id) = pure (.type "method_descriptor")) (ho : OkE X G W o m) (ha : OkA X G W (e :: es) ms) (hK : X.K = G.K := by rfl)
    (hbase : attributeBase o name X.env (eval o X.env) = eval o X.env := by rfl)
    (hfew : ((backTo cpos (starEach (e :: es) X.env)).all (fun x => !x.1) && (backToKw cpos (keywordEach [] X.env)).all (fun x => x.1.isSome) && decide ((e :: es).length + ([] : List Keyword).length + (if ([] : List Keyword).isEmpty then 0 else 1) < 30)) = true := by rfl)
    (hline : (apos.endLine == cpos.line) = true := by rfl) (hs : starEach (e :: es) X.env = (false, eval e X.env) :: starEach es X.env := by rfl) (hplain : (backTo cpos (starEach es X.env)).any (·.1) = false := by rfl) :
    OkE X G W (.Call (.Attribute o name apos) (e :: es) [] cpos) (mMeth F m ms) :=
  ⟨fun pins s σ H Q I q => (pe_bm PySem.F.plainAttrs_list slot hty (Ft.mt hK) ho ha hbase hfew hline hs hplain).run pins s σ H Q I (rd_meth hK q)⟩
/-- o.m() -/
theorem okMeth0 {F : D → List D → Hd → Res D} (Ft : FitM X G id F) (slot : Slot "list" name id) (hty : typeOf (.builtin id) = pure (.type "method_descriptor")) (ho : OkE X G W o m) (hK : X.K = G.K := by rfl)
    (hbase : attributeBase o name X.env (eval o X.env) = eval o X.env := by rfl) (hline : (apos.endLine == cpos.line) = true := by rfl) :
    OkE X G W (.Call (.Attribute o name apos) [] [] cpos) (mMeth F m aNil) := by
  refine ⟨fun pins s σ H Q I q => (pe_bm0 PySem.F.plainAttrs_list slot hty (Ft.mt hK) ho hbase hline).run pins s σ H Q I ?_⟩
  obtain ⟨ρ, sd, h, S, A, q⟩ := q
  refine te_bind S A q fun d h1 ρ1 H1 x p S1 A1 rx q1 => ?_
  cases e0 : lstOf h1 d with
  | none => rw [e0] at q1; exact q1.elim
  | some xs =>
    simp only [e0] at q1
    obtain ⟨a, vs, rfl, ha, _⟩ := lst_rel A1 rx e0
    exact ⟨.inl ⟨rfl, _, .inl (.inl ha)⟩, W, σ, ρ1, h1, d, [], A1, rx, .nil, q1⟩
def FAppend : D → List D → Hd → Res D := fun d ds h => match d, ds with
  | .ref i, [x] => match h[i]? with
    | some (.lst xs) => if xs.length < sizeLine then .ok .non (h.set i (.lst (xs ++ [x]))) else .stuck
    | _ => .stuck
  | _, _ => .stuck
theorem fit_append : FitM X G "list.append" FAppend := by
  intro hK W pins s σ H ρ h x d xs ds v us Q I rx r A rd rs q
  unfold FAppend at q
  split at q
  · split at q
    · rename_i e0
      split at q
      · rename_i hl
        obtain ⟨w, rfl, rw_⟩ := rs.one
        obtain ⟨a, vs, rfl, hi, ha, ra⟩ := ref_lst A rd e0
        exact mt_append pins s σ H _ _ v us Q I rx r ⟨a, vs, w, rfl, rfl, ha, by rw [ra.length]; exact hl, q.writeL A hi ha (ra.append (.cons rw_ .nil)) .non⟩
      · exact q.elim
    · exact q.elim
  · exact q.elim
def FExtend : D → List D → Hd → Res D := fun d ds h => match d, ds with
  | .ref i, [x] => match h[i]?, lstOf h x with
    | some (.lst xs), some ys => if xs.length + ys.length ≤ sizeLine then .ok .non (h.set i (.lst (xs ++ ys))) else .stuck
    | _, _ => .stuck
  | _, _ => .stuck
theorem fit_extend : FitM X G "list.extend" FExtend := by
  intro hK W pins s σ H ρ h x d xs ds v us Q I rx r A rd rs q
  unfold FExtend at q
  split at q
  · split at q
    · rename_i e0 e1
      split at q
      · rename_i hl
        obtain ⟨w, rfl, rw_⟩ := rs.one
        obtain ⟨a, vs, rfl, hi, ha, ra⟩ := ref_lst A rd e0
        obtain ⟨b, ws, rfl, hb, rb⟩ := lst_rel A rw_ e1
        exact mt_extend pins s σ H _ _ v us Q I rx r ⟨a, b, vs, ws, rfl, rfl, ha, hb, by rw [ra.length, rb.length]; exact hl, q.writeL A hi ha (ra.append rb) .non⟩
      · exact q.elim
    · exact q.elim
  · exact q.elim
def FPop : D → List D → Hd → Res D := fun d ds h => match d, ds with
  | .ref i, [] => match h[i]? with
    | some (.lst xs) => match xs[xs.length - 1]? with
      | some x => .ok x (h.set i (.lst xs.dropLast))
      | none => .stuck
    | _ => .stuck
  | .ref i, [.int k] => match h[i]? with
    | some (.lst xs) => if decide (0 ≤ k) && decide (k < 2 ^ 62) then (match xs[k.toNat]? with
      | some x => .ok x (h.set i (.lst (xs.eraseIdx k.toNat)))
      | none => .stuck) else .stuck
    | _ => .stuck
  | _, _ => .stuck
theorem RpL.dropLast {ρ : Rh} {H : Hp} {vs : List V} {ds : List D} (r : RpL G ρ H vs ds) : RpL G ρ H vs.dropLast ds.dropLast := by
  rw [List.dropLast_eq_take, List.dropLast_eq_take, r.length]
  exact r.take _
theorem fit_pop : FitM X G "list.pop" FPop := by
  intro hK W pins s σ H ρ h x d xs ds v us Q I rx r A rd rs q
  unfold FPop at q
  split at q
  · split at q
    · rename_i e0
      split at q
      · rename_i e1
        cases rs
        obtain ⟨a, vs, rfl, hi, ha, ra⟩ := ref_lst A rd e0
        obtain ⟨w, e2, rw_⟩ := ra.get e1
        rw [← ra.length] at e2
        exact mt_pop pins s σ H _ _ v us Q I rx r ⟨a, vs, w, rfl, rfl, ha, e2, q.writeL A hi ha ra.dropLast rw_⟩
      · exact q.elim
    · exact q.elim
  · split at q
    · rename_i e0
      split at q
      · rename_i k _ _ hc
        simp only [Bool.and_eq_true, decide_eq_true_eq] at hc
        split at q
        · rename_i e1
          obtain ⟨w, rfl, rw_⟩ := rs.one
          obtain rfl := rw_.int_of
          obtain ⟨a, vs, rfl, hi, ha, ra⟩ := ref_lst A rd e0
          obtain ⟨y, e2, ry⟩ := ra.get e1
          have hlt := (List.getElem?_eq_some_iff.mp e2).1
          refine mt_popAt pins s σ H _ _ v us Q I rx r ⟨a, vs, _, _, y, rfl, rfl, ha, by omega, by omega, ?_, e2, q.writeL A hi ha (ra.eraseIdx _) ry⟩
          exact (ixN_seq (by unfold ixN; rw [if_pos hc.1, if_pos (by omega)])).1
        · exact q.elim
      · exact q.elim
    · exact q.elim
  · exact q.elim
/-- l.count(x), l.index(x) -/
def FCount : D → List D → Hd → Res D := fun d ds h => match ds with
  | [x] => match lstOf h d with
    | some xs => if isDL xs && shp (top h x) then .ok (.int ((xs.countP fun y => PyData.eqv (toPy y) (toPy (top h x)) : Nat) : Int)) h else .stuck
    | none => .stuck
  | _ => .stuck
theorem readsL {pins : List (Addr × Obj)} {σ : L2.St} {s : Shared} {ρ : Rh} {H : Hp} {h : Hd} (I : Inv X pins σ H s) (hK : X.K = G.K) (A : AbH G ρ H h) {d : D} {v : V} {u : Value} {xs : List D} (rv : RelV v u) (r : Rp G ρ H v d) (e : lstOf h d = some xs) (hd : isDL xs = true) :
    ∃ a its as, u = .ref a ∧ s.heap.IsList a its ∧ ReadsAll s.heap its.toList (toPyL xs) as := by
  have et : top h d = .arr xs := by unfold top; rw [e]
  obtain ⟨as, rd⟩ := reads_top I hK A rv r (by rw [et, isD]; exact hd)
  rw [et, toPy] at rd
  cases rd with
  | list ho hc hd hr => exact ⟨_, _, _, rfl, ⟨_, ho, hc, _, hd⟩, hr⟩
theorem fit_count (hu : X.A.units + 64 < cLine) : FitM X G "list.count" FCount := by
  intro hK W pins s σ H ρ h x d xs ds v us Q I rx r A rd rs q
  unfold FCount at q
  split at q
  · split at q
    · rename_i y _ zs e0
      split at q
      · rename_i hc
        rw [Bool.and_eq_true] at hc
        have c1 := shp_of hc.2
        obtain ⟨w, rfl, rw_⟩ := rs.one
        cases r with
        | cons r1 r2 =>
          cases r2
          obtain ⟨a, its, as, rfl, hl, rr⟩ := readsL I hK A rx rd e0 hc.1
          obtain ⟨bs, r3⟩ := reads_top I hK A r1 rw_ c1.1
          refine SeqAt.count_list_data hl rr r3 (plainL_of _ hc.1) (plain_of _ c1.1) (by have := Nat.min_le_right (PyData.depthAll (toPyL zs)) (toPy (top h y)).depth; have := c1.2; unfold dep at this; omega) ⟨.int _, H, I.tok _, ⟨_, rfl⟩, ?_⟩
          rw [toPyL_eq, List.countP_map]
          exact q.val A (.int _)
      · exact q.elim
    · exact q.elim
  · exact q.elim
def FIndex : D → List D → Hd → Res D := fun d ds h => match ds with
  | [x] => match lstOf h d with
    | some xs => if shp (.arr xs) && shp (top h x) && SeqAt.shaped (toPy (.arr xs)) && SeqAt.shaped (toPy (top h x)) then (match xs.findIdx? fun y => PyData.eqv (toPy y) (toPy (top h x)) with
      | some j => .ok (.int (j : Nat)) h
      | none => .stuck) else .stuck
    | none => .stuck
  | _ => .stuck
theorem fit_index (hu : X.A.units + 65 < cLine) : FitM X G "list.index" FIndex := by
  intro hK W pins s σ H ρ h x d xs ds v us Q I rx r A rd rs q
  unfold FIndex at q
  split at q
  · split at q
    · rename_i y _ zs e0
      split at q
      · rename_i hc
        simp only [Bool.and_eq_true] at hc
        split at q
        · rename_i j hj
          obtain ⟨w, rfl, rw_⟩ := rs.one
          obtain ⟨a, vs, rfl, ha, ra⟩ := lst_rel A rd e0
          have c1 := shp_of hc.1.1.1
          rw [isD] at c1
          have c2 := shp_of hc.1.1.2
          have p2 : Dp G.K H w (toPy (top h y)) := by
            unfold top at c2 ⊢
            cases el : lstOf h y with
            | none => simp only [el] at c2; exact dp_of rw_ c2.1
            | some xs =>
              simp only [el] at c2 ⊢
              obtain ⟨a, vs, rfl, ha, ra⟩ := lst_rel A rw_ el
              rw [toPy]
              exact .lst (.inl (.inl ha)) (dpL_of ra (by have := c2.1; rw [isD] at this; exact this))
          have p1 : Dp G.K H (.ref a) (.list (toPyL zs)) := .lst (.inl (.inl ha)) (dpL_of ra c1.1)
          rw [← hK] at p1 p2
          obtain ⟨h1, h2, h3⟩ := List.findIdx?_eq_some_iff_getElem.mp hj
          have hs := hc.1.2
          rw [toPy] at hs
          refine mt_indexD hu pins s σ H _ _ v us Q I rx r ⟨a, w, toPy (top h y), toPyL zs, j, toPy zs[j], rfl, rfl, p1, p2, hs, hc.2, ?_, h2, fun m z hm hz => ?_, q.val A (.int _)⟩
          · rw [toPyL_eq, List.getElem?_map, List.getElem?_eq_getElem h1]; rfl
          · rw [toPyL_eq, List.getElem?_map, List.getElem?_eq_getElem (by omega)] at hz
            cases hz
            have := h3 m hm
            simpa using this
        · exact q.elim
      · exact q.elim
    · exact q.elim
  · exact q.elim
end
end RX

set_option Elab.async false
set_option linter.all false
set_option maxRecDepth 100000
set_option maxHeartbeats 2000000
namespace RX
open PySem PySem.Spec PyProof.Rows L2
/-! ### what is walked -/
/-- J gives the items ds, whatever we do meanwhile -/
def Gives (G : Gc) (ρ : Rh) (H : Hp) (J : It) (ds : List D) : Prop := ∃ (Gd : Hp → Prop) (Y : Nat → Hp → V → Hp → Prop), Walk J ds.length Gd Y ∧ (∀ ρ1 H1, Pst ρ H ρ1 H1 → Gd H1) ∧
  ∀ (i : Nat) (x : D) (ρ1 : Rh) (H1 : Hp) (h1 : Hd) (v : V) (H2 : Hp), ds[i]? = some x → Pst ρ H ρ1 H1 → AbH G ρ1 H1 h1 → Y i H1 v H2 → Pst ρ1 H1 ρ1 H2 ∧ AbH G ρ1 H2 h1 ∧ Rp G ρ1 H2 v x
def TI_ (G : Gc) (W : WX) (m : MA) : L2.TI := fun σ H R => ∃ ρ s h, AbS G ρ H s σ ∧ AbH G ρ H h ∧ RK G ρ H σ W (m s h) (fun ds ρ' H' => ∀ J, Gives G ρ' H' J ds → R J H')
abbrev OkI (X : Cx) (G : Gc) (W : WX) (tg e : Expr) (m : MA) : Prop := PI X tg e (TI_ G W m)
section
variable {G : Gc} {X : Cx} {W : WX} {tg a b e : Expr} {ma mb m : ME} {ms : MA} {pos p : Pos} {ρ ρ1 : Rh} {H H1 : Hp} {h : Hd}
theorem Gives.later {J : It} {ds : List D} (g : Gives G ρ H J ds) (p : Pst ρ H ρ1 H1) : Gives G ρ1 H1 J ds := by
  obtain ⟨Gd, Y, w, k, y⟩ := g
  exact ⟨Gd, Y, w, fun ρ2 H2 p2 => k ρ2 H2 (p.trans p2), fun i x ρ2 H2 h2 v H3 e p2 A yy => y i x ρ2 H2 h2 v H3 e (p.trans p2) A yy⟩
theorem gives_tup {a : Addr} {vs : List V} {ds : List D} (A : AbH G ρ H h) (ha : SqT G.K H a vs) (ra : RpL G ρ H vs ds) : Gives G ρ H (Itt G.K a) ds := by
  refine ⟨fun H => SqT G.K H a vs, YAt vs, by rw [← ra.length]; exact walk_tup, fun ρ1 H1 p => A.sqT p.toPst0 ha, fun i x ρ1 H1 h1 v H2 e p A1 y => ?_⟩
  obtain ⟨rfl, y⟩ := y
  obtain ⟨w, e2, r⟩ := ra.get e
  rw [y] at e2; cases e2
  exact ⟨.refl, A1, r.mono A p⟩
theorem gives_lst {a : Addr} {vs : List V} {ds : List D} (A : AbH G ρ H h) (ha : H a = some (.lst vs)) (nl : ¬ live ρ a) (ra : RpL G ρ H vs ds) : Gives G ρ H (Itl G.K a) ds := by
  refine ⟨fun H => SqL G.K H a vs, YAt vs, by rw [← ra.length]; exact walk_list, fun ρ1 H1 p => .inl (.inl (p.fr _ _ ha nl (fun ps z => by cases z))), fun i x ρ1 H1 h1 v H2 e p A1 y => ?_⟩
  obtain ⟨rfl, y⟩ := y
  obtain ⟨w, e2, r⟩ := ra.get e
  rw [y] at e2; cases e2
  exact ⟨.refl, A1, r.mono A p⟩
def rgD (lo : Int) (n : Nat) : List D := (List.range n).map fun i => D.int (lo + (i : Nat))
theorem gives_range {lo : Int} {n : Nat} : Gives G ρ H (Itr lo n) (rgD lo n) := by
  refine ⟨fun _ => True, YFn fun i => .int (lo + i), by unfold rgD; rw [List.length_map, List.length_range]; exact walk_range, fun _ _ _ => trivial, fun i x ρ1 H1 h1 v H2 e p A1 y => ?_⟩
  obtain ⟨rfl, rfl⟩ := y
  unfold rgD at e
  rw [List.getElem?_map] at e
  obtain ⟨j, hj, rfl⟩ := Option.map_eq_some_iff.mp e
  rw [List.getElem?_range] at hj
  · cases hj; exact ⟨.refl, A1, .int _⟩
  · have := (List.getElem?_eq_some_iff.mp hj).1
    rw [List.length_range] at this; exact this
theorem gives_zipT {a b : Addr} {vs ws : List V} {ds es : List D} (A : AbH G ρ H h) (ha : SqT G.K H a vs) (ra : RpL G ρ H vs ds) (hb : SqT G.K H b ws) (rb : RpL G ρ H ws es) : Gives G ρ H (RZ.ItzT G.K a b) (List.zipWith (fun x y => D.tup [x, y]) ds es) := by
  refine ⟨fun H => SqT G.K H a vs ∧ SqT G.K H b ws, YPair (fun i => vs[i]?) (fun i => ws[i]?), ?_, fun ρ1 H1 p => ⟨A.sqT p.toPst0 ha, A.sqT p.toPst0 hb⟩, fun i x ρ1 H1 h1 v H2 e p A1 y => ?_⟩
  · rw [List.length_zipWith, ← ra.length, ← rb.length]
    refine ⟨fun i H hi g => ⟨vs, ws, vs[i]'(by omega), ws[i]'(by omega), g.1, g.2, List.getElem?_eq_getElem _, List.getElem?_eq_getElem _⟩, fun H g => ⟨vs, ws, g.1, g.2, by omega⟩, fun i H x H' hi g y => ?_⟩
    obtain ⟨T, u, w, rfl, hT, rfl, h1, h2⟩ := y
    exact ⟨T, u, w, rfl, hT, rfl, h1 _ g.1, h2 _ g.2⟩
  · obtain ⟨T, u, w, rfl, hT, rfl, h1', h2'⟩ := y
    rw [List.getElem?_zipWith] at e
    cases e1 : ds[i]? with
    | none => rw [e1] at e; cases e
    | some d =>
      cases e2 : es[i]? with
      | none => rw [e1, e2] at e; cases e
      | some d' =>
        rw [e1, e2] at e; cases e
        obtain ⟨v1, z1, r1⟩ := ra.get e1
        obtain ⟨v2, z2, r2⟩ := rb.get e2
        dsimp only at h1' h2'
        rw [h1'] at z1; cases z1
        rw [h2'] at z2; cases z2
        have pl : Pst ρ1 H1 ρ1 (upd H1 T (.tup [u, w])) := Pst.laid hT
        exact ⟨pl, A1.laid hT, .tup (.inl (.inl upd_same)) (.cons ((r1.mono A p).mono A1 pl) (.cons ((r2.mono A p).mono A1 pl) .nil))⟩
theorem gives_zipL {a b : Addr} {vs ws : List V} {ds es : List D} (A : AbH G ρ H h) (ha : H a = some (.lst vs)) (na : ¬ live ρ a) (ra : RpL G ρ H vs ds) (hb : H b = some (.lst ws)) (nb : ¬ live ρ b) (rb : RpL G ρ H ws es) : Gives G ρ H (Itz G.K a b) (List.zipWith (fun x y => D.tup [x, y]) ds es) := by
  refine ⟨fun H => SqL G.K H a vs ∧ SqL G.K H b ws, YPair (fun i => vs[i]?) (fun i => ws[i]?), ?_, fun ρ1 H1 p => ⟨.inl (.inl (p.fr _ _ ha na (fun ps z => by cases z))), .inl (.inl (p.fr _ _ hb nb (fun ps z => by cases z)))⟩, fun i x ρ1 H1 h1 v H2 e p A1 y => ?_⟩
  · rw [List.length_zipWith, ← ra.length, ← rb.length]
    exact walk_zip rfl
  · obtain ⟨T, u, w, rfl, hT, rfl, h1', h2'⟩ := y
    rw [List.getElem?_zipWith] at e
    cases e1 : ds[i]? with
    | none => rw [e1] at e; cases e
    | some d =>
      cases e2 : es[i]? with
      | none => rw [e1, e2] at e; cases e
      | some d' =>
        rw [e1, e2] at e; cases e
        obtain ⟨v1, z1, r1⟩ := ra.get e1
        obtain ⟨v2, z2, r2⟩ := rb.get e2
        dsimp only at h1' h2'
        rw [h1'] at z1; cases z1
        rw [h2'] at z2; cases z2
        have pl : Pst ρ1 H1 ρ1 (upd H1 T (.tup [u, w])) := Pst.laid hT
        exact ⟨pl, A1.laid hT, .tup (.inl (.inl upd_same)) (.cons ((r1.mono A p).mono A1 pl) (.cons ((r2.mono A p).mono A1 pl) .nil))⟩
/-- a tuple or a list that no one changes -/
def iSeq (m : ME) : MA := fun s h => (m s h).bind fun d h1 => match d with
  | .tup xs => .ok xs h1
  | .arr xs => .ok xs h1
  | _ => .stuck
theorem okiSeq (he : OkE X G W e m) (hK : X.K = G.K := by rfl) : OkI X G W tg e (iSeq m) := by
  refine ⟨fun pins s σ H R I ⟨ρ, sd, h, S, A, q⟩ => ?_⟩
  cases em : m sd h with
  | exc c h1 =>
    simp only [iSeq, em] at q
    refine (pi_tup he).run pins s σ H R I (show TE_ G W m σ H _ from ⟨ρ, sd, h, S, A, ?_⟩)
    rw [em]; exact q
  | stuck => simp only [iSeq, em] at q; exact q.elim
  | ok d h1 =>
    simp only [iSeq, em, Res.bind] at q
    cases d with
    | tup xs =>
      refine (pi_tup he).run pins s σ H R I (show TE_ G W m σ H _ from ⟨ρ, sd, h, S, A, ?_⟩)
      rw [em]
      intro ρ1 H1 p A1 v r
      obtain ⟨a, vs, rfl, ha, ra⟩ := r.tup_of
      exact ⟨a, rfl, ⟨vs, by rw [hK]; exact ha⟩, by rw [hK]; exact q ρ1 H1 p A1 _ (gives_tup A1 ha ra)⟩
    | arr xs =>
      refine (pi_list he).run pins s σ H R I (show TE_ G W m σ H _ from ⟨ρ, sd, h, S, A, ?_⟩)
      rw [em]
      intro ρ1 H1 p A1 v r
      cases r with
      | arr ha nl ra => exact ⟨_, rfl, ⟨_, .inl (.inl ha)⟩, by rw [hK]; exact q ρ1 H1 p A1 _ (gives_lst A1 ha nl ra)⟩
    | _ => exact q.elim
def iRg1 : List D → Hd → Res (List D) := fun ds h => match ds with
  | [.int n] => if decide (-16777216 ≤ n) && decide (n ≤ 16777216) then .ok (rgD 0 n.toNat) h else .stuck
  | _ => .stuck
def iRg2 : List D → Hd → Res (List D) := fun ds h => match ds with
  | [.int i, .int j] => if decide (-16777216 ≤ i) && decide (i ≤ 16777216) && decide (-16777216 ≤ j) && decide (j ≤ 16777216) && decide (j - i ≤ 16777216) then .ok (rgD i (j - i).toNat) h else .stuck
  | _ => .stuck
def iRange1 (ms : MA) : MA := fun s h => (ms s h).bind fun ds h1 => iRg1 ds h1
def iRange2 (ms : MA) : MA := fun s h => (ms s h).bind fun ds h1 => iRg2 ds h1
theorem okiRange1 (hm : X.mg "range" = none) (ha : OkA X G W [a] ms) (hg : Gl X "range" := by rfl) (hs : starEach [a] X.env = [(false, eval a X.env)] := by rfl) : OkI X G W tg (.Call (.Name "range" p) [a] [] pos) (iRange1 ms) := by
  refine ⟨fun pins s σ H R I ⟨ρ, sd, h, S, A, q⟩ => (pi_range1 hg hm ha hs).run pins s σ H R I ?_⟩
  refine ta_bind S A q fun ds h1 ρ1 H1 vs p S1 A1 rs q1 => ?_
  unfold iRg1 at q1
  split at q1
  · split at q1
    · rename_i n hc
      simp only [Bool.and_eq_true, decide_eq_true_eq] at hc
      obtain ⟨v, rfl, rv⟩ := rs.one
      obtain rfl := rv.int_of
      exact ⟨n, rfl, by omega, by omega, q1.here A1 _ gives_range⟩
    · exact q1.elim
  · exact q1.elim
theorem okiRange2 (hm : X.mg "range" = none) (ha : OkA X G W [a, b] ms) (hg : Gl X "range" := by rfl) (hs : starEach [a, b] X.env = [(false, eval a X.env), (false, eval b X.env)] := by rfl) (hs2 : starEach [b] X.env = [(false, eval b X.env)] := by rfl) : OkI X G W tg (.Call (.Name "range" p) [a, b] [] pos) (iRange2 ms) := by
  refine ⟨fun pins s σ H R I ⟨ρ, sd, h, S, A, q⟩ => (pi_range2 hg hm ha hs hs2).run pins s σ H R I ?_⟩
  refine ta_bind S A q fun ds h1 ρ1 H1 vs p S1 A1 rs q1 => ?_
  unfold iRg2 at q1
  split at q1
  · split at q1
    · rename_i i j hc
      simp only [Bool.and_eq_true, decide_eq_true_eq] at hc
      obtain ⟨v, w, rfl, rv, rw_⟩ := rs.two
      obtain rfl := rv.int_of
      obtain rfl := rw_.int_of
      exact ⟨i, j, rfl, ⟨by omega, by omega, by omega, by omega⟩, q1.here A1 _ gives_range⟩
    · exact q1.elim
  · exact q1.elim
/-- zip of two tuples, of two lists that no one changes -/
def zipD : List D → Hd → Res (List D) := fun ds h => match ds with
  | [.tup xs, .tup ys] => .ok (List.zipWith (fun x y => D.tup [x, y]) xs ys) h
  | [.arr xs, .arr ys] => .ok (List.zipWith (fun x y => D.tup [x, y]) xs ys) h
  | _ => .stuck
def iZip (ms : MA) : MA := fun s h => (ms s h).bind fun ds h1 => zipD ds h1
theorem okiZip {elts : List Expr} {kk : Nat} {tpos : Pos} (hm : X.mg "zip" = none) (ha : OkA X G W [a, b] ms) (hg : Gl X "zip" := by rfl) (hK : X.K = G.K := by rfl)
    (hs : starEach [a, b] X.env = (false, eval a X.env) :: starEach [b] X.env := by rfl) (hpl : (backTo pos (starEach [b] X.env)).any (·.1) = false := by rfl) : OkI X G W (.Tuple elts kk tpos) (.Call (.Name "zip" p) [a, b] [] pos) (iZip ms) := by
  refine ⟨fun pins s σ H R I ⟨ρ, sd, h, S, A, q⟩ => (RZ.pi_zipA hg hm ha hs hpl).run pins s σ H R I ?_⟩
  refine ta_bind S A q fun ds h1 ρ1 H1 vs p S1 A1 rs q1 => ?_
  unfold zipD at q1
  split at q1
  · obtain ⟨v, w, rfl, rv, rw_⟩ := rs.two
    obtain ⟨a, us, rfl, ha, ra⟩ := rv.tup_of
    obtain ⟨b, ws, rfl, hb, rb⟩ := rw_.tup_of
    exact ⟨a, b, us, ws, rfl, .inr ⟨by rw [hK]; exact ha, by rw [hK]; exact hb, by rw [hK]; exact q1.here A1 _ (gives_zipT A1 ha ra hb rb)⟩⟩
  · obtain ⟨v, w, rfl, rv, rw_⟩ := rs.two
    cases rv with
    | arr ha na ra => cases rw_ with
      | arr hb nb rb => exact ⟨_, _, _, _, rfl, .inl ⟨.inl (.inl ha), .inl (.inl hb), by rw [hK]; exact q1.here A1 _ (gives_zipL A1 ha na ra hb nb rb)⟩⟩
  · exact q1.elim
end
end RX

set_option Elab.async false
set_option linter.all false
set_option maxRecDepth 100000
set_option maxHeartbeats 2000000
namespace RX
open PySem PySem.Spec PyProof.Rows L2
/-! ### statements -/
def SK (G : Gc) (W : WX) (ρ : Rh) (H : Hp) (E : L2.Ends) (r : SR) : Prop := match r with
  | .nx s' h' => ∀ σ' ρ' H', Pst ρ H ρ' H' → AbH G ρ' H' h' → AbS G ρ' H' s' σ' → E.nx σ' H'
  | .rt d h' => ∀ v ρ' H', Pst ρ H ρ' H' → AbH G ρ' H' h' → Rp G ρ' H' v d → E.rt v H'
  | .bk s' h' => ∀ σ' ρ' H', Pst ρ H ρ' H' → AbH G ρ' H' h' → AbS G ρ' H' s' σ' → E.bk σ' H'
  | .ct s' h' => ∀ σ' ρ' H', Pst ρ H ρ' H' → AbH G ρ' H' h' → AbS G ρ' H' s' σ' → E.ct σ' H'
  | .exc c s' h' => ∀ σ' ρ' H', Pst ρ H ρ' H' → AbH G ρ' H' h' → AbS G ρ' H' s' σ' → W (.ref (G.ca c)) none σ' H'
  | .stuck => False
def TS_ (G : Gc) (W : WX) (m : MS) : L2.TS := fun E σ H => ∃ ρ s h, AbS G ρ H s σ ∧ AbH G ρ H h ∧ SK G W ρ H E (m s h)
abbrev OkS (X : Cx) (G : Gc) (W : WX) (st : Stmt) (m : MS) : Prop := PS X st (TS_ G W m)
abbrev OkSs (X : Cx) (G : Gc) (W : WX) (sts : List Stmt) (m : MS) : Prop := PSs X sts (TS_ G W m)
section
variable {G : Gc} {W : WX} {ρ ρ1 : Rh} {H H1 : Hp} {E E' : L2.Ends} {r : SR}
theorem SK.shift (q : SK G W ρ H E r) (p : Pst ρ H ρ1 H1) : SK G W ρ1 H1 E r := by
  cases r with
  | nx s h => exact fun σ' ρ' H' p' => q σ' ρ' H' (p.trans p')
  | rt d h => exact fun σ' ρ' H' p' => q σ' ρ' H' (p.trans p')
  | bk s h => exact fun σ' ρ' H' p' => q σ' ρ' H' (p.trans p')
  | ct s h => exact fun σ' ρ' H' p' => q σ' ρ' H' (p.trans p')
  | exc c s h => exact fun σ' ρ' H' p' => q σ' ρ' H' (p.trans p')
  | stuck => exact q
/-- an expression's result, then a statement's -/
def Res.thn (r : Res D) (s : Sl) (k : D → Hd → SR) : SR := match r with
  | .ok d h => k d h
  | .exc c h => .exc c s h
  | .stuck => .stuck
theorem ts_te {m : ME} {k : D → Hd → SR} {s : Sl} {h : Hd} {σ : L2.St} {R : VK} (S : AbS G ρ H s σ) (A : AbH G ρ H h) (q : SK G W ρ H E ((m s h).thn s k))
    (hk : ∀ d h1 ρ1 H1 x, Pst ρ H ρ1 H1 → AbS G ρ1 H1 s σ → AbH G ρ1 H1 h1 → Rp G ρ1 H1 x d → SK G W ρ1 H1 E (k d h1) → R x H1) : TE_ G W m σ H R := by
  refine ⟨ρ, s, h, S, A, ?_⟩
  cases e : m s h with
  | ok d h1 => rw [e] at q; exact fun ρ1 H1 p A1 v r => hk d h1 ρ1 H1 v p (S.mono A p) A1 r (SK.shift (r := k d h1) q p)
  | exc c h1 => rw [e] at q; exact fun ρ1 H1 p A1 => q σ ρ1 H1 p A1 (S.mono A p)
  | stuck => rw [e] at q; exact q.elim
theorem ts_tt {m : ME} {k : D → Hd → SR} {s : Sl} {h : Hd} {σ : L2.St} {R : Bool → Hp → Prop} (S : AbS G ρ H s σ) (A : AbH G ρ H h) (q : SK G W ρ H E ((m s h).thn s k))
    (hs : ∀ d h1, (∀ b, d ≠ .bl b) → k d h1 = .stuck)
    (hk : ∀ b h1 ρ1 H1, Pst ρ H ρ1 H1 → AbS G ρ1 H1 s σ → AbH G ρ1 H1 h1 → SK G W ρ1 H1 E (k (.bl b) h1) → R b H1) : TT_ G W m σ H R := by
  refine ⟨ρ, s, h, S, A, ?_⟩
  cases e : m s h with
  | ok d h1 =>
    rw [e] at q
    intro ρ1 H1 p A1
    by_cases hd : ∃ b, d = .bl b
    · obtain ⟨b, rfl⟩ := hd
      exact ⟨b, rfl, hk b h1 ρ1 H1 p (S.mono A p) A1 (SK.shift (r := k (.bl b) h1) q p)⟩
    · have z : k d h1 = .stuck := hs d h1 (fun b e => hd ⟨b, e⟩)
      simp only [Res.thn] at q
      rw [z] at q
      exact q.elim
  | exc c h1 => rw [e] at q; exact fun ρ1 H1 p A1 => q σ ρ1 H1 p A1 (S.mono A p)
  | stuck => rw [e] at q; exact q.elim
end
section
variable {G : Gc} {X : Cx} {W : WX} {st : Stmt} {rest body orelse : List Stmt} {e c tg iter : Expr} {m mc : ME} {ms mt : MS} {mi : MA} {pos : Pos}
def mSkip : MS := fun s h => .nx s h
def mSeq (a b : MS) : MS := fun s h => match a s h with
  | .nx s' h' => b s' h'
  | r => r
theorem oksNil : OkSs X G W [] mSkip := ⟨fun pins s σ H E I ⟨ρ, sd, h, S, A, q⟩ => pss_nil.run pins s σ H E I (q σ ρ H .refl A S)⟩
theorem oksCons (h1 : OkS X G W st ms) (h2 : OkSs X G W rest mt) : OkSs X G W (st :: rest) (mSeq ms mt) := by
  refine ⟨fun pins s σ H E I ⟨ρ, sd, h, S, A, q⟩ => (pss_cons h1 h2).run pins s σ H E I ⟨ρ, sd, h, S, A, ?_⟩⟩
  unfold mSeq at q
  cases e : ms sd h with
  | nx s' h' => rw [e] at q; exact fun σ' ρ' H' p A' S' => ⟨ρ', s', h', S', A', SK.shift (r := mt s' h') q p⟩
  | rt d h' => rw [e] at q; exact q
  | bk d h' => rw [e] at q; exact q
  | ct d h' => rw [e] at q; exact q
  | exc c d h' => rw [e] at q; exact q
  | stuck => rw [e] at q; exact q
theorem oksOne (h1 : OkS X G W st ms) : OkSs X G W [st] ms := ⟨fun pins s σ H E I q => (pss_one h1).run pins s σ H E I q⟩
theorem okPass : OkS X G W (.Pass pos) mSkip := ⟨fun pins s σ H E I ⟨ρ, sd, h, S, A, q⟩ => ps_pass.run pins s σ H E I (q σ ρ H .refl A S)⟩
def mBreak : MS := fun s h => .bk s h
def mCont : MS := fun s h => .ct s h
theorem okBreak : OkS X G W (.Break pos) mBreak := ⟨fun pins s σ H E I ⟨ρ, sd, h, S, A, q⟩ => ps_break.run pins s σ H E I (q σ ρ H .refl A S)⟩
theorem okCont : OkS X G W (.Continue pos) mCont := ⟨fun pins s σ H E I ⟨ρ, sd, h, S, A, q⟩ => ps_continue.run pins s σ H E I (q σ ρ H .refl A S)⟩
def sExpr (m : ME) : MS := fun s h => (m s h).thn s fun _ h1 => .nx s h1
theorem okExpr (he : OkE X G W e m) (hs : swapsWith e none pos.line X.env = pure false := by rfl) : OkS X G W (.Expr e pos) (sExpr m) := by
  refine ⟨fun pins s σ H E I ⟨ρ, sd, h, S, A, q⟩ => (ps_expr he hs).run pins s σ H E I ?_⟩
  exact ts_te S A q fun d h1 ρ1 H1 x p S1 A1 r q1 => q1 σ ρ1 H1 .refl A1 S1
def sRet (m : ME) : MS := fun s h => (m s h).thn s fun d h1 => .rt d h1
theorem okRet (he : OkE X G W e m) : OkS X G W (.Return (some e) pos) (sRet m) := by
  refine ⟨fun pins s σ H E I ⟨ρ, sd, h, S, A, q⟩ => (ps_ret he).run pins s σ H E I ?_⟩
  exact ts_te S A q fun d h1 ρ1 H1 x p S1 A1 r q1 => q1 x ρ1 H1 .refl A1 r
def sRetN : MS := fun _ h => .rt .non h
theorem okRetN : OkS X G W (.Return none pos) sRetN := ⟨fun pins s σ H E I ⟨ρ, sd, h, S, A, q⟩ => ps_retN.run pins s σ H E I (q .non ρ H .refl A .non)⟩
def sIf (c : ME) (a b : MS) : MS := fun s h => (c s h).thn s fun d h1 => match d with
  | .bl true => a s h1
  | .bl false => b s h1
  | _ => .stuck
theorem okIfS (hc : OkT X G W c mc) (ha : OkSs X G W body ms) (hb : OkSs X G W orelse mt) : OkS X G W (.If c body orelse pos) (sIf mc ms mt) := by
  refine ⟨fun pins s σ H E I ⟨ρ, sd, h, S, A, q⟩ => (ps_if hc ha hb).run pins s σ H E I ?_⟩
  refine ts_tt S A q (fun d h1 n => ?_) fun b h1 ρ1 H1 p S1 A1 q1 => ?_
  · cases d with
    | bl b => exact (n b rfl).elim
    | _ => rfl
  · cases b with
    | true => rw [if_pos rfl]; exact ⟨ρ1, sd, h1, S1, A1, q1⟩
    | false => rw [if_neg (by decide)]; exact ⟨ρ1, sd, h1, S1, A1, q1⟩
/-! ### forgetting and giving up: what the text knows nothing of -/
def kill (s : Sl) : List Nat → Sl
  | [] => s
  | i :: is => (kill s is).set i none
theorem kill_abs {ρ : Rh} {H : Hp} {s : Sl} {σ : L2.St} (S : AbS G ρ H s σ) : ∀ is : List Nat, AbS G ρ H (kill s is) σ
  | [] => S
  | i :: is => by
    have T := kill_abs S is
    have key : ∀ (j : Nat) (d : D), (kill s (i :: is))[j]? = some (some d) → (kill s is)[j]? = some (some d) := fun j d e => by
      have e' : ((kill s is).set i none)[j]? = some (some d) := e
      by_cases z : i = j
      · subst z
        rw [List.getElem?_set] at e'
        simp at e'
      · rw [List.getElem?_set_ne z] at e'
        exact e'
    exact ⟨by show ((kill s is).set i none).length = _; rw [List.length_set]; exact T.len, fun j d e => T.at_ j d (key j d e), fun j c e => T.ax j c (key j _ e)⟩
def mKill (is : List Nat) (m : MS) : MS := fun s h => match m s h with
  | .nx s' h' => .nx (kill s' is) h'
  | r => r
theorem okKill {is : List Nat} (h : OkS X G W st ms) : OkS X G W st (mKill is ms) := by
  refine ⟨fun pins s σ H E I ⟨ρ, sd, hd, S, A, q⟩ => h.run pins s σ H E I ⟨ρ, sd, hd, S, A, ?_⟩⟩
  unfold mKill at q
  cases e : ms sd hd with
  | nx s' h' => rw [e] at q; exact fun σ' ρ' H' p A' S' => q σ' ρ' H' p A' (kill_abs S' is)
  | rt d h' => rw [e] at q; exact q
  | bk d h' => rw [e] at q; exact q
  | ct d h' => rw [e] at q; exact q
  | exc c d h' => rw [e] at q; exact q
  | stuck => rw [e] at q; exact q
/-- the list in slot i is data from now on -/
def frz (i : Nat) (s : Sl) (h : Hd) : SR := match s[i]? with
  | some (some (.ref j)) => match h[j]? with
    | some (.lst xs) => .nx (s.set i (some (.arr xs))) (h.set j .dead)
    | some (.dk ks) => .nx (s.set i (some (.dk ks))) (h.set j .dead)
    | _ => .stuck
  | _ => .stuck
theorem drop_self {ρ : Rh} {j : Nat} (h : j < ρ.l.length) : (ρ.drop j).l[j]? = some none := List.getElem?_set_self h
theorem drop_ne {ρ : Rh} {i j : Nat} (h : ¬ j = i) : (ρ.drop j).l[i]? = ρ.l[i]? := List.getElem?_set_ne h
theorem drop_no {ρ : Rh} {j : Nat} {a : Addr} (e : (ρ.drop j).l[j]? = some (some a)) : False := by
  have e' : (ρ.l.set j none)[j]? = some (some a) := e
  rw [List.getElem?_set] at e'; simp at e'
theorem Pst.drop {ρ : Rh} {H : Hp} {j : Nat} : Pst ρ H (ρ.drop j) H where
  fr := fun _ _ e _ _ => e
  ext := fun i a e => by
    by_cases z : j = i
    · subst z
      right
      exact drop_self (List.getElem?_eq_some_iff.mp e).1
    · left; rw [drop_ne z]; exact e
  gone := fun i e => by
    by_cases z : j = i
    · subst z
      exact drop_self (List.getElem?_eq_some_iff.mp e).1
    · rw [drop_ne z]; exact e
  new := fun a l => by
    left
    rcases l with l | l
    · rcases List.mem_or_eq_of_mem_set (show some a ∈ ρ.l.set j none from l) with z | z
      · exact .inl z
      · cases z
    · exact .inr l
  lv := fun _ o e _ t => ⟨o, e, t⟩
  hd := fun _ _ _ e => e
  hz := fun _ l => l
theorem AbH.drop {ρ : Rh} {H : Hp} {h : Hd} {j : Nat} (A : AbH G ρ H h) : AbH G (ρ.drop j) H (h.set j .dead) where
  len := by rw [show (ρ.drop j).l = ρ.l.set j none from rfl, List.length_set, List.length_set]; exact A.len
  ob := fun i a e => by
    by_cases z : j = i
    · subst z
      exact (drop_no e).elim
    · rw [drop_ne z] at e
      rw [List.getElem?_set_ne z]
      obtain ⟨o, ho, x⟩ := A.ob i a e
      exact ⟨o, ho, x.mono A Pst.drop rfl⟩
  gone := fun i e => by
    by_cases z : j = i
    · subst z
      have hl := (List.getElem?_eq_some_iff.mp e).1
      rw [show (ρ.drop j).l = ρ.l.set j none from rfl, List.length_set] at hl
      rw [List.getElem?_set_self (by rw [← A.len]; exact hl)]
    · rw [drop_ne z] at e
      rw [List.getElem?_set_ne z]
      exact A.gone i e
  inj := fun i k a e e' => by
    have key : ∀ n : Nat, (ρ.drop j).l[n]? = some (some a) → ρ.l[n]? = some (some a) := fun n q => by
      by_cases z : j = n
      · subst z; exact (drop_no q).elim
      · rw [drop_ne z] at q; exact q
    exact A.inj i k a (key i e) (key k e')
  tabs := A.tabs
  hid := A.hid
  dis := fun a l m => by
    rcases List.mem_or_eq_of_mem_set (show some a ∈ ρ.l.set j none from m) with z | z
    · exact A.dis a l z
    · cases z
  inv := G.mon _ _ _ _ A.lvok Pst.drop.toPst0 A.inv
theorem nlive_drop {ρ : Rh} {H : Hp} {h : Hd} {j : Nat} {a : Addr} (A : AbH G ρ H h) (e : ρ.l[j]? = some (some a)) : ¬ live (ρ.drop j) a := fun l => by
  rcases l with l | l
  · obtain ⟨i, hi, q⟩ := List.mem_iff_getElem.mp l
    have q' : (ρ.drop j).l[i]? = some (some a) := by rw [List.getElem?_eq_getElem hi, q]
    by_cases z : j = i
    · subst z; exact drop_no q'
    · rw [drop_ne z] at q'
      exact z (A.inj j i a e q')
  · exact A.dis a l (List.mem_of_getElem? e)
theorem frz_ok {ρ : Rh} {H : Hp} {h : Hd} {s : Sl} {σ : L2.St} {i : Nat} {E : L2.Ends} (S : AbS G ρ H s σ) (A : AbH G ρ H h) (q : SK G W ρ H E (frz i s h)) : E.nx σ H := by
  unfold frz at q
  split at q
  · rename_i j e0
    obtain ⟨v, hv, rv⟩ := S.at_ i _ e0 rfl
    have fin : ∀ (d : D) (o : MO), d.isX = false → h[j]? = some o → o ≠ .dead → (∀ a, v = .ref a → ρ.l[j]? = some (some a) → ObO G ρ H a o → Rp G (ρ.drop j) H v d) → SK G W ρ H E (.nx (s.set i (some d)) (h.set j .dead)) → E.nx σ H := fun d o dx ho nd hr q => by
      cases rv with
      | ref hj =>
        obtain ⟨o', ho', x⟩ := A.ob _ _ hj
        rw [ho] at ho'; cases ho'
        refine q σ _ H Pst.drop A.drop ⟨by rw [List.length_set]; exact S.len, fun k d' e hx => ?_, fun k c e => ?_⟩
        · by_cases z : i = k
          · subst z
            rw [List.getElem?_set_self (List.getElem?_eq_some_iff.mp e0).1] at e
            cases e
            exact ⟨_, hv, hr _ rfl hj x⟩
          · rw [List.getElem?_set_ne z] at e
            obtain ⟨w, hw, rw_⟩ := S.at_ k d' e hx
            exact ⟨w, hw, rw_.mono A Pst.drop⟩
        · by_cases z : i = k
          · subst z
            rw [List.getElem?_set_self (List.getElem?_eq_some_iff.mp e0).1] at e
            cases e; cases dx
          · rw [List.getElem?_set_ne z] at e
            exact S.ax k c e
      | gone hj => rw [A.gone _ hj] at ho; cases ho; exact (nd rfl).elim
    split at q
    · rename_i e1
      refine fin _ _ rfl e1 (by intro z; cases z) (fun a ea hj x => ?_) q
      obtain ⟨vs, ha, ra⟩ := x
      subst ea
      exact .arr ha (nlive_drop A hj) (ra.mono A Pst.drop)
    · rename_i e1
      refine fin _ _ rfl e1 (by intro z; cases z) (fun a ea hj x => ?_) q
      obtain ⟨vs, ha, hk, ra⟩ := x
      subst ea
      exact .dk ha (nlive_drop A hj) hk (ra.mono A Pst.drop)
    · exact q.elim
  · exact q.elim
def mFrz (i : Nat) (m : MS) : MS := fun s h => match m s h with
  | .nx s' h' => frz i s' h'
  | r => r
theorem okFrz {i : Nat} (h : OkS X G W st ms) : OkS X G W st (mFrz i ms) := by
  refine ⟨fun pins s σ H E I ⟨ρ, sd, hd, S, A, q⟩ => h.run pins s σ H E I ⟨ρ, sd, hd, S, A, ?_⟩⟩
  unfold mFrz at q
  cases e : ms sd hd with
  | nx s' h' => rw [e] at q; exact fun σ' ρ' H' p A' S' => frz_ok S' A' (SK.shift (r := frz i s' h') q p)
  | rt d h' => rw [e] at q; exact q
  | bk d h' => rw [e] at q; exact q
  | ct d h' => rw [e] at q; exact q
  | exc c d h' => rw [e] at q; exact q
  | stuck => rw [e] at q; exact q
/-! ### targets that are names -/
inductive Tg where
  | nm (i : Nat) | tp (ts : List Tg)
mutual
def rdT (K : PySem.W.Frag) : Tg → TG
  | .nm i => gName i
  | .tp ts => gTup K ts.length (rdTs K ts)
def rdTs (K : PySem.W.Frag) : List Tg → TGs
  | [] => gNil
  | t :: ts => gCons (rdT K t) (rdTs K ts)
end
mutual
def bindT : Tg → D → Sl → Option Sl
  | .nm i, d, s => some (s.set i (some d))
  | .tp ts, .tup ds, s => bindTs ts ds s
  | .tp _, _, _ => none
def bindTs : List Tg → List D → Sl → Option Sl
  | [], [], s => some s
  | t :: ts, d :: ds, s => (bindT t d s).bind fun s' => bindTs ts ds s'
  | _, _, _ => none
end
mutual
def slots : Tg → List Nat
  | .nm i => [i]
  | .tp ts => slotsL ts
def slotsL : List Tg → List Nat
  | [] => []
  | t :: ts => slots t ++ slotsL ts
end
theorem AbS.set {ρ : Rh} {H : Hp} {s : Sl} {σ : L2.St} {i : Nat} {d : D} {v : V} (S : AbS G ρ H s σ) (r : Rp G ρ H v d) : AbS G ρ H (s.set i (some d)) (σ.set i (some v)) := by
  refine ⟨by rw [List.length_set, List.length_set]; exact S.len, fun j d' e hx => ?_, fun j c e => ?_⟩
  · by_cases z : i = j
    · subst z
      have hl := (List.getElem?_eq_some_iff.mp e).1
      rw [List.length_set] at hl
      rw [List.getElem?_set_self hl] at e
      cases e
      exact ⟨v, List.getElem?_set_self (by rw [← S.len]; exact hl), r⟩
    · rw [List.getElem?_set_ne z] at e ⊢
      exact S.at_ j d' e hx
  · by_cases z : i = j
    · subst z
      have hl := (List.getElem?_eq_some_iff.mp e).1
      rw [List.length_set] at hl
      rw [List.getElem?_set_self hl] at e
      cases e; cases r
    · rw [List.getElem?_set_ne z] at e ⊢
      exact S.ax j c e
theorem wipe_set {σ : L2.St} {v : Option V} {i : Nat} : ∀ {vs : List Nat}, i ∈ vs → wipe (σ.set i v) vs = wipe σ vs
  | j :: vs, h => by
    show (wipe (σ.set i v) vs).set j none = (wipe σ vs).set j none
    by_cases z : i = j
    · subst z
      have key : ∀ (us : List Nat), (wipe (σ.set i v) us).set i none = (wipe σ us).set i none := by
        intro us
        induction us with
        | nil => show (σ.set i v).set i none = σ.set i none; rw [List.set_set]
        | cons k us ih =>
          show ((wipe (σ.set i v) us).set k none).set i none = ((wipe σ us).set k none).set i none
          by_cases q : k = i
          · subst q; rw [List.set_set, List.set_set]; exact ih
          · rw [List.set_comm _ _ q, ih, List.set_comm _ _ q]
      exact key vs
    · rw [wipe_set ((List.mem_cons.mp h).resolve_left z)]
mutual
theorem bindT_ok {K : PySem.W.Frag} (hK : K = G.K) {ρ : Rh} {H : Hp} {vs : List Nat} : ∀ {t : Tg} {d : D} {v : V} {s s' : Sl} {σ : L2.St} {Q : L2.St → Hp → Prop}, Rp G ρ H v d → AbS G ρ H s σ → bindT t d s = some s' → (∀ i ∈ slots t, i ∈ vs) →
    (∀ σ', AbS G ρ H s' σ' → wipe σ' vs = wipe σ vs → Q σ' H) → rdT K t v σ H Q
  | .nm i, d, v, s, s', σ, Q, r, S, e, hv, q => by
    rw [bindT] at e; cases e
    rw [rdT]
    exact q _ (S.set r) (wipe_set (hv i (by rw [slots]; exact List.mem_singleton.mpr rfl)))
  | .tp ts, d, v, s, s', σ, Q, r, S, e, hv, q => by
    cases d with
    | tup ds =>
      rw [bindT] at e
      obtain ⟨a, ws, rfl, ha, ra⟩ := r.tup_of
      rw [rdT]
      exact ⟨a, ws, rfl, by rw [hK]; exact ha, by rw [ra.length]; exact bindTs_len e, bindTs_ok hK ra S e (fun i hi => hv i (by rw [slots]; exact hi)) q⟩
    | _ => rw [bindT] at e; cases e; all_goals (intro ds z; cases z)
theorem bindTs_len : ∀ {ts : List Tg} {ds : List D} {s s' : Sl}, bindTs ts ds s = some s' → ds.length = ts.length
  | [], [], _, _, _ => rfl
  | t :: ts, d :: ds, s, s', e => by
    rw [bindTs] at e
    obtain ⟨s1, _, e2⟩ := Option.bind_eq_some_iff.mp e
    rw [List.length_cons, List.length_cons, bindTs_len e2]
  | [], _ :: _, _, _, e => by simp [bindTs] at e
  | _ :: _, [], _, _, e => by simp [bindTs] at e
theorem bindTs_ok {K : PySem.W.Frag} (hK : K = G.K) {ρ : Rh} {H : Hp} {vs : List Nat} : ∀ {ts : List Tg} {ds : List D} {ws : List V} {s s' : Sl} {σ : L2.St} {Q : L2.St → Hp → Prop}, RpL G ρ H ws ds → AbS G ρ H s σ → bindTs ts ds s = some s' → (∀ i ∈ slotsL ts, i ∈ vs) →
    (∀ σ', AbS G ρ H s' σ' → wipe σ' vs = wipe σ vs → Q σ' H) → rdTs K ts ws σ H Q
  | [], [], _, s, s', σ, Q, .nil, S, e, hv, q => by
    rw [bindTs] at e; cases e
    rw [rdTs]
    exact ⟨rfl, q _ S rfl⟩
  | t :: ts, d :: ds, _, s, s', σ, Q, .cons r rr, S, e, hv, q => by
    rw [bindTs] at e
    obtain ⟨s1, e1, e2⟩ := Option.bind_eq_some_iff.mp e
    rw [rdTs]
    refine ⟨_, _, rfl, bindT_ok hK r S e1 (fun i hi => hv i (by rw [slotsL]; exact List.mem_append_left _ hi)) fun σ1 S1 w1 => ?_⟩
    exact bindTs_ok hK rr S1 e2 (fun i hi => hv i (by rw [slotsL]; exact List.mem_append_right _ hi)) fun σ2 S2 w2 => q σ2 S2 (w2.trans w1)
  | [], _ :: _, _, _, _, _, _, _, _, e, _, _ => by simp [bindTs] at e
  | _ :: _, [], _, _, _, _, _, _, _, e, _, _ => by simp [bindTs] at e
end
abbrev OkG (X : Cx) (G : Gc) (target : Expr) (t : Tg) : Prop := PG X target (rdT G.K t)
abbrev OkGs (X : Cx) (G : Gc) (ts : List Expr) (t : List Tg) : Prop := PGs X ts (rdTs G.K t)
theorem okgNm {i : Nat} {x : Str} (hN : X.N.Nodup) (hi : X.N[i]? = some x := by rfl) (hx : Loc X.env.scope x := by first | exact .inl rfl | exact .inr rfl) (hf : X.fn x = true ∨ X.env.scope.names.lookup x = some .local := by first | exact .inl rfl | exact .inr rfl) : OkG X G (.Name x pos) (.nm i) := by
  show PG X _ (rdT G.K (.nm i)); rw [rdT]; exact pg_name hN hi hx hf
theorem okgsNil : OkGs X G [] [] := by show PGs X _ (rdTs G.K []); rw [rdTs]; exact pgs_nil
theorem okgsCons {es : List Expr} {t : Tg} {ts : List Tg} (h1 : OkG X G e t) (h2 : OkGs X G es ts) (hs : (assignEach (e :: es) X.env).map (·.2) = assign e X.env :: (assignEach es X.env).map (·.2) := by rfl) : OkGs X G (e :: es) (t :: ts) := by
  show PGs X _ (rdTs G.K (t :: ts)); rw [rdTs]; exact pgs_cons h1 h2 hs
theorem okgTp {es : List Expr} {k : Nat} {ts : List Tg} (hc : X.calm = true) (h : OkGs X G es ts) (hK : X.K = G.K := by rfl) (hn : (assignEach es X.env).length = ts.length := by rfl) (hst : (assignEach es X.env).findIdx? (·.1) = none := by rfl) : OkG X G (.Tuple es k pos) (.tp ts) := by
  show PG X _ (rdT G.K (.tp ts)); rw [rdT, ← hK]
  have h' : PGs X es (rdTs X.K ts) := by rw [hK]; exact h
  exact pg_tup hc h' hn hst
end
end RX

set_option Elab.async false
set_option linter.all false
set_option maxRecDepth 100000
set_option maxHeartbeats 2000000
namespace RX
open PySem PySem.Spec PyProof.Rows L2
section
variable {G : Gc} {X : Cx} {W : WX} {st : Stmt} {rest body orelse : List Stmt} {e c tg iter elt a b o : Expr} {m mc me mo mi1 : ME} {ms mt : MS} {mi ma2 : MA} {pos pos' : Pos} {t : Tg}
/-! ### assignments -/
def sAsg (t : Tg) (m : ME) : MS := fun s h => (m s h).thn s fun d h1 => match bindT t d s with
  | some s' => .nx s' h1
  | none => .stuck
theorem asg_rd (hK : X.K = G.K) {E : L2.Ends} {σ : L2.St} {H : Hp} (q : TS_ G W (sAsg t m) E σ H) : tAsg (TE_ G W m) (rdT G.K t) E σ H := by
  obtain ⟨ρ, sd, h, S, A, q⟩ := q
  refine ts_te S A q fun d h1 ρ1 H1 x p S1 A1 r q1 => ?_
  cases e0 : bindT t d sd with
  | none => simp only [e0] at q1; exact q1.elim
  | some s' =>
    simp only [e0] at q1
    exact bindT_ok (vs := slots t) rfl r S1 e0 (fun i hi => hi) fun σ' S' _ => q1 σ' ρ1 H1 .refl A1 S'
theorem okAsg (hg : OkG X G tg t) (he : OkE X G W e m) (hs : swapsWithSole [tg] e pos.line X.env = pure false := by rfl) (hw : swappedStores [tg] e X.env = pure none := by rfl) (h1 : (assignEach [tg] X.env).map (·.2) = [assign tg X.env] := by rfl) (hK : X.K = G.K := by rfl) :
    OkS X G W (.Assign [tg] e pos) (sAsg t m) := ⟨fun pins s σ H E I q => (ps_asg he hg hs hw h1).run pins s σ H E I (asg_rd hK q)⟩
theorem okSet {i : Nat} {x : Str} (hN : X.N.Nodup) (he : OkE X G W e m) (hi : X.N[i]? = some x := by rfl) (hx : Loc X.env.scope x := by first | exact .inl rfl | exact .inr rfl) (hs : swapsWith e (some (.Name x pos')) pos.line X.env = pure false := by rfl) (hf : X.fn x = true ∨ X.env.scope.names.lookup x = some .local := by first | exact .inl rfl | exact .inr rfl) (hK : X.K = G.K := by rfl) :
    OkS X G W (.Assign [.Name x pos'] e pos) (sAsg (.nm i) m) := by
  refine ⟨fun pins s σ H E I q => (ps_set hN hi hx he hs hf).run pins s σ H E I ?_⟩
  have := asg_rd (t := .nm i) hK q
  rw [rdT] at this
  exact this
/-- x, y = a, b -/
def sPar (i j : Nat) (ma mb : ME) : MS := fun s h => (ma s h).thn s fun d h1 => (mb s h1).thn s fun d' h2 => .nx ((s.set i (some d)).set j (some d')) h2
theorem okPar {i j : Nat} {x y : Str} {px py pt : Pos} {kt k2 pt2} (hc : X.calm = true) (hN : X.N.Nodup) (ha : OkE X G W a m) (hb : OkE X G W b me) (hi : X.N[i]? = some x := by rfl) (hj : X.N[j]? = some y := by rfl) (hij : i ≠ j := by decide)
    (hx : X.env.scope.names.lookup x = some .local := by rfl) (hy : X.env.scope.names.lookup y = some .local := by rfl)
    (hw : swappedStores [.Tuple [.Name x px, .Name y py] kt pt] (.Tuple [a, b] k2 pt2) X.env = pure (some [x, y]) := by rfl) (hs : swapsWithSole [.Tuple [.Name x px, .Name y py] kt pt] (.Tuple [a, b] k2 pt2) pos.line X.env = pure false := by rfl)
    (s1 : starEach (a :: [b]) X.env = (false, eval a X.env) :: starEach [b] X.env := by rfl) (s2 : starEach (b :: []) X.env = (false, eval b X.env) :: starEach [] X.env := by rfl) :
    OkS X G W (.Assign [.Tuple [.Name x px, .Name y py] kt pt] (.Tuple [a, b] k2 pt2) pos) (sPar i j m me) := by
  refine ⟨fun pins s σ H E I ⟨ρ, sd, h, S, A, q⟩ => (ps_par hc hN hi hj hij hx hy (pa_cons ha (pa_cons hb pa_nil s2) s1) hw hs).run pins s σ H E I ?_⟩
  refine ts_te S A q fun d h1 ρ1 H1 v p S1 A1 r q1 => ?_
  refine ts_te S1 A1 q1 fun d' h2 ρ2 H2 w p2 S2 A2 r2 q2 => ?_
  exact ⟨v, w, rfl, q2 _ ρ2 H2 .refl A2 ((S2.set (r.mono A1 p2)).set r2)⟩
/-- o[i] = e, o a list (a dict: below) -/
def setL (d i x : D) (h : Hd) : Option Hd := match d, i with
  | .ref j, .int k => match h[j]? with
    | some (.lst xs) => match ixN xs.length k with
      | some n => some (h.set j (.lst (xs.set n x)))
      | none => none
    | _ => none
  | _, _ => none
def sSub (mo mi m : ME) : MS := fun s h => (m s h).thn s fun x h1 => (mo s h1).thn s fun d h2 => (mi s h2).thn s fun i h3 => match setL d i x h3 with
  | some h4 => .nx s h4
  | none => .stuck
theorem okSub {tpos : Pos} (ho : OkE X G W o mo) (hi : OkE X G W a me) (he : OkE X G W e m)
    (hs : swapsWithSole [.Subscript o a tpos] e pos.line X.env = pure false := by rfl) (hw : swappedStores [.Subscript o a tpos] e X.env = pure none := by rfl) (h1 : (assignEach [.Subscript o a tpos] X.env).map (·.2) = [assign (.Subscript o a tpos) X.env] := by rfl)
    (ha : ∀ v, assign (.Subscript o a tpos) X.env v = (do
      let ov ← holding [v] (eval o X.env)
      let iv ← holding [v, ov] (eval a X.env)
      standAt tpos
      holding [v, ov, iv] (setItem ov iv v)
      release [v, ov, iv] []) := by intro _; rfl) : OkS X G W (.Assign [.Subscript o a tpos] e pos) (sSub mo me m) := by
  refine ⟨fun pins s σ H E I ⟨ρ, sd, h, S, A, q⟩ => (ps_asg he (pg_sub ho hi set_list ha) hs hw h1).run pins s σ H E I ?_⟩
  refine ts_te S A q fun x h1 ρ1 H1 v p S1 A1 r q1 => ?_
  refine ts_te S1 A1 q1 fun d h2 ρ2 H2 w p2 S2 A2 r2 q2 => ?_
  refine ts_te S2 A2 q2 fun i h3 ρ3 H3 u p3 S3 A3 r3 q3 => ?_
  cases e0 : setL d i x h3 with
  | none => simp only [e0] at q3; exact q3.elim
  | some h4 =>
    simp only [e0] at q3
    unfold setL at e0
    split at e0
    · split at e0
      · rename_i e1
        split at e0
        · rename_i _ n e2
          cases e0
          obtain rfl := r3.int_of
          obtain ⟨a, vs, rfl, hj, ha', ra⟩ := ref_lst A3 (r2.mono A2 p3) e1
          have hm : isMut (.lst vs) := .inl ⟨_, rfl⟩
          have pw : Pst ρ3 H3 ρ3 (upd H3 a (.lst (vs.set n v))) := Pst.write (A3.nm hj) ha' hm
          have rx := ((r.mono A1 p2).mono A2 p3)
          exact ⟨a, vs, _, _, rfl, rfl, ha', by rw [ra.length]; exact e2, q3 σ ρ3 _ pw (A3.write hj ha' hm ⟨_, upd_same, (ra.set rx _).mono A3 pw⟩) (S3.mono A3 pw)⟩
        · cases e0
      · cases e0
    · cases e0
/-- x += e, x -= e, ints -/
def sAug (f : Int → Int → Int) (i : Nat) (m : ME) : MS := fun s h => match s[i]? with
  | some (some (.int k)) => (m s h).thn s fun d h1 => match d with
    | .int n => .nx (s.set i (some (.int (f k n)))) h1
    | _ => .stuck
  | _ => .stuck
theorem okAugG {op : Operator} {f : Int → Int → Int} {i : Nat} {x : Str} (hN : X.N.Nodup) (hp : PIp X op (ipI f)) (he : OkE X G W e m) (hi : X.N[i]? = some x := by rfl) (hx : Loc X.env.scope x := by first | exact .inl rfl | exact .inr rfl) (hf : X.fn x = true ∨ X.env.scope.names.lookup x = some .local := by first | exact .inl rfl | exact .inr rfl) :
    OkS X G W (.AugAssign (.Name x pos') op e pos) (sAug f i m) := by
  refine ⟨fun pins s σ H E I ⟨ρ, sd, h, S, A, q⟩ => (ps_aug hN hi hx he hp hf).run pins s σ H E I ?_⟩
  unfold sAug at q
  split at q
  · rename_i k e0
    obtain ⟨v, hv, rv⟩ := S.at_ i _ e0 rfl
    obtain rfl := rv.int_of
    refine ⟨_, hv, ts_te S A q fun d h1 ρ1 H1 w p S1 A1 r q1 => ?_⟩
    cases d with
    | int n =>
      obtain rfl := r.int_of
      exact ⟨k, n, rfl, rfl, q1 _ ρ1 H1 .refl A1 (S1.set (.int _))⟩
    | _ => exact q1.elim
  · exact q.elim
/-! ### while -/
def whileL (ks : List Nat) (c : ME) (body : MS) : Nat → MS
  | 0 => fun _ _ => .stuck
  | n + 1 => fun s h => (c s h).thn s fun d h1 => match d with
    | .bl true => match body s h1 with
      | .nx s2 h2 => whileL ks c body n (kill s2 ks) h2
      | .ct s2 h2 => whileL ks c body n (kill s2 ks) h2
      | .bk s2 h2 => .nx (kill s2 ks) h2
      | r => r
    | .bl false => .nx s h1
    | _ => .stuck
def sWhile (ks : List Nat) (c : ME) (body : MS) (n : Nat) : MS := fun s h => whileL ks c body n (kill s ks) h
theorem okWhile {n : Nat} {ks : List Nat} (hp : PassesOwn (model X.prog X.w) X.A X.env X.xe) (hc : OkT X G W c mc) (hb : OkSs X G W body ms) : OkS X G W (.While c body [] pos) (sWhile ks mc ms n) := by
  refine ⟨fun pins s σ H E I ⟨ρ, sd, h, S, A, q⟩ => (ps_while hp hc hb).run pins s σ H E I ?_⟩
  refine ⟨fun n σ H => ∃ ρ s h, AbS G ρ H s σ ∧ AbH G ρ H h ∧ SK G W ρ H E (whileL ks mc ms n s h), ⟨n, ρ, kill sd ks, h, kill_abs S ks, A, q⟩, fun n σ H ⟨ρ, s, h, S, A, q⟩ => ?_⟩
  cases n with
  | zero => exact q.elim
  | succ n =>
    refine ts_tt S A q (fun d h1 nb => ?_) fun b h1 ρ1 H1 p S1 A1 q1 => ?_
    · cases d with
      | bl b => exact (nb b rfl).elim
      | _ => rfl
    · cases b with
      | false => rw [if_neg (by decide)]; exact q1 σ ρ1 H1 .refl A1 S1
      | true =>
        rw [if_pos rfl]
        refine ⟨fun σ' H' => ∃ ρ s h, AbS G ρ H' s σ' ∧ AbH G ρ H' h ∧ SK G W ρ H' E (whileL ks mc ms n s h), fun σ' H' hN => ⟨n, Nat.lt_succ_self n, hN⟩, ρ1, s, h1, S1, A1, ?_⟩
        cases e0 : ms s h1 with
        | nx s2 h2 => simp only [e0] at q1; exact fun σ' ρ' H' p' A' S' => ⟨ρ', _, h2, kill_abs S' ks, A', SK.shift q1 p'⟩
        | ct s2 h2 => simp only [e0] at q1; exact fun σ' ρ' H' p' A' S' => ⟨ρ', _, h2, kill_abs S' ks, A', SK.shift q1 p'⟩
        | bk s2 h2 => simp only [e0] at q1; exact fun σ' ρ' H' p' A' S' => q1 σ' ρ' H' p' A' (kill_abs S' ks)
        | rt d h2 => simp only [e0] at q1; exact q1
        | exc c s2 h2 => simp only [e0] at q1; exact q1
        | stuck => simp only [e0] at q1; exact q1
/-! ### for -/
def forL (ks : List Nat) (t : Tg) (body : MS) : List D → MS
  | [] => fun s h => .nx s h
  | d :: ds => fun s h => match bindT t d s with
    | some s1 => match body s1 h with
      | .nx s2 h2 => forL ks t body ds (kill s2 ks) h2
      | .ct s2 h2 => forL ks t body ds (kill s2 ks) h2
      | .bk s2 h2 => .nx (kill s2 ks) h2
      | r => r
    | none => .stuck
def sFor (ks : List Nat) (t : Tg) (mi : MA) (body : MS) : MS := fun s h => match mi s h with
  | .ok ds h1 => forL ks t body ds (kill s ks) h1
  | .exc c h1 => .exc c s h1
  | .stuck => .stuck
theorem okFor {ks : List Nat} (hp : PassesOwn (model X.prog X.w) X.A X.env X.xe) (hc : X.calm = true) (hi : OkI X G W tg iter mi) (hg : OkG X G tg t) (hb : OkSs X G W body ms) (hs : ∀ x, foldedSetIterable iter X.env x = pure x := by intro _; rfl) :
    OkS X G W (.For tg iter body [] pos) (sFor ks t mi ms) := by
  refine ⟨fun pins s σ H E I ⟨ρ, sd, h, S, A, q⟩ => (ps_for hp hc hi hg hb hs).run pins s σ H E I ?_⟩
  refine ⟨ρ, sd, h, S, A, ?_⟩
  unfold sFor at q
  cases e0 : mi sd h with
  | stuck => rw [e0] at q; exact q.elim
  | exc c h1 => rw [e0] at q; exact fun ρ1 H1 p A1 => q σ ρ1 H1 p A1 (S.mono A p)
  | ok ds h1 =>
    simp only [e0] at q
    intro ρ1 H1 p A1 J gv
    have q1 := SK.shift q p
    have S1 := kill_abs (S.mono A p) ks
    refine ⟨fun i n σ' H' => ∃ ρ' s' h', AbS G ρ' H' s' σ' ∧ AbH G ρ' H' h' ∧ Gives G ρ' H' J ds ∧ i ≤ ds.length ∧ n = ds.length - i ∧ SK G W ρ' H' E (forL ks t ms (ds.drop i) s' h'), ⟨_, ρ1, kill sd ks, h1, S1, A1, gv, Nat.zero_le _, rfl, q1⟩, fun i n σ' H' ⟨ρ', s', h', S', A', g, hi', en, q'⟩ => ?_⟩
    obtain ⟨Gd, Y, w, k, y⟩ := id g
    by_cases hl : i < ds.length
    · right
      have ed : ds.drop i = ds[i] :: ds.drop (i + 1) := List.drop_eq_getElem_cons hl
      rw [ed] at q'
      simp only [forL] at q'
      refine ⟨w.goes i H' hl (k ρ' H' .refl), fun σ2 H2 => ∃ ρ2 s2 h2, AbS G ρ2 H2 s2 σ2 ∧ AbH G ρ2 H2 h2 ∧ Gives G ρ2 H2 J ds ∧ SK G W ρ2 H2 E (forL ks t ms (ds.drop (i + 1)) s2 h2), fun σ2 H2 ⟨ρ2, s2, h2, S2, A2, g2, q2⟩ => ⟨ds.length - (i + 1), by omega, ρ2, s2, h2, S2, A2, g2, by omega, rfl, q2⟩, fun x H2 yy => ?_⟩
      obtain ⟨p2, A2, r2⟩ := y i ds[i] ρ' H' h' x H2 (List.getElem?_eq_getElem hl) .refl A' (w.yields i H' x H2 hl (k ρ' H' .refl) yy)
      cases eb : bindT t ds[i] s' with
      | none => simp only [eb] at q'; exact q'.elim
      | some s1 =>
        simp only [eb] at q'
        refine bindT_ok (vs := slots t) rfl r2 (S'.mono A' p2) eb (fun j hj => hj) fun σ3 S3 _ => ?_
        refine ⟨ρ', s1, h', S3, A2, ?_⟩
        have q2 := SK.shift q' p2
        cases em : ms s1 h' with
        | nx s2 h2 => simp only [em] at q2; exact fun σ4 ρ4 H4 p4 A4 S4 => ⟨ρ4, _, h2, kill_abs S4 ks, A4, g.later (p2.trans p4), SK.shift q2 p4⟩
        | ct s2 h2 => simp only [em] at q2; exact fun σ4 ρ4 H4 p4 A4 S4 => ⟨ρ4, _, h2, kill_abs S4 ks, A4, g.later (p2.trans p4), SK.shift q2 p4⟩
        | bk s2 h2 => simp only [em] at q2; exact fun σ4 ρ4 H4 p4 A4 S4 => q2 σ4 ρ4 H4 p4 A4 (kill_abs S4 ks)
        | rt d h2 => simp only [em] at q2; exact q2
        | exc c s2 h2 => simp only [em] at q2; exact q2
        | stuck => simp only [em] at q2; exact q2
    · left
      have ei : i = ds.length := by omega
      subst ei
      rw [List.drop_length] at q'
      exact ⟨w.stops H' (k ρ' H' .refl), q' σ' ρ' H' .refl A' S'⟩
/-! ### comprehensions -/
/-- the tests of a clause: none, or one -/
def testR (test : Option ME) (s : Sl) (h : Hd) : Res D := match test with
  | none => .ok (.bl true) h
  | some c => c s h
def compL (vs : List Nat) (t : Tg) (test : Option ME) (elt : ME) : List D → List D → Sl → Hd → Res (List D)
  | [], acc, _, h => .ok acc h
  | d :: ds, acc, s, h => match bindT t d (kill s vs) with
    | some s1 => (testR test s1 h).bind fun b h1 => match b with
        | .bl true => (elt s1 h1).bind fun x h2 => compL vs t test elt ds (acc ++ [x]) s h2
        | .bl false => compL vs t test elt ds acc s h1
        | _ => .stuck
    | none => .stuck
/-- an exception may not leave -/
def noX {α : Type} (r : Res α) : Res α := match r with
  | .exc _ _ => .stuck
  | r => r
def mLc (vs : List Nat) (t : Tg) (mi : MA) (test : Option ME) (elt : ME) : ME := fun s h => (mi s h).bind fun ds h1 => if ds.length ≤ sizeLine then (noX (compL vs t test elt ds [] s h1)).bind fun xs h2 => .ok (.arr xs) h2 else .stuck
/-- a new list that is to change -/
def mLcM (vs : List Nat) (t : Tg) (mi : MA) (test : Option ME) (elt : ME) : ME := fun s h => (mi s h).bind fun ds h1 => if ds.length ≤ sizeLine then (noX (compL vs t test elt ds [] s h1)).bind fun xs h2 => .ok (.ref h2.length) (h2 ++ [.lst xs]) else .stuck
end
end RX

set_option Elab.async false
set_option linter.all false
set_option maxRecDepth 100000
set_option maxHeartbeats 2000000
namespace RX
open PySem PySem.Spec PyProof.Rows L2
/-! ### a hidden list, while it is filled -/
section
variable {G : Gc} {ρ ρ1 ρ2 : Rh} {H H1 H2 : Hp} {h : Hd} {D : Addr}
mutual
theorem Rp.less (hl : ∀ a, live ρ1 a → live ρ a) (he : ∀ (i : Nat) o, ρ.l[i]? = some o → ρ1.l[i]? = some o) : ∀ {v : V} {d : RX.D}, Rp G ρ H v d → Rp G ρ1 H v d
  | _, _, .non => .non
  | _, _, .bl b => .bl b
  | _, _, .int i => .int i
  | _, _, .str x => .str x
  | _, _, .ty n => .ty n
  | _, _, .tup e r => .tup e (RpL.less hl he r)
  | _, _, .arr e l r => .arr e (fun z => l (hl _ z)) (RpL.less hl he r)
  | _, _, .scr e => .scr (e.imp (fun ⟨e, l⟩ => ⟨e, fun z => l (hl _ z)⟩) id)
  | _, _, .dk e l k r => .dk e (fun z => l (hl _ z)) k (RpL.less hl he r)
  | _, _, .ref e => .ref (he _ _ e)
  | _, _, .gone e => .gone (he _ _ e)
  | _, _, .fn k => .fn k
  | _, _, .cls k => .cls k
theorem RpL.less (hl : ∀ a, live ρ1 a → live ρ a) (he : ∀ (i : Nat) o, ρ.l[i]? = some o → ρ1.l[i]? = some o) : ∀ {vs : List V} {ds : List RX.D}, RpL G ρ H vs ds → RpL G ρ1 H vs ds
  | _, _, .nil => .nil
  | _, _, .cons r t => .cons (Rp.less hl he r) (RpL.less hl he t)
end
theorem ObO.less (hl : ∀ a, live ρ1 a → live ρ a) (he : ∀ (i : Nat) o, ρ.l[i]? = some o → ρ1.l[i]? = some o) {a : Addr} {o : MO} (x : ObO G ρ H a o) : ObO G ρ1 H a o := by
  cases o with
  | lst ds => obtain ⟨vs, z, r⟩ := x; exact ⟨vs, z, r.less hl he⟩
  | dk ks => obtain ⟨vs, z, k, r⟩ := x; exact ⟨vs, z, k, r.less hl he⟩
  | dead => exact x
theorem Pst0.less (hl : ∀ a, live ρ1 a → live ρ a) (he : ∀ (i : Nat) o, ρ.l[i]? = some o → ρ1.l[i]? = some o) : Pst0 ρ H ρ1 H where
  fr := fun _ _ e _ _ => e
  ext := fun _ _ e => .inl (he _ _ e)
  gone := fun _ e => he _ _ e
  new := fun a l => .inl (hl a l)
  lv := fun _ o e _ t => ⟨o, e, t⟩
theorem Pst0.hide {o : HO} (hD : H D = none) : Pst0 ρ H (ρ.hide D) (upd H D o) where
  fr := (Pst.laid (ρ := ρ) hD).fr
  ext := fun _ _ e => .inl e
  gone := fun _ e => e
  new := fun a l => by
    rcases l with l | l
    · exact .inl (.inl l)
    · rcases List.mem_cons.mp (show a ∈ D :: ρ.z from l) with z | z
      · subst z; exact .inr (.inl hD)
      · exact .inl (.inr z)
  lv := (Pst.laid (ρ := ρ) hD).lv
theorem Pst.hide {o : HO} (hD : H D = none) : Pst ρ H (ρ.hide D) (upd H D o) := ⟨Pst0.hide hD, (Pst.laid hD).hd, fun _ l => List.mem_cons_of_mem _ l⟩
theorem AbH.hide (A : AbH G ρ H h) {o : HO} (hD : H D = none) (ho : isMut o) : AbH G (ρ.hide D) (upd H D o) h where
  len := A.len
  ob := fun i a e => by
    obtain ⟨u, hu, x⟩ := A.ob i a e
    obtain ⟨z, hz⟩ := A.some_ (.inl (List.mem_of_getElem? e))
    exact ⟨u, hu, x.mono A (Pst.hide hD) (upd_ne (ne_of_none hz hD))⟩
  gone := A.gone
  inj := A.inj
  tabs := A.tabs.ext fun b u e => by rw [upd_ne (ne_of_none e hD)]; exact e
  hid := fun a l => by
    rcases List.mem_cons.mp (show a ∈ D :: ρ.z from l) with z | z
    · subst z
      rcases ho with ⟨w, rfl⟩ | ⟨w, rfl⟩
      · exact .inl ⟨_, upd_same⟩
      · exact .inr ⟨_, upd_same⟩
    · exact (A.laid (o := o) hD).hid a z
  dis := fun a l m => by
    rcases List.mem_cons.mp (show a ∈ D :: ρ.z from l) with z | z
    · subst z
      obtain ⟨u, q⟩ := A.some_ (.inl m)
      rw [hD] at q; cases q
    · exact A.dis a z m
  inv := G.mon _ _ _ _ A.lvok (Pst0.hide hD) A.inv
/-- the hidden list is written -/
theorem Pst.fill {o : HO} (p : Pst ρ H ρ1 H1) (hD : H D = none) : Pst ρ H ρ1 (upd H1 D o) where
  fr := fun a u e l t => by rw [upd_ne (ne_of_none e hD)]; exact p.fr a u e l t
  ext := p.ext
  gone := p.gone
  new := p.new
  lv := fun a u e l t => by rw [upd_ne (ne_of_none e hD)]; exact p.lv a u e l t
  hd := fun a l u e => by rw [upd_ne (ne_of_none e hD)]; exact p.hd a l u e
  hz := p.hz
theorem Pst0.fill {o o' : HO} (hz : D ∈ ρ.z) (hD : H D = some o) (hm' : isMut o') : Pst0 ρ H ρ (upd H D o') where
  fr := fun b u e l _ => by rw [upd_ne (fun z => by subst z; exact l (.inr hz))]; exact e
  ext := fun _ _ e => .inl e
  gone := fun _ e => e
  new := fun _ l => .inl l
  lv := fun b u e _ t => by
    by_cases z : b = D
    · rw [z]; exact ⟨_, upd_same, isMut_tbl hm'⟩
    · exact ⟨u, by rw [upd_ne z]; exact e, t⟩
theorem AbH.fill (A : AbH G ρ H h) {o o' : HO} (hz : D ∈ ρ.z) (hD : H D = some o) (hm : isMut o) (hm' : isMut o') : AbH G ρ (upd H D o') h where
  len := A.len
  ob := fun i a e => by
    obtain ⟨u, hu, x⟩ := A.ob i a e
    exact ⟨u, hu, x.mono0 A (Pst0.fill hz hD hm') (upd_ne (fun z => A.dis D hz (z ▸ List.mem_of_getElem? e)))⟩
  gone := A.gone
  inj := A.inj
  tabs := tabs_upd A.tabs hD hm
  hid := fun a l => by
    by_cases z : a = D
    · subst z
      rcases hm' with ⟨w, rfl⟩ | ⟨w, rfl⟩
      · exact .inl ⟨_, upd_same⟩
      · exact .inr ⟨_, upd_same⟩
    · rw [upd_ne z]; exact A.hid a l
  dis := A.dis
  inv := G.mon _ _ _ _ A.lvok (Pst0.fill hz hD hm') A.inv
/-- the hidden list given out as data -/
def Rh.back (ρ2 ρ : Rh) : Rh := ⟨ρ2.l, ρ.z⟩
theorem back_live (p : Pst ρ H ρ1 H1) (a : Addr) (l : live (ρ1.back ρ) a) : live ρ1 a := by
  rcases l with l | l
  · exact .inl l
  · exact .inr (p.hz a l)
theorem Pst.back (p : Pst ρ H ρ1 H1) : Pst ρ H (ρ1.back ρ) H1 where
  fr := p.fr
  ext := p.ext
  gone := p.gone
  new := fun a l => p.new a (back_live p a l)
  lv := p.lv
  hd := p.hd
  hz := fun _ l => l
theorem AbH.back (A : AbH G ρ1 H1 h) (p : Pst ρ H ρ1 H1) : AbH G (ρ1.back ρ) H1 h where
  len := A.len
  ob := fun i a e => by
    obtain ⟨u, hu, x⟩ := A.ob i a e
    exact ⟨u, hu, x.less (back_live p) fun _ _ e => e⟩
  gone := A.gone
  inj := A.inj
  tabs := A.tabs
  hid := fun a l => A.hid a (p.hz a l)
  dis := fun a l => A.dis a (p.hz a l)
  inv := G.mon _ _ _ _ A.lvok (Pst0.less (fun a l => back_live p a l) fun _ _ e => e) A.inv
theorem back_arr (A0 : AbH G ρ H h) {h1 : Hd} (A : AbH G ρ1 H1 h1) (p : Pst ρ H ρ1 H1) (hD : H D = none) (hz : D ∈ ρ1.z) {vs : List V} {ds : List RX.D} (e : H1 D = some (.lst vs)) (r : RpL G ρ1 H1 vs ds) : Rp G (ρ1.back ρ) H1 (.ref D) (.arr ds) := by
  refine .arr e (fun l => ?_) (r.less (back_live p) fun _ _ e => e)
  rcases l with l | l
  · exact A.dis D hz l
  · obtain ⟨u, q⟩ := A0.some_ (.inr l)
    rw [hD] at q; cases q
/-- .. numbered -/
theorem num_less (A : AbH G ρ1 H1 h) (p : Pst ρ H ρ1 H1) (hz : D ∈ ρ1.z) : (∀ a, live ((ρ1.back ρ).push D) a → live ρ1 a) ∧ ∀ (i : Nat) o, ρ1.l[i]? = some o → ((ρ1.back ρ).push D).l[i]? = some o := by
  refine ⟨fun a l => ?_, fun i o e => ?_⟩
  · rcases live_app.mp l with z | z
    · exact back_live p a z
    · subst z; exact .inr hz
  · show (ρ1.l ++ [some D])[i]? = some o
    rw [List.getElem?_append_left (List.getElem?_eq_some_iff.mp e).1]; exact e
theorem Pst.num (p : Pst ρ H ρ1 H1) (hD : H D = none) : Pst ρ H ((ρ1.back ρ).push D) H1 where
  fr := p.fr
  ext := fun i a e => by
    rcases p.ext i a e with z | z
    · left; show (ρ1.l ++ [some D])[i]? = _; rw [List.getElem?_append_left (List.getElem?_eq_some_iff.mp z).1]; exact z
    · right; show (ρ1.l ++ [some D])[i]? = _; rw [List.getElem?_append_left (List.getElem?_eq_some_iff.mp z).1]; exact z
  gone := fun i e => by
    have z := p.gone i e
    show (ρ1.l ++ [some D])[i]? = _; rw [List.getElem?_append_left (List.getElem?_eq_some_iff.mp z).1]; exact z
  new := fun a l => by
    rcases live_app.mp l with z | z
    · exact p.new a (back_live p a z)
    · subst z; exact .inr (.inl hD)
  lv := p.lv
  hd := p.hd
  hz := fun _ l => l
theorem AbH.num {h0 : Hd} (A0 : AbH G ρ H h0) (A : AbH G ρ1 H1 h) (p : Pst ρ H ρ1 H1) (hD : H D = none) (hz : D ∈ ρ1.z) {m : MO} (x : ObO G ρ1 H1 D m) : AbH G ((ρ1.back ρ).push D) H1 (h ++ [m]) where
  len := by show (ρ1.l ++ [some D]).length = _; rw [List.length_append, List.length_append, A.len]; rfl
  ob := fun i a e => by
    have e' : (ρ1.l ++ [some D])[i]? = some (some a) := e
    obtain ⟨l1, l2⟩ := num_less A p hz
    by_cases hi : i < ρ1.l.length
    · rw [List.getElem?_append_left hi] at e'
      obtain ⟨u, hu, y⟩ := A.ob i a e'
      exact ⟨u, by rw [List.getElem?_append_left (by rw [← A.len]; exact hi)]; exact hu, y.less l1 l2⟩
    · rw [List.getElem?_append_right (by omega)] at e'
      have hj : i - ρ1.l.length = 0 := by
        have := (List.getElem?_eq_some_iff.mp e').1
        simp at this; omega
      rw [hj] at e'
      cases e'
      refine ⟨m, ?_, x.less l1 l2⟩
      rw [List.getElem?_append_right (by rw [← A.len]; omega), ← A.len, hj]; rfl
  gone := fun i e => by
    have e' : (ρ1.l ++ [some D])[i]? = some none := e
    by_cases hi : i < ρ1.l.length
    · rw [List.getElem?_append_left hi] at e'
      rw [List.getElem?_append_left (by rw [← A.len]; exact hi)]; exact A.gone i e'
    · rw [List.getElem?_append_right (by omega)] at e'
      have hj : i - ρ1.l.length = 0 := by
        have := (List.getElem?_eq_some_iff.mp e').1
        simp at this; omega
      rw [hj] at e'; cases e'
  inj := fun i j a e e' => by
    have key : ∀ k : Nat, (ρ1.l ++ [some D])[k]? = some (some a) → (k < ρ1.l.length ∧ ρ1.l[k]? = some (some a)) ∨ (k = ρ1.l.length ∧ a = D) := fun k q => by
      by_cases hk : k < ρ1.l.length
      · rw [List.getElem?_append_left hk] at q; exact .inl ⟨hk, q⟩
      · rw [List.getElem?_append_right (by omega)] at q
        have hj : k - ρ1.l.length = 0 := by
          have := (List.getElem?_eq_some_iff.mp q).1
          simp at this; omega
        rw [hj] at q; cases q; exact .inr ⟨by omega, rfl⟩
    have np : some D ∉ ρ1.l := A.dis D hz
    rcases key i e with ⟨_, z⟩ | ⟨z, q⟩ <;> rcases key j e' with ⟨_, z'⟩ | ⟨z', q'⟩
    · exact A.inj i j a z z'
    · subst q'; exact (np (List.mem_of_getElem? z)).elim
    · subst q; exact (np (List.mem_of_getElem? z')).elim
    · omega
  tabs := A.tabs
  hid := fun a l => A.hid a (p.hz a l)
  dis := fun a l m => by
    rcases List.mem_append.mp (show some a ∈ ρ1.l ++ [some D] from m) with m | m
    · exact A.dis a (p.hz a l) m
    · simp at m
      subst m
      obtain ⟨u, q⟩ := A0.some_ (.inr l)
      rw [hD] at q; cases q
  inv := G.mon _ _ _ _ A.lvok (Pst0.less (num_less A p hz).1 (num_less A p hz).2) A.inv
end
section
variable {G : Gc} {X : Cx} {W : WX}
/-! ### the block's slots -/
theorem wipe_get {σ : L2.St} : ∀ (vs : List Nat) (i : Nat), (wipe σ vs)[i]? = if i ∈ vs then (if i < σ.length then some none else none) else σ[i]?
  | [], i => by simp [wipe]
  | v :: vs, i => by
    show ((wipe σ vs).set v none)[i]? = _
    by_cases z : v = i
    · subst z
      rw [if_pos (by simp)]
      by_cases hl : v < σ.length
      · rw [if_pos hl, List.getElem?_set_self (by rw [wipe_length]; exact hl)]
      · rw [if_neg hl, List.getElem?_eq_none (by rw [List.length_set, wipe_length]; omega)]
    · rw [List.getElem?_set_ne z, wipe_get vs i]
      by_cases hm : i ∈ vs
      · rw [if_pos hm, if_pos (List.mem_cons_of_mem _ hm)]
      · rw [if_neg hm, if_neg (by simp; exact ⟨fun e => z e.symm, hm⟩)]
theorem wipe_wipe {σ : L2.St} {vs : List Nat} : wipe (wipe σ vs) vs = wipe σ vs := by
  apply List.ext_getElem?
  intro i
  rw [wipe_get vs i, wipe_length, wipe_get vs i]
  split <;> rfl
theorem kill_wipe {ρ : Rh} {H : Hp} {s : Sl} {σ : L2.St} (S : AbS G ρ H s σ) : ∀ vs : List Nat, AbS G ρ H (kill s vs) (wipe σ vs)
  | [] => S
  | i :: vs => by
    have T := kill_wipe S vs
    have key : ∀ (j : Nat) (d : RX.D), (kill s (i :: vs))[j]? = some (some d) → (kill s vs)[j]? = some (some d) ∧ ((wipe σ vs).set i none)[j]? = (wipe σ vs)[j]? := fun j d e => by
      have e' : ((kill s vs).set i none)[j]? = some (some d) := e
      by_cases z : i = j
      · subst z
        rw [List.getElem?_set] at e'
        simp at e'
      · rw [List.getElem?_set_ne z] at e'
        exact ⟨e', List.getElem?_set_ne z⟩
    refine ⟨by show ((kill s vs).set i none).length = ((wipe σ vs).set i none).length; rw [List.length_set, List.length_set]; exact T.len, fun j d e hx => ?_, fun j c e => ?_⟩
    · obtain ⟨e1, e2⟩ := key j d e
      show ∃ v, ((wipe σ vs).set i none)[j]? = _ ∧ _
      rw [e2]; exact T.at_ j d e1 hx
    · obtain ⟨e1, e2⟩ := key j _ e
      show ∃ v, ((wipe σ vs).set i none)[j]? = _ ∧ _
      rw [e2]; exact T.ax j c e1
/-! ### list comprehensions -/
def NoW : WX := fun _ _ _ _ => False
def OkTs (X : Cx) (G : Gc) (ifs : List Expr) (test : Option ME) : Prop := match ifs, test with
  | [], none => True
  | [c], some m => OkT X G NoW c m
  | _, _ => False
def ttOf (G : Gc) : Option ME → L2.TT
  | none => tYes
  | some m => TT_ G NoW m
theorem okTs_pts {ifs : List Expr} {test : Option ME} (h : OkTs X G ifs test) : PTs X ifs (ttOf G test) := by
  unfold OkTs at h
  split at h
  · exact pts_nil
  · exact pts_one h
  · exact h.elim
theorem tt_of {test : Option ME} {ρ : Rh} {H : Hp} {h : Hd} {s : Sl} {σ : L2.St} {R : Bool → Hp → Prop} (S : AbS G ρ H s σ) (A : AbH G ρ H h) {b : RX.D} {h1 : Hd} (e : testR test s h = .ok b h1) (hb : ∃ k, b = .bl k) (q : ∀ k ρ1 H1, b = .bl k → Pst ρ H ρ1 H1 → AbH G ρ1 H1 h1 → R k H1) : ttOf G test σ H R := by
  cases test with
  | none => cases e; exact q true ρ H rfl .refl A
  | some c =>
    have e : c s h = .ok b h1 := e
    refine ⟨ρ, s, h, S, A, ?_⟩
    rw [e]
    obtain ⟨k, rfl⟩ := hb
    exact fun ρ1 H1 p A1 => ⟨k, rfl, q k ρ1 H1 rfl p A1⟩
/-- what the filling ends in -/
def CpOk (G : Gc) (ρ0 : Rh) (H0 : Hp) (D : Addr) (Z : Hp → Prop) (r : Res (List RX.D)) : Prop := match r with
  | .ok xs h2 => ∀ ρ2 H2 vs2, Pst ρ0 H0 ρ2 H2 → AbH G ρ2 H2 h2 → D ∈ ρ2.z → H2 D = some (.lst vs2) → RpL G ρ2 H2 vs2 xs → Z H2
  | _ => False
theorem cp_turn {vs : List Nat} {t : Tg} {test : Option ME} {elt : ME} {ρ0 : Rh} {H0 : Hp} {h0 : Hd} {D : Addr} {Z : Hp → Prop} {s : Sl} {σ : L2.St} {J : It} {ds : List RX.D} (hK : X.K = G.K) (hv : ∀ i ∈ slots t, i ∈ vs) (hn : ds.length ≤ sizeLine)
    (S : AbS G ρ0 H0 s σ) (A0 : AbH G ρ0 H0 h0) (gv : Gives G ρ0 H0 J ds) (hD : H0 D = none) (q : CpOk G ρ0 H0 D Z (compL vs t test elt ds [] s h0)) :
    ∃ W : Nat → Nat → Hp → Prop, (∃ m, W 0 m (upd H0 D (.lst []))) ∧ ∀ i m H, W i m H →
      (J.stop i H ∧ Z H) ∨ (J.go i H ∧ ∃ Nx : Hp → Prop, (∀ H', Nx H' → ∃ m', m' < m ∧ W (i + 1) m' H') ∧ ∀ x H', J.yld i H x H' → rdT G.K t x (wipe σ vs) H' fun σ2 H2 => wipe σ2 vs = wipe σ vs ∧ ttOf G test σ2 H2 fun b H3 =>
        if b = true then TE_ G NoW elt σ2 H3 fun y H4 => ∃ acc, H4 D = some (.lst acc) ∧ acc.length < sizeLine ∧ Nx (upd H4 D (.lst (acc ++ [y]))) else Nx H3) := by
  have mu : ∀ vs : List V, isMut (.lst vs) := fun vs => .inl ⟨_, rfl⟩
  obtain ⟨Gd, Y, w, kk, y⟩ := gv
  refine ⟨fun i m H => m = ds.length - i ∧ i ≤ ds.length ∧ ∃ ρ h vs2 acc, Pst ρ0 H0 ρ H ∧ AbH G ρ H h ∧ D ∈ ρ.z ∧ H D = some (.lst vs2) ∧ RpL G ρ H vs2 acc ∧ vs2.length ≤ i ∧ CpOk G ρ0 H0 D Z (compL vs t test elt (ds.drop i) acc s h), ⟨_, rfl, Nat.zero_le _, ρ0.hide D, h0, [], [], Pst.hide hD, A0.hide hD (mu _), by simp [Rh.hide], upd_same, .nil, by simp, q⟩, ?_⟩
  rintro i m H ⟨rfl, hi, ρ, h, vs2, acc, p, A, hz, eD, ra, hla, q⟩
  by_cases hl : i < ds.length
  · right
    have ed : ds.drop i = ds[i] :: ds.drop (i + 1) := List.drop_eq_getElem_cons hl
    rw [ed] at q
    unfold compL at q
    refine ⟨w.goes i H hl (kk ρ H p), fun H' => ∃ ρ h vs2 acc, Pst ρ0 H0 ρ H' ∧ AbH G ρ H' h ∧ D ∈ ρ.z ∧ H' D = some (.lst vs2) ∧ RpL G ρ H' vs2 acc ∧ vs2.length ≤ i + 1 ∧ CpOk G ρ0 H0 D Z (compL vs t test elt (ds.drop (i + 1)) acc s h), fun H' ⟨ρ, h, vs2, acc, x⟩ => ⟨ds.length - (i + 1), by omega, rfl, by omega, ρ, h, vs2, acc, x⟩, fun x H2 yy => ?_⟩
    obtain ⟨p2, A2, r2⟩ := y i ds[i] ρ H h x H2 (List.getElem?_eq_getElem hl) p A (w.yields i H x H2 hl (kk ρ H p) yy)
    have pp := p.trans p2
    cases eb : bindT t ds[i] (kill s vs) with
    | none => simp only [eb] at q; exact q.elim
    | some s1 =>
      simp only [eb] at q
      refine bindT_ok (vs := vs) rfl r2 (kill_wipe (S.mono A0 pp) vs) eb hv fun σ2 S2 w2 => ⟨w2.trans wipe_wipe, ?_⟩
      have eD2 := p2.hd D hz _ eD
      have ra2 := ra.mono A p2
      generalize ht : testR test s1 h = rt at q
      cases rt with
      | stuck => exact q.elim
      | exc c h1 => exact q.elim
      | ok b h1 =>
        simp only [Res.bind] at q
        have hb : ∃ k, b = .bl k := by
          cases b with
          | bl k => exact ⟨k, rfl⟩
          | _ => exact q.elim
        refine tt_of S2 A2 ht hb fun k ρ3 H3 eb' p3 A3 => ?_
        subst eb'
        have eD3 := p3.hd D (p2.hz D hz) _ eD2
        have ra3 := ra2.mono A2 p3
        have hz3 := p3.hz D (p2.hz D hz)
        cases k with
        | false =>
          rw [if_neg (by decide)]
          exact ⟨ρ3, h1, vs2, acc, pp.trans p3, A3, hz3, eD3, ra3, by omega, q⟩
        | true =>
          rw [if_pos rfl]
          dsimp only at q
          refine ⟨ρ3, s1, h1, S2.mono A2 p3, A3, ?_⟩
          cases ee : elt s1 h1 with
          | stuck => rw [ee] at q; exact q.elim
          | exc c h2 => rw [ee] at q; exact q.elim
          | ok d h2 =>
            rw [ee] at q
            simp only [Res.bind] at q
            intro ρ4 H4 p4 A4 v rv
            have eD4 := p4.hd D hz3 _ eD3
            have hz4 := p4.hz D hz3
            have rr := (ra3.mono A3 p4).append (.cons rv .nil)
            refine ⟨vs2, eD4, by omega, ρ4, h2, vs2 ++ [v], acc ++ [d], ((pp.trans p3).trans p4).fill hD, A4.fill hz4 eD4 (mu _) (mu _), hz4, upd_same, rr.mono0 A4 (Pst0.fill hz4 eD4 (mu _)), by simp; exact hla, q⟩
  · left
    have ei : i = ds.length := by omega
    subst ei
    rw [List.drop_length] at q
    exact ⟨w.stops H (kk ρ H p), q ρ H vs2 p A hz eD ra⟩
variable {elt tg iter : Expr} {ifs : List Expr} {scope : Scope} {own : List (Str × Nat)} {pos spos py : Pos} {mi : MA} {t : Tg} {test : Option ME} {m : ME}
theorem rd_lc {σ : L2.St} {H : Hp} {Q : VK} {vs : List Nat} (hK : X.K = G.K) (hv : ∀ i ∈ slots t, i ∈ vs) (q : TE_ G W (mLc vs t mi test m) σ H Q) : tLc (TI_ G W mi) (rdT G.K t) (ttOf G test) (TE_ G NoW m) vs σ H Q := by
  obtain ⟨ρ, sd, h, S, A, q⟩ := q
  refine ⟨ρ, sd, h, S, A, q.bind.imp fun ds ρ1 H1 ⟨h1, _, A1, p1, q1⟩ J gv D hD => ?_⟩
  have S1 := S.mono A p1
  split at q1
  · rename_i hl
    refine cp_turn hK hv hl S1 A1 gv hD ?_
    revert q1
    generalize compL vs t test m ds [] sd h1 = r
    intro q1
    cases r with
    | stuck => exact q1.elim
    | exc c h => exact q1.elim
    | ok xs h2 =>
      intro ρ2 H2 vs2 p2 A2 hz eD rr
      exact q1 (ρ2.back ρ1) H2 p2.back (A2.back p2) _ (back_arr A1 A2 p2 hD hz eD rr)
  · exact q1.elim
theorem rd_lcM {σ : L2.St} {H : Hp} {Q : VK} {vs : List Nat} (hK : X.K = G.K) (hv : ∀ i ∈ slots t, i ∈ vs) (q : TE_ G W (mLcM vs t mi test m) σ H Q) : tLc (TI_ G W mi) (rdT G.K t) (ttOf G test) (TE_ G NoW m) vs σ H Q := by
  obtain ⟨ρ, sd, h, S, A, q⟩ := q
  refine ⟨ρ, sd, h, S, A, q.bind.imp fun ds ρ1 H1 ⟨h1, _, A1, p1, q1⟩ J gv D hD => ?_⟩
  have S1 := S.mono A p1
  split at q1
  · rename_i hl
    refine cp_turn hK hv hl S1 A1 gv hD ?_
    revert q1
    generalize compL vs t test m ds [] sd h1 = r
    intro q1
    cases r with
    | stuck => exact q1.elim
    | exc c h => exact q1.elim
    | ok xs h2 =>
      intro ρ2 H2 vs2 p2 A2 hz eD rr
      exact q1 _ H2 (p2.num hD) (AbH.num A1 A2 p2 hD hz ⟨vs2, eD, rr⟩) _ (.ref (by show (ρ2.l ++ [some D])[_]? = _; rw [← A2.len]; simp))
  · exact q1.elim
abbrev BlkG (X : Cx) (G : Gc) (scope : Scope) (tg : Expr) (t : Tg) : Prop := ∀ (s : Shared) (H : Hp) (C : Addr) (cl : List (Str × Addr)) (fp : List Addr), OkG (X.blk s H scope (compEnvC scope cl C X.env) fp) G tg t
abbrev BlkT (X : Cx) (G : Gc) (scope : Scope) (ifs : List Expr) (test : Option ME) : Prop := ∀ (s : Shared) (H : Hp) (C : Addr) (cl : List (Str × Addr)) (fp : List Addr), OkTs (X.blk s H scope (compEnvC scope cl C X.env) fp) G ifs test
abbrev BlkE (X : Cx) (G : Gc) (scope : Scope) (e : Expr) (m : ME) : Prop := ∀ (s : Shared) (H : Hp) (C : Addr) (cl : List (Str × Addr)) (fp : List Addr), OkE (X.blk s H scope (compEnvC scope cl C X.env) fp) G NoW e m
theorem okLc (hc : X.calm = true) (hN : X.N.Nodup) (hi : OkI X G W tg iter mi) (ok : BlkOk X.N X.env.scope scope own) (hg : BlkG X G scope tg t) (ht : BlkT X G scope ifs test) (he : BlkE X G scope elt m) (hv : ∀ i ∈ slots t, i ∈ own.map (·.2)) (hK : X.K = G.K := by rfl) (hs : ∀ x, foldedSetIterable iter X.env x = pure x := by intro _; rfl) :
    OkE X G W (.ListComp elt [⟨tg, iter, ifs, 0⟩] scope pos) (mLc (own.map (·.2)) t mi test m) :=
  ⟨fun pins s σ H Q I q => (pe_lc hc hN hi ok hg (fun s H C cl fp => okTs_pts (ht s H C cl fp)) he hs).run pins s σ H Q I (rd_lc hK hv q)⟩
theorem okLcM (hc : X.calm = true) (hN : X.N.Nodup) (hi : OkI X G W tg iter mi) (ok : BlkOk X.N X.env.scope scope own) (hg : BlkG X G scope tg t) (ht : BlkT X G scope ifs test) (he : BlkE X G scope elt m) (hv : ∀ i ∈ slots t, i ∈ own.map (·.2)) (hK : X.K = G.K := by rfl) (hs : ∀ x, foldedSetIterable iter X.env x = pure x := by intro _; rfl) :
    OkE X G W (.ListComp elt [⟨tg, iter, ifs, 0⟩] scope pos) (mLcM (own.map (·.2)) t mi test m) :=
  ⟨fun pins s σ H Q I q => (pe_lc hc hN hi ok hg (fun s H C cl fp => okTs_pts (ht s H C cl fp)) he hs).run pins s σ H Q I (rd_lcM hK hv q)⟩
theorem okSetLc {i : Nat} {y : Str} (hc : X.calm = true) (hN : X.N.Nodup) (hi : OkI X G W tg iter mi) (ok : BlkOk X.N X.env.scope scope own) (hg : BlkG X G scope tg t) (ht : BlkT X G scope ifs test) (he : BlkE X G scope elt m) (hv : ∀ i ∈ slots t, i ∈ own.map (·.2)) (hsw : swapsWith (.ListComp elt [⟨tg, iter, ifs, 0⟩] scope pos) (some (.Name y py)) spos.line X.env = pure true) (hy : X.N[i]? = some y := by rfl) (hyl : X.env.scope.names.lookup y = some .local := by rfl) (hK : X.K = G.K := by rfl) (hs : ∀ x, foldedSetIterable iter X.env x = pure x := by intro _; rfl) :
    OkS X G W (.Assign [.Name y py] (.ListComp elt [⟨tg, iter, ifs, 0⟩] scope pos) spos) (sAsg (.nm i) (mLc (own.map (·.2)) t mi test m)) := by
  refine ⟨fun pins s σ H E I q => (ps_setLc hc hN hy hyl hsw hi ok hg (fun s H C cl fp => okTs_pts (ht s H C cl fp)) he hs).run pins s σ H E I ?_⟩
  have := asg_rd (t := .nm i) hK q
  rw [rdT] at this
  exact rd_lc hK hv this
theorem okSetLcM {i : Nat} {y : Str} (hc : X.calm = true) (hN : X.N.Nodup) (hi : OkI X G W tg iter mi) (ok : BlkOk X.N X.env.scope scope own) (hg : BlkG X G scope tg t) (ht : BlkT X G scope ifs test) (he : BlkE X G scope elt m) (hv : ∀ i ∈ slots t, i ∈ own.map (·.2)) (hsw : swapsWith (.ListComp elt [⟨tg, iter, ifs, 0⟩] scope pos) (some (.Name y py)) spos.line X.env = pure true) (hy : X.N[i]? = some y := by rfl) (hyl : X.env.scope.names.lookup y = some .local := by rfl) (hK : X.K = G.K := by rfl) (hs : ∀ x, foldedSetIterable iter X.env x = pure x := by intro _; rfl) :
    OkS X G W (.Assign [.Name y py] (.ListComp elt [⟨tg, iter, ifs, 0⟩] scope pos) spos) (sAsg (.nm i) (mLcM (own.map (·.2)) t mi test m)) := by
  refine ⟨fun pins s σ H E I q => (ps_setLc hc hN hy hyl hsw hi ok hg (fun s H C cl fp => okTs_pts (ht s H C cl fp)) he hs).run pins s σ H E I ?_⟩
  have := asg_rd (t := .nm i) hK q
  rw [rdT] at this
  exact rd_lcM hK hv this
end
end RX

set_option Elab.async false
set_option linter.all false
set_option maxRecDepth 100000
set_option maxHeartbeats 2000000
namespace RX
open PySem PySem.Spec PyProof.Rows L2
/-! ### defs -/
def startS (n : Nat) (ds : List D) : Sl := ds.map some ++ List.replicate (n - ds.length) none
mutual
def cleanD (n : Nat) : D → Bool
  | .ref i => decide (i < n)
  | .tup xs => cleanL n xs
  | .arr xs => cleanL n xs
  | .dk ks => cleanK n ks
  | _ => true
def cleanL (n : Nat) : List D → Bool
  | [] => true
  | d :: ds => cleanD n d && cleanL n ds
def cleanK (n : Nat) : List (Key × D) → Bool
  | [] => true
  | d :: ds => cleanD n d.2 && cleanK n ds
end
def cleanO (n : Nat) : MO → Bool
  | .lst ds => cleanL n ds
  | .dk ks => cleanK n ks
  | .dead => true
theorem cleanK_eq {n : Nat} : ∀ ks : List (Key × D), cleanK n ks = cleanL n (ks.map (·.2))
  | [] => by rw [cleanK, List.map_nil, cleanL]
  | k :: ks => by rw [cleanK, List.map_cons, cleanL, cleanK_eq ks]
def CutH (h0 h : Hd) : Prop := h0.length ≤ h.length ∧ ∀ (i : Nat) (o : MO), i < h0.length → h[i]? = some o → h0[i]? = some o ∨ cleanO h0.length o = true
open Classical in
noncomputable def cutR (h0 : Hd) (d : D) (h : Hd) : Res D := if h.length = h0.length then .ok d h else if CutH h0 h ∧ cleanD h0.length d = true then .ok d (h.take h0.length) else .stuck
open Classical in
noncomputable def cutX (h0 : Hd) (c : Nat) (h : Hd) : Res D := if h.length = h0.length then .exc c h else if CutH h0 h then .exc c (h.take h0.length) else .stuck
noncomputable def exitR (h0 : Hd) : SR → Res D
  | .nx _ h => cutR h0 .non h
  | .rt d h => cutR h0 d h
  | .exc c _ h => cutX h0 c h
  | _ => .stuck
/-- what it makes may be given out -/
def exitK : SR → Res D
  | .nx _ h => .ok .non h
  | .rt d h => .ok d h
  | .exc c _ h => .exc c h
  | _ => .stuck
noncomputable def fnF (n np : Nat) (body : MS) : MF := fun ds h => if ds.length = np then exitR h (body (startS n ds) h) else .stuck
def fnK (n np : Nat) (body : MS) : MF := fun ds h => if ds.length = np then exitK (body (startS n ds) h) else .stuck
section
variable {G : Gc} {ρ ρ1 : Rh} {H H1 : Hp} {n : Nat}
mutual
theorem Rp.cl : ∀ {v : V} {d : D}, Rp G ρ H v d → cleanD ρ.l.length d = true
  | _, _, .non => by rw [cleanD] <;> simp
  | _, _, .bl b => by rw [cleanD] <;> simp
  | _, _, .int i => by rw [cleanD] <;> simp
  | _, _, .str x => by rw [cleanD] <;> simp
  | _, _, .ty n => by rw [cleanD] <;> simp
  | _, _, .tup e r => by rw [cleanD]; exact RpL.cl r
  | _, _, .arr e l r => by rw [cleanD]; exact RpL.cl r
  | _, _, .scr e => by rw [cleanD] <;> simp
  | _, _, .dk e l k r => by rw [cleanD, cleanK_eq]; exact RpL.cl r
  | _, _, .ref e => by rw [cleanD]; exact decide_eq_true (List.getElem?_eq_some_iff.mp e).1
  | _, _, .gone e => by rw [cleanD]; exact decide_eq_true (List.getElem?_eq_some_iff.mp e).1
  | _, _, .fn k => by rw [cleanD] <;> simp
  | _, _, .cls k => by rw [cleanD] <;> simp
theorem RpL.cl : ∀ {vs : List V} {ds : List D}, RpL G ρ H vs ds → cleanL ρ.l.length ds = true
  | _, _, .nil => by rw [cleanL]
  | _, _, .cons r t => by rw [cleanL, Rp.cl r, RpL.cl t]; rfl
end
theorem cut_live {a : Addr} (l : live (ρ.cut n) a) : live ρ a := by
  rcases l with l | l
  · exact .inl (List.mem_of_mem_take l)
  · exact .inr l
theorem cut_at {i : Nat} (h : i < n) : (ρ.cut n).l[i]? = ρ.l[i]? := List.getElem?_take_of_lt h
mutual
theorem Rp.cut : ∀ {v : V} {d : D}, cleanD n d = true → Rp G ρ H v d → Rp G (ρ.cut n) H v d
  | _, _, _, .non => .non
  | _, _, _, .bl b => .bl b
  | _, _, _, .int i => .int i
  | _, _, _, .str x => .str x
  | _, _, _, .ty n => .ty n
  | _, _, c, .tup e r => .tup e (RpL.cut (by rw [cleanD] at c; exact c) r)
  | _, _, c, .arr e l r => .arr e (fun z => l (cut_live z)) (RpL.cut (by rw [cleanD] at c; exact c) r)
  | _, _, _, .scr e => .scr (e.imp (fun ⟨e, l⟩ => ⟨e, fun z => l (cut_live z)⟩) id)
  | _, _, c, .dk e l k r => .dk e (fun z => l (cut_live z)) k (RpL.cut (by rw [cleanD, cleanK_eq] at c; exact c) r)
  | _, _, c, .ref e => .ref (by rw [cut_at (by rw [cleanD] at c; exact of_decide_eq_true c)]; exact e)
  | _, _, c, .gone e => .gone (by rw [cut_at (by rw [cleanD] at c; exact of_decide_eq_true c)]; exact e)
  | _, _, _, .fn k => .fn k
  | _, _, _, .cls k => .cls k
theorem RpL.cut : ∀ {vs : List V} {ds : List D}, cleanL n ds = true → RpL G ρ H vs ds → RpL G (ρ.cut n) H vs ds
  | _, _, _, .nil => .nil
  | _, _, c, .cons r t => by
    rw [cleanL] at c
    obtain ⟨c1, c2⟩ := Bool.and_eq_true_iff.mp c
    exact .cons (Rp.cut c1 r) (RpL.cut c2 t)
end
theorem ObO.cut {a : Addr} {o : MO} (c : cleanO n o = true) (x : ObO G ρ H a o) : ObO G (ρ.cut n) H a o := by
  cases o with
  | lst ds => obtain ⟨vs, z, r⟩ := x; exact ⟨vs, z, r.cut c⟩
  | dk ks => obtain ⟨vs, z, k, r⟩ := x; exact ⟨vs, z, k, r.cut (by rw [← cleanK_eq]; exact c)⟩
  | dead => exact x
theorem ObO.cl {a : Addr} {o : MO} (x : ObO G ρ H a o) : cleanO ρ.l.length o = true := by
  cases o with
  | lst ds => obtain ⟨vs, z, r⟩ := x; exact r.cl
  | dk ks => obtain ⟨vs, z, k, r⟩ := x; show cleanK _ ks = true; rw [cleanK_eq]; exact r.cl
  | dead => rfl
theorem Pst.cut {h0 : Hd} (A : AbH G ρ H h0) (p : Pst ρ H ρ1 H1) : Pst ρ H (ρ1.cut h0.length) H1 where
  fr := p.fr
  ext := fun i a e => by
    rw [cut_at (by rw [← A.len]; exact (List.getElem?_eq_some_iff.mp e).1)]; exact p.ext i a e
  gone := fun i e => by
    rw [cut_at (by rw [← A.len]; exact (List.getElem?_eq_some_iff.mp e).1)]; exact p.gone i e
  new := fun a l => p.new a (cut_live l)
  lv := p.lv
  hd := p.hd
  hz := p.hz
theorem AbH.cut {h0 h1 : Hd} (A : AbH G ρ H h0) (A1 : AbH G ρ1 H1 h1) (p : Pst ρ H ρ1 H1) (c : CutH h0 h1) : AbH G (ρ1.cut h0.length) H1 (h1.take h0.length) where
  len := by
    show (ρ1.l.take h0.length).length = _
    rw [List.length_take, List.length_take, A1.len]
  ob := fun i a e => by
    have hi : i < h0.length := by
      have z := (List.getElem?_eq_some_iff.mp e).1
      exact Nat.lt_of_lt_of_le z (by show (ρ1.l.take h0.length).length ≤ _; rw [List.length_take]; omega)
    rw [cut_at hi] at e
    obtain ⟨o, ho, x⟩ := A1.ob i a e
    refine ⟨o, by rw [List.getElem?_take_of_lt hi]; exact ho, x.cut ?_⟩
    rcases c.2 i o hi ho with z | z
    · have hr : i < ρ.l.length := by rw [A.len]; exact hi
      cases er : ρ.l[i]'hr with
      | none =>
        have q := p.gone i (by rw [List.getElem?_eq_getElem hr, er])
        rw [q] at e; cases e
      | some b =>
        obtain ⟨o', ho', x'⟩ := A.ob i b (by rw [List.getElem?_eq_getElem hr, er])
        rw [z] at ho'; cases ho'
        rw [← A.len]; exact x'.cl
    · exact z
  gone := fun i e => by
    have hi : i < h0.length := by
      have z := (List.getElem?_eq_some_iff.mp e).1
      exact Nat.lt_of_lt_of_le z (by show (ρ1.l.take h0.length).length ≤ _; rw [List.length_take]; omega)
    rw [cut_at hi] at e
    rw [List.getElem?_take_of_lt hi]; exact A1.gone i e
  inj := fun i j a e e' => by
    have lt : ∀ k, (ρ1.cut h0.length).l[k]? = some (some a) → ρ1.l[k]? = some (some a) := fun k q => by
      have z := (List.getElem?_eq_some_iff.mp q).1
      have hk : k < h0.length := Nat.lt_of_lt_of_le z (by show (ρ1.l.take h0.length).length ≤ _; rw [List.length_take]; omega)
      rw [cut_at hk] at q; exact q
    exact A1.inj i j a (lt i e) (lt j e')
  tabs := A1.tabs
  hid := A1.hid
  dis := fun a l m => A1.dis a l (List.mem_of_mem_take m)
  inv := G.mon _ _ _ _ A.lvok (p.cut A).toPst0 A.inv
end
/-- a def's promise; g: it asks that no guard stands -/
structure FnO (P : Program) (w : World) (mg : Str → Option Value) (base : Heap) (G : Gc) (g : Bool) (k : Nat) (f : Addr) (fd : FuncData) (ps : List Str) (F : MF) : Prop where
  len : ∀ ds h, F ds h ≠ .stuck → ds.length = ps.length
  run : ∀ (A : Around) (outer : List Env) (s : Shared) (H : Hp) (args : Args) (us : List Value) (vs : List V) (Q : VK) (E : XK) (ρ : Rh) (h : Hd) (ds : List D), Room k A → (g = true → A.guards = some []) → Env0 P w G.K mg base A outer s H → BindsTo s fd args (ps.zip us) → Vals vs us → AbH G ρ H h → RpL G ρ H vs ds → RK G ρ H [] (fun c d _ H' => E c d H') (F ds h) (KV G Q) →
    codeAny (model P w) A (.call (.ref f) args) (CR (L2.CX P w) outer P w H s Q E) s
section
variable {G : Gc} {X : Cx} {W : WX} {P : Program} {w : World} {mg : Str → Option Value} {base : Heap} {g : Bool} {k : Nat} {f : Addr} {fd : FuncData} {ps N : List Str} {F : MF}
theorem FnO.mono {j : Nat} (F1 : FnO P w mg base G g j f fd ps F) (h : j ≤ k) : FnO P w mg base G g k f fd ps F := ⟨F1.len, fun A outer s H args us vs Q E ρ hd ds hr => F1.run A outer s H args us vs Q E ρ hd ds (hr.mono h)⟩
theorem FnO.weak (F1 : FnO P w mg base G false k f fd ps F) : FnO P w mg base G g k f fd ps F := ⟨F1.len, fun A outer s H args us vs Q E ρ hd ds hr _ => F1.run A outer s H args us vs Q E ρ hd ds hr (fun z => by cases z)⟩
theorem startS_abs {ρ : Rh} {H : Hp} {vs : List V} {ds : List D} (r : RpL G ρ H vs ds) : AbS G ρ H (startS N.length ds) (L2.start N vs) := by
  have key : ∀ (i : Nat) (d : D), (startS N.length ds)[i]? = some (some d) → ∃ v, (L2.start N vs)[i]? = some (some v) ∧ Rp G ρ H v d := fun i d e => ?_
  · exact ⟨by unfold startS L2.start; simp [r.length], fun i d e _ => key i d e, fun i c e => by obtain ⟨v, _, z⟩ := key i _ e; cases z⟩
  unfold startS at e
  unfold L2.start
  by_cases hi : i < ds.length
  · rw [List.getElem?_append_left (by simpa using hi), List.getElem?_map] at e
    obtain ⟨d', e1, e2⟩ := Option.map_eq_some_iff.mp e
    cases e2
    obtain ⟨v, hv, rv⟩ := r.get e1
    exact ⟨v, by rw [List.getElem?_append_left (by rw [List.length_map, r.length]; exact hi), List.getElem?_map, hv]; rfl, rv⟩
  · rw [List.getElem?_append_right (by simpa using hi)] at e
    have := List.mem_of_getElem? e
    rw [List.mem_replicate] at this
    cases this.2
theorem rk_cut {ρ : Rh} {H : Hp} {h0 : Hd} {r : SR} {E : XK} {Q : VK} (A : AbH G ρ H h0) (q : RK G ρ H [] (fun c d _ H' => E c d H') (exitR h0 r) (KV G Q)) : SK G (fun c d _ H' => E c d H') ρ H { nx := fun _ H' => Q .non H', rt := Q } r := by
  have main : ∀ d h', RK G ρ H [] (fun c d _ H' => E c d H') (cutR h0 d h') (KV G Q) → ∀ v ρ' H', Pst ρ H ρ' H' → AbH G ρ' H' h' → Rp G ρ' H' v d → Q v H' := fun d h' q v ρ' H' p A' r => by
    unfold cutR at q
    split at q
    · exact q ρ' H' p A' v r
    · split at q
      · rename_i c
        exact q _ H' (p.cut A) (A.cut A' p c.1) v (r.cut c.2)
      · exact q.elim
  cases r with
  | nx s h' => exact fun σ' ρ' H' p A' _ => main _ _ q .non ρ' H' p A' .non
  | rt d h' => exact main _ _ q
  | bk s h' => exact q.elim
  | ct s h' => exact q.elim
  | stuck => exact q.elim
  | exc c s h' =>
    intro σ' ρ' H' p A' _
    have q : RK G ρ H [] (fun c d _ H' => E c d H') (cutX h0 c h') (KV G Q) := q
    unfold cutX at q
    split at q
    · exact q ρ' H' p A'
    · split at q
      · rename_i c
        exact q _ H' (p.cut A) (A.cut A' p c)
      · exact q.elim
theorem rk_keep {ρ : Rh} {H : Hp} {r : SR} {E : XK} {Q : VK} (q : RK G ρ H [] (fun c d _ H' => E c d H') (exitK r) (KV G Q)) : SK G (fun c d _ H' => E c d H') ρ H { nx := fun _ H' => Q .non H', rt := Q } r := by
  cases r with
  | nx s h' => exact fun σ' ρ' H' p A' _ => q ρ' H' p A' .non .non
  | rt d h' => exact fun v ρ' H' p A' r => q ρ' H' p A' v r
  | bk s h' => exact q.elim
  | ct s h' => exact q.elim
  | stuck => exact q.elim
  | exc c s h' => exact fun σ' ρ' H' p A' _ => q ρ' H' p A'
abbrev cxR (P : Program) (w : World) (G : Gc) (mg : Str → Option Value) (base : Heap) (N : List Str) (qual : Str) (scope : Scope) (f : Addr) (cdv : Value) (A : Around) (outer : List Env) (s : Shared) (H : Hp) (E : XK) : Cx := cxOf (L2.CX P w) P w G.K mg base N qual scope f cdv A outer s H E
/-- a def's body read -/
structure BodyOk (P : Program) (w : World) (mg : Str → Option Value) (base : Heap) (G : Gc) (g : Bool) (k : Nat) (f : Addr) (fd : FuncData) (qual : Str) (scope : Scope) (N : List Str) (body : List Stmt) (m : MS) : Prop where
  ok : ∀ (cdv : Value) (A : Around) (outer : List Env) (s : Shared) (H : Hp) (E : XK), cdv = fd.code → Room k (A.deeper (envOfC qual scope s.heap.objs.size f cdv)) → (g = true → A.guards = some []) → OkSs (cxR P w G mg base N qual scope f cdv A outer s H E) G (fun c d _ H => E c d H) body m
variable {x qual : Str} {params : Arguments} {body : List Stmt} {scope : Scope} {m : MS}
theorem cdv_ref {K : PySem.W.Frag} {cd : Value} {q : Str} (h : PySem.W.codeIn K cd q = true) : ∃ c, cd = .ref c := by
  cases cd with
  | ref c => exact ⟨c, rfl⟩
  | _ => cases h
theorem fnO_core {ex : Hd → SR → Res D} (hex : ∀ {ρ : Rh} {H : Hp} {h0 : Hd} {r : SR} {E : XK} {Q : VK}, AbH G ρ H h0 → RK G ρ H [] (fun c d _ H' => E c d H') (ex h0 r) (KV G Q) → SK G (fun c d _ H' => E c d H') ρ H { nx := fun _ H' => Q .non H', rt := Q } r)
    (FD : FunD G.K x qual params body scope [] [] f fd) (S : FnScope N ps scope) (B : BodyOk P w mg base G g k f fd qual scope N body m) : FnO P w mg base G g (k + 1) f fd ps (fun ds h => if ds.length = ps.length then ex h (m (startS N.length ds) h) else .stuck) := by
  obtain ⟨oc, od, dV, kV, doc, pm, an, cdv, ct, osl, rfl, lk, hcd, _, _⟩ := FD.ex
  refine ⟨fun ds h q => ?_, fun A outer s H args us vs Q E ρ h ds hr hg e0 hb rv AA rd q => ?_⟩
  · by_cases hl : ds.length = ps.length
    · exact hl
    · simp only [if_neg hl] at q; exact (q rfl).elim
  · by_cases hl : ds.length = ps.length
    · simp only [if_pos hl] at q
      refine LamX.run_ofS (N := N) (ps := ps) lk hcd S hr e0 hb rv (by rw [rd.length]; exact hl) fun hr' => ⟨_, B.ok cdv A outer s H E rfl hr' hg, ?_⟩
      exact ⟨ρ, _, h, startS_abs rd, AA, hex AA q⟩
    · simp only [if_neg hl] at q; exact q.elim
theorem fnO (FD : FunD G.K x qual params body scope [] [] f fd) (S : FnScope N ps scope) (B : BodyOk P w mg base G g k f fd qual scope N body m) : FnO P w mg base G g (k + 1) f fd ps (fnF N.length ps.length m) := fnO_core (ex := exitR) (fun A q => rk_cut A q) FD S B
theorem fnO_keep (FD : FunD G.K x qual params body scope [] [] f fd) (S : FnScope N ps scope) (B : BodyOk P w mg base G g k f fd qual scope N body m) : FnO P w mg base G g (k + 1) f fd ps (fnK N.length ps.length m) := fnO_core (ex := fun _ => exitK) (fun A q => rk_keep q) FD S B
/-! ### calls -/
theorem run_fnO {pins : List (Addr × Obj)} {σ : L2.St} {H : Hp} {s : Shared} {Q : VK} {us : List Value} {vs : List V} {ds : List D} {ρ : Rh} {h : Hd} (F1 : FnO X.prog X.w X.mg X.base G g k f fd ps F) (hr : Room k X.A) (hg : g = true → X.A.guards = some []) (hb : Binds X.K fd ps []) (tk : Takes X W)
    (I : Inv X pins σ H s) (r : Vals vs us) (A : AbH G ρ H h) (rd : RpL G ρ H vs ds) (q : RK G ρ H σ W (F ds h) (KV G Q)) (hK : X.K = G.K) : wpAny (model X.prog X.w) X.A (call (.ref f) us) (EP X pins σ Q) X.xe s := by
  have hne : F ds h ≠ .stuck := fun e => by rw [e] at q; exact q
  have hl : (us ++ []).length = ps.length := by rw [List.append_nil, ← r.length, rd.length]; exact F1.len _ _ hne
  have q' : RK G ρ H [] (fun c d _ H' => WE W σ c d H') (F ds h) (KV G Q) := by
    cases e : F ds h with
    | ok d h' => rw [e] at q; exact q
    | exc c h' => rw [e] at q; exact q
    | stuck => exact (hne e).elim
  have e0 : Env0 X.prog X.w G.K X.mg X.base X.A X.stack s H := hK ▸ I.env0
  refine wpAny_call (codeAny_mono (F1.run X.A X.stack s H ⟨us, []⟩ us vs Q (WE W σ) ρ h ds hr hg e0 (by have := hb s us I.kIn hl; rw [List.append_nil] at this; exact this) r A rd q') fun r s' hq => ?_)
  cases r with
  | error e => exact passAt tk σ pins H s e s' I hq
  | ok fl =>
    cases fl with
    | ret u => exact I.after hq
    | next => exact False.elim hq
    | brk => exact False.elim hq
    | cont => exact False.elim hq
variable {e : Expr} {es : List Expr} {ms : MA} {p pos : Pos} {y : Str}
theorem okCall (F1 : FnO X.prog X.w X.mg X.base G g k f fd ps F) (hr : Room k X.A) (hgd : g = true → X.A.guards = some []) (hm : X.mg y = some (.ref f)) (hk : PySem.W.keepIn G.K (.ref f) = true) (hb : Binds G.K fd ps []) (tk : Takes X W)
    (ha : OkA X G W (e :: es) ms) (hg : Gl X y := by rfl) (hK : X.K = G.K := by rfl) (hdb : (y == ("__debug__" : Str)) = false := by decide) (he : starEach (e :: es) X.env = (false, eval e X.env) :: starEach es X.env := by rfl) (hpl : (backTo pos (starEach es X.env)).any (·.1) = false := by rfl) :
    OkE X G W (.Call (.Name y p) (e :: es) [] pos) (mCB F ms) := by
  refine ⟨fun pins s σ H Q I ⟨ρ, sd, h, S, A, q⟩ => ?_⟩
  refine wpAny_Call_Name_kw (ld_glob I hg hm ?_ hdb)
  refine PySem.W.callWith_K (h₀ := X.base) I.ok.mod.kin (by rw [hK]; exact hk) (thn (ha.run pos pins s σ H (fun vs H1 => ∃ ρ1 h1 ds, AbH G ρ1 H1 h1 ∧ RpL G ρ1 H1 vs ds ∧ RK G ρ1 H1 σ W (F ds h1) (KV G Q)) I (ta_bind S A q fun ds h1 ρ1 H1 vs p S1 A1 rs q1 => ⟨ρ1, h1, ds, A1, rs, q1⟩)) fun us s1 ⟨vs, H1, I1, r, ρ1, h1, ds, A1, rs, q1⟩ => ⟨I1.kIn, ?_⟩) he hpl
  exact run_fnO F1 hr hgd (hK ▸ hb) tk I1 r A1 rs q1 hK
/-- .. of no argument -/
theorem okCall0 (F1 : FnO X.prog X.w X.mg X.base G g k f fd ps F) (hr : Room k X.A) (hgd : g = true → X.A.guards = some []) (hm : X.mg y = some (.ref f)) (hk : PySem.W.keepIn G.K (.ref f) = true) (hb : Binds G.K fd ps []) (tk : Takes X W)
    (hg : Gl X y := by rfl) (hK : X.K = G.K := by rfl) (hdb : (y == ("__debug__" : Str)) = false := by decide) :
    OkE X G W (.Call (.Name y p) [] [] pos) (mCB F aNil) := by
  refine ⟨fun pins s σ H Q I ⟨ρ, sd, h, S, A, q⟩ => ?_⟩
  refine wpAny_Call_Name_kw (ld_glob I hg hm ?_ hdb)
  have hk' : PySem.W.keepIn X.K (.ref f) = true := by rw [hK]; exact hk
  have key : wpAny (model X.prog X.w) X.A (call (.ref f) []) (EP X pins σ Q) X.xe s := run_fnO F1 hr hgd (hK ▸ hb) tk I .nil A .nil q hK
  exact PySem.W.callWith_K0 I.kIn hk' key
end
end RX

set_option Elab.async false
set_option linter.all false
set_option maxRecDepth 100000
set_option maxHeartbeats 2000000
namespace RX
open PySem PySem.Spec PyProof.Rows L2
open PySem.W (Frag keepIn findIn excInitIn isFn codeIn clsIn mroIn nsIn subIn typeIn ks_superIn ksFn ksEnv exmOne)
/-! ### own exceptions whose __init__ says super().__init__('..') -/
def initArgs (p : Pos) : Arguments := ⟨[], [⟨"self", none, p⟩], none, [], [], none, []⟩
def initBody (t : Str) (j : Nat) (p0 p1 p2 p3 p4 p5 : Pos) : List Stmt := [.Expr (.Call (.Attribute (.Call (.Name "super" p0) [] [] p1) "__init__" p2) [.Constant (.str t) j p3] [] p4) p5]
def initScope : Scope := ⟨.function, [("self", .local), ("__class__", .free), ("super", .globalImplicit)], false, false, []⟩
def veBase : List Value := [.type "ValueError", .type "Exception", .type "BaseException", .type "object"]
theorem sup_he (p4 p3 p2 p0 p1 : Pos) (t : Str) (j : Nat) (env : Env) (hp : (p2.endLine == p4.line) = true) : eval (.Call (.Attribute (.Call (.Name "super" p0) [] [] p1) "__init__" p2) [.Constant (.str t) j p3] [] p4) env = (do
      let ov ← attributeBase (.Call (.Name "super" p0) [] [] p1) "__init__" env (eval (.Call (.Name "super" p0) [] [] p1) env)
      standAt p2.atName
      let (f, first) ← holding [ov] (getMethod ov "__init__" (do return (← importBound (.Call (.Name "super" p0) [] [] p1) env).getD true))
      callWith p4 f first (backTo p4 (starEach [.Constant (.str t) j p3] env)) []) := by
  show (do
    let ov ← attributeBase (.Call (.Name "super" p0) [] [] p1) "__init__" env (eval (.Call (.Name "super" p0) [] [] p1) env)
    standAt p2.atName
    methodCall (.Call (.Name "super" p0) [] [] p1) "__init__" p2 p4 env ov 1 (backTo p4 (starEach [.Constant (.str t) j p3] env)) []) = _
  have e : ∀ ov, methodCall (.Call (.Name "super" p0) [] [] p1) "__init__" p2 p4 env ov 1 (backTo p4 (starEach [.Constant (.str t) j p3] env)) [] = (do
      let (f, first) ← holding [ov] (getMethod ov "__init__" (do return (← importBound (.Call (.Name "super" p0) [] [] p1) env).getD true))
      callWith p4 f first (backTo p4 (starEach [.Constant (.str t) j p3] env)) []) := fun ov => by
    unfold methodCall methodCallPos
    rw [hp, Bool.or_true, if_pos rfl]
    rfl
  simp only [e]
/-- what the class at C says -/
structure SupC (prog : Program) (K : Frag) (C : Addr) : Prop where
  kC : keepIn K (.ref C) = true
  ex : excInitIn K C veBase "ValueError.__new__" = true
  fn : ∃ (fI cc cda : Addr) (oc : Value) (od : Option Addr) (kV doc pm ct : Value) (an : Option Addr) (osl : Array (Option Value)) (qual t : Str) (j : Nat) (pa p0 p1 p2 p3 p4 p5 : Pos) (vs : Array Value) (file : Str) (tf : Tok) (ccl : Value) (cdd : Option Addr) (ccs : Array (Option Value)) (cl : Value) (cld : Option Addr) (csl : Array (Option Value)),
    findIn K (.ref C) "__init__" = some (some (.ref fI)) ∧ isFn K (.ref fI) = true ∧ K.lookup fI = some ⟨oc, od, .func (ksFn "__init__" qual (initArgs pa) (initBody t j p0 p1 p2 p3 p4 p5) initScope .none kV doc pm an (.ref cda) ct cc), osl⟩ ∧ codeIn K (.ref cda) qual = true ∧
      K.lookup cda = some ⟨ccl, cdd, .fields vs, ccs⟩ ∧ vs[2]? = some (.str file tf) ∧ ((prog.main.file : Str) == file) = true ∧ K.lookup cc = some ⟨cl, cld, .cell (some (.ref C)), csl⟩ ∧ (p2.endLine == p4.line) = true
  top : (prog.main.scope.names.lookup ("super" : Str)).isSome = false
  cls : (clsIn K C).isSome = true
  mro : mroIn K C (.ref C) = some true
  sup : nsIn K mainGlobals "super" = some none
  opq : nsIn K cStatics "thirdparty.any" = some none
  sin : ks_superIn K C C "__init__" = some (some (.builtin "ValueError.__init__"))
  sub : subIn K (.ref C) (.type "ValueError") = some true
  sbe : subIn K (.ref C) (.type "BaseException") = some true
  typ : typeIn K (.ref C) = some (.type "type")
section
variable {X : Cx} {C : Addr} {pins : List (Addr × Obj)} {σ : L2.St} {H : Hp} {s : Shared}
open PySem.W in
theorem call_sup (I : Inv X pins σ H s) (S : SupC X.prog X.K C) {k : Nat} (hroom : Room (k + 1) X.A) {Q : Value → Shared → Prop}
    (h : ∀ e t h' tk, (∀ b o, s.heap.get? b = some o → h'.get? b = some o) → s.heap.get? e = none → h'.get? e = some (excObj C t none .none) → Q (.ref e) { s with heap := h', toks := tk }) : wpAny (model X.prog X.w) X.A (call (.ref C) []) Q X.xe s := by
  have X₀ := I.kIn
  obtain ⟨fI, cc, cda, oc, od, kV, doc, pm, ct, an, osl, qual, t, j, pa, p0, p1, p2, p3, p4, p5, vs, file, tf, ccl, cdd, ccs, cl, cld, csl, hi, hf, lk, hcd, hcode, hvs, hfile, hcell, hpos⟩ := S.fn
  obtain ⟨cdD, hD⟩ := Option.isSome_iff_exists.mp S.cls
  obtain ⟨nm, N', qn, bs, bm, hdct, sn, sub, ab, col, dd, k0, k1, k2, k3, k5, hC, hT⟩ := excInit_of X₀ S.ex
  obtain ⟨oI, hoI, hcI⟩ : ∃ oI, s.heap.get? fI = some oI ∧ oI.cls = .type "function" := by
    obtain ⟨o, ho, hc⟩ := Option.map_eq_some_iff.mp (show (X.K.lookup fI).map (·.cls) = some (.type "function") from beq_iff_eq.mp hf)
    exact ⟨o, X₀ _ _ ho, hc⟩
  have hi' : Looks (model X.prog X.w) s.heap (typeLookup (.ref C) "__init__") (some (.ref fI)) := looks_findIn X₀ hi
  obtain ⟨t0, ht0⟩ : ∃ t0, t0 = s.heap.objs.size := ⟨_, rfl⟩
  obtain ⟨e, hee⟩ : ∃ e, e = s.heap.objs.size + 1 := ⟨_, rfl⟩
  obtain ⟨h1, hh1⟩ : ∃ h1, h1 = (s.heap.push (excTup [])).push (excObj C s.heap.objs.size none .none) := ⟨_, rfl⟩
  have kk1 : ∀ b o, s.heap.get? b = some o → h1.get? b = some o := fun b o z => by rw [hh1]; exact Heap.get?_push_of_some _ (Heap.get?_push_of_some _ z)
  have ge1 : h1.get? e = some (excObj C t0 none .none) := by
    rw [hh1, hee, ht0]
    exact Heap.get?_push_at (by rw [Heap.size_push]) rfl
  have gt1 : h1.get? t0 = some (excTup []) := by
    rw [hh1, ht0]
    exact Heap.get?_push_of_some _ (Heap.get?_push_at rfl rfl)
  have sz01 : s.heap.objs.size ≤ h1.objs.size := by rw [hh1, Heap.size_push, Heap.size_push]; omega
  have hne : e ≠ t0 := by rw [hee, ht0]; exact Nat.succ_ne_self _
  have fe : s.heap.get? e = none := by
    cases z : s.heap.get? e with
    | none => rfl
    | some o => have := Heap.lt_size z; rw [hee] at this; exact absurd this (Nat.not_lt.mpr (Nat.le_succ _))
  have ft : s.heap.get? t0 = none := by
    cases z : s.heap.get? t0 with
    | none => rfl
    | some o => have := Heap.lt_size z; rw [ht0] at this; exact absurd this (Nat.lt_irrefl _)
  suffices hh : codeAny (model X.prog X.w) (X.A.under (.builtin "type.__call__" ⟨[.ref C], []⟩)) (.call (.ref fI) ⟨[.ref e], []⟩) (InitBack e fun r s' => match r with | .ok (.ret v) => Q v s' | .ok _ => False | .error x => X.xe x s') { s with heap := h1 } by
    obtain ⟨hp, g, d, tk, os⟩ := s
    refine wpAny_call (PX.call_own F.excBase_ValueError hT hC hi' (fun self => exc_bind hoI hcI self) (by show 0 ≤ sizeLine; exact Nat.zero_le _) (codeAny_mono (by rw [hee, hh1] at hh; exact hh) fun r s' z => ?_))
    rcases r with x | (v | _ | _ | _) <;> first | exact z | exact z.elim
  have K1 : X.K.In h1 := X₀.keeps kk1
  have lim1 : h1.NoLimit := I.nolimit.keeps kk1
  have hcellN : ∀ x ∈ initScope.names, x.2 ≠ NameKind.cell := by decide
  have hlocN : ∀ y ∈ [(("self" : Str), Value.ref e)], initScope.names.lookup y.1 = some .local := fun y hy => by
    rcases List.mem_cons.mp hy with z | z
    · subst z; rfl
    · cases z
  refine ks_codeAny_call_defAt (fd := ksFn "__init__" qual (initArgs pa) (initBody t j p0 p1 p2 p3 p4 p5) initScope .none kV doc pm an (.ref cda) ct cc) (body := initBody t j p0 p1 p2 p3 p4 p5) (binds := [("self", .ref e)]) ?_ (K1 _ _ lk) rfl lim1 (codeRec_of K1 hcd) rfl (BindsTo.of_eq rfl) hcellN hlocN (fun h2 hns2 hk2 => ?_)
  · exact (Room.make hroom C [] []).depth
  have F2 : Fr s.heap h1.objs.size h2 (fun x => [(("self" : Str), Value.ref e)].reverse.lookup x) := ⟨hns2, fun b o z => hk2 b o (kk1 b o z), sz01⟩
  have N2 : News s.heap h1.objs.size h2 [(e, excObj C t0 none .none), (t0, excTup [])] := fun p hp => by
    rcases List.mem_cons.mp hp with z | z
    · subst z; exact ⟨hk2 _ _ ge1, Nat.ne_of_lt (Heap.lt_size ge1), fe⟩
    · rcases List.mem_cons.mp z with z | z
      · subst z; exact ⟨hk2 _ _ gt1, Nat.ne_of_lt (Heap.lt_size gt1), ft⟩
      · cases z
  have K2 : X.K.In h2 := X₀.keeps F2.keep
  have I2 : InstAt h2 e (excObj C t0 none .none) C none := InstAt.of_exc0 N2 (by simp)
  obtain ⟨mb, hnb, hbb⟩ := I.ok.mod.blt
  have hms : X.mg "super" = none := mg_none_of I.ok.mod.kin I.ok.mod.glob S.sup
  refine ks_wpAt_execs_cons (ks_wpAt_Expr_any (ks_wpAt_MethodCall ?_ (sup_he _ _ _ _ _ _ _ _ hpos)) rfl rfl)
  refine ks_wpAt_super_base rfl rfl (by decide) rfl (K2 _ _ lk) rfl rfl rfl (K2 _ _ hcode) rfl hvs hfile S.top ?_
  refine ks_loadName_global rfl rfl (PySem.Calls.loadGlobal_builtin (mg := X.mg) (mb := mb) ((I.mod.glob.keeps I.bk).keeps F2.keep) hms ((hnb.keeps I.bk).keeps F2.keep) ((hbb _ (by decide +kernel)).trans (by kernel_rfl)) ⟨rfl, ?_⟩)
  refine wpAny_loadName_free rfl rfl rfl ⟨_, K2 _ _ hcell, rfl⟩ ?_
  refine wpAny_loadName_local rfl rfl F2.ns rfl ?_
  obtain ⟨oD, hD1, hD2⟩ : ∃ oD, h2.get? C = some oD ∧ oD.data = .cls cdD := by
    unfold clsIn at hD
    split at hD
    · rename_i c d cd' sl ho
      cases hD
      exact ⟨_, K2 _ _ ho, rfl⟩
    · cases hD
  refine ks_wpAny_isType_cls hD1 hD2 ⟨rfl, ?_⟩
  refine ks_wpAny_call_super hD1 hD2 I2.at_ I2.cls (fun c e => by cases e) (looks_mroIn K2 S.mro) (fun h3 e3 k3 => ?_)
  obtain ⟨F3, N3, l3⟩ := ks_newsPush (s := ⟨h2, s.gens, s.drawn, s.toks + 1, s.os⟩) F2 N2 rfl e3 k3
  have I3 : InstAt h3 e (excObj C t0 none .none) C none := InstAt.of_exc0 N3 (by simp)
  refine kxs_method kxs_ValueError F3 X₀ N3 List.mem_cons_self I3 S.opq S.sin S.sub (by decide) (fun q h4 F4 N4 l4 => ?_)
  refine kxs_callWith1 (s := ⟨h4, s.gens, s.drawn, s.toks + 1 + 1, s.os⟩) N4 List.mem_cons_self ?_
  refine Calls.spliced_cons (Calls.Constant_str (k := j) (pos := p3) (Calls.spliced_nil ⟨kxs_at N4 List.mem_cons_self, ?_⟩))
  have ne1 : ∀ p ∈ [(e, excObj C t0 none .none), (t0, excTup [])], p.1 < h2.objs.size := l3
  have ne2 : ∀ p ∈ (h2.objs.size, ks_superObj C e C) :: [(e, excObj C t0 none .none), (t0, excTup [])], p.1 < q := l4
  have hq : q ≠ e := fun z => by have := ne2 (e, excObj C t0 none .none) (by simp); rw [z] at this; exact Nat.lt_irrefl _ this
  have hso : h2.objs.size ≠ e := fun z => by have := ne1 (e, excObj C t0 none .none) (by simp); rw [z] at this; exact Nat.lt_irrefl _ this
  refine kxs_call (s := ⟨h4, s.gens, s.drawn, _, s.os⟩) F4 X₀ N4 F.excBase_ValueError S.ex List.mem_cons_self (.tail hq (.tail hso (.head (by intro p hp; rcases List.mem_cons.mp hp with z | z; (subst z; exact fun y => hne y.symm); cases z)))) (by show 1 ≤ sizeLine; rw [sizeLine_eq]; omega) (fun t' h5 F5 N5 l5 => ?_)
  refine wpAt_of_wpAny (wpAny_execs_nil ⟨rfl, ?_⟩)
  exact h e t' h5 _ F5.keep fe (N5 (e, excObj C t' none .none) (by simp)).1
/-- X() -/
theorem pmk_sup {k : Nat} {x : Str} {p pos : Pos} (S : SupC X.prog X.K C) (hr : Room (k + 1) X.A) (gC : X.mg x = some (.ref C)) (hg : Gl X x := by rfl)
    (hdb : (x == ("__debug__" : Str)) = false := by decide) : PMk X (.Call (.Name x p) [] [] pos) (fun _ H Q => Q (.ref C) none H) := by
  intro pins s σ H Q I h
  refine wpAny_Call_Name_kw (ld_glob I hg gC ?_ hdb)
  have key : wpAny (model X.prog X.w) X.A (call (.ref C) []) (MkP X pins σ Q) X.xe s := by
    refine call_sup I S hr fun e t h' tk kp ne he => ?_
    exact ⟨e, _, _, s, H, .ref C, none, rfl, I, kp, ne, he, ⟨rfl, rfl⟩, rfl, rfl, I.hok.gone ne, rfl, I.bare, raises_own S.sbe S.typ, h⟩
  exact PySem.W.callWith_K0 I.kIn S.kC key
/-- raise X() -/
def sRaise (c : Nat) : MS := fun s h => .exc c s h
theorem okRaise {G : Gc} {W : WX} {c k : Nat} {x : Str} {p p1 pos : Pos} (hc : X.calm = true) (tk : Takes X W) (S : SupC X.prog G.K (G.ca c)) (hr : Room (k + 1) X.A) (gC : X.mg x = some (.ref (G.ca c))) (hK : X.K = G.K := by rfl) (hg : Gl X x := by rfl)
    (hdb : (x == ("__debug__" : Str)) = false := by decide) : OkS X G W (.Raise (some (.Call (.Name x p) [] [] p1)) none pos) (sRaise c) := by
  refine ⟨fun pins s σ H E I ⟨ρ, sd, h, SS, A, q⟩ => (ps_raise hc tk (pmk_sup (hK ▸ S) hr gC hg hdb)).run pins s σ H E I ?_⟩
  exact q σ ρ H .refl A SS
end
end RX

set_option Elab.async false
set_option linter.all false
set_option maxRecDepth 100000
set_option maxHeartbeats 2000000
namespace RX
open PySem PySem.Spec PyProof.Rows L2
/-! ### the ghost changed -/
structure SameG (G G' : Gc) : Prop where
  K : G'.K = G.K
  fa : G'.fa = G.fa
  ca : G'.ca = G.ca
  T : G'.T = G.T
section
variable {G G' : Gc} {ρ : Rh} {H : Hp}
mutual
theorem Rp.re (g : SameG G G') : ∀ {v : V} {d : D}, Rp G ρ H v d → Rp G' ρ H v d
  | _, _, .non => .non
  | _, _, .bl b => .bl b
  | _, _, .int i => .int i
  | _, _, .str x => .str x
  | _, _, .ty n => .ty n
  | _, _, .tup e r => .tup (by rw [g.K]; exact e) (RpL.re g r)
  | _, _, .arr e l r => .arr e l (RpL.re g r)
  | _, _, .scr e => .scr (by rw [g.K]; exact e)
  | _, _, .dk e l k r => .dk e l k (RpL.re g r)
  | _, _, .ref e => .ref e
  | _, _, .gone e => .gone e
  | _, _, .fn k => by rw [← g.fa]; exact .fn k
  | _, _, .cls k => by rw [← g.ca]; exact .cls k
theorem RpL.re (g : SameG G G') : ∀ {vs : List V} {ds : List D}, RpL G ρ H vs ds → RpL G' ρ H vs ds
  | _, _, .nil => .nil
  | _, _, .cons r t => .cons (Rp.re g r) (RpL.re g t)
end
theorem ObO.re (g : SameG G G') {a : Addr} {o : MO} (x : ObO G ρ H a o) : ObO G' ρ H a o := by
  cases o with
  | lst ds => obtain ⟨vs, z, r⟩ := x; exact ⟨vs, z, r.re g⟩
  | dk ks => obtain ⟨vs, z, k, r⟩ := x; exact ⟨vs, z, k, r.re g⟩
  | dead => exact x
theorem AbH.re (g : SameG G G') {h : Hd} (A : AbH G ρ H h) (i : G'.inv ρ H) : AbH G' ρ H h where
  len := A.len
  ob := fun i a e => let ⟨o, ho, x⟩ := A.ob i a e; ⟨o, ho, x.re g⟩
  gone := A.gone
  inj := A.inj
  tabs := by rw [g.T]; exact A.tabs
  hid := A.hid
  dis := A.dis
  inv := i
theorem SameG.symm (g : SameG G G') : SameG G' G := ⟨g.K.symm, g.fa.symm, g.ca.symm, g.T.symm⟩
/-- one more opaque value -/
def Gc.wth (G : Gc) (p : Addr × Nat) : Gc := { G with ex := p :: G.ex }
theorem wth_same (p : Addr × Nat) : SameG G (G.wth p) := ⟨rfl, rfl, rfl, rfl⟩
end
/-! ### try: f() / except C as e: .. -/
def dropX (s : Sl) : Sl := s.map fun o => match o with
  | some d => if d.isX then none else some d
  | none => none
/-- behind the suite: the name is gone, no slot bears an error -/
def unX (i : Nat) (r : SR) : SR := match r with
  | .nx s h => .nx ((dropX s).set i none) h
  | .rt d h => .rt d h
  | _ => .stuck
/-- the call's result; behind an error no slot is known but the error's -/
def sTryC (n i : Nat) (cat : Nat → Bool) (m : ME) (su : MS) : MS := fun s h => match m s h with
  | .ok _ h1 => .nx s h1
  | .exc c h1 => if cat c then unX i (su ((List.replicate n none).set i (some (.exc c))) h1) else .stuck
  | .stuck => .stuck
theorem AbS.dropX {G : Gc} {a : Addr × Nat} {ρ : Rh} {H : Hp} {s : Sl} {σ : L2.St} {i : Nat} (S : AbS (G.wth a) ρ H s σ) : AbS G ρ H ((RX.dropX s).set i none) (σ.set i none) := by
  have key : ∀ (j : Nat) (d : D), ((RX.dropX s).set i none)[j]? = some (some d) → s[j]? = some (some d) ∧ d.isX = false ∧ (σ.set i none)[j]? = σ[j]? := fun j d e => by
    by_cases z : i = j
    · subst z
      rw [List.getElem?_set] at e
      simp at e
    · rw [List.getElem?_set_ne z] at e ⊢
      unfold RX.dropX at e
      rw [List.getElem?_map] at e
      obtain ⟨o, e1, e2⟩ := Option.map_eq_some_iff.mp e
      cases o with
      | none => cases e2
      | some d' =>
        simp only at e2
        cases hx : d'.isX with
        | true => rw [hx] at e2; cases e2
        | false => rw [hx] at e2; cases e2; exact ⟨e1, hx, rfl⟩
  refine ⟨by rw [List.length_set, List.length_set]; unfold RX.dropX; rw [List.length_map]; exact S.len, fun j d e hx => ?_, fun j c e => ?_⟩
  · obtain ⟨e1, _, e3⟩ := key j d e
    obtain ⟨v, hv, r⟩ := S.at_ j d e1 hx
    exact ⟨v, e3.trans hv, r.re (wth_same a).symm⟩
  · obtain ⟨_, e2, _⟩ := key j _ e
    cases e2
section
variable {X : Cx} {G : Gc} {W : WX}
/-- the call of the opaque value in slot j: r at the heap h0 -/
noncomputable def actM (j k : Nat) (h0 : Hd) (r : Res D) : ME := fun s h => match s[j]? with
  | some (some (.exc c)) => open Classical in if c = k ∧ h = h0 then r else .stuck
  | _ => .stuck
/-- what is known of what is handed in: f bears the number k -/
structure ActOk (X : Cx) (G : Gc) (a : Str) (j k : Nat) (h0 : Hd) (r : Res D) : Prop where
  ok : ∀ (W : WX) (pn : List (Addr × Obj)) (xe : Value → Shared → Prop) (E : XK) (p1 p2 : Pos), Takes (X.tr pn xe) W → (∀ cls d σ' H', E cls d H' → W cls d σ' H') →
    ∃ t : TE, PE (X.tr pn xe) (.Call (.Name a p1) [] [] p2) t ∧ ∀ (σ : L2.St) (H : Hp) (ρ : Rh) (f : Addr) (Q : VK), σ[j]? = some (some (.ref f)) → (f, k) ∈ G.ex → AbH G ρ H h0 → RK G ρ H [] (fun c d _ H' => E c d H') r (KV G Q) → t σ H Q
theorem actM_is {j k : Nat} {h0 h : Hd} {r : Res D} {s : Sl} (e : actM j k h0 r s h ≠ .stuck) : s[j]? = some (some (.exc k)) ∧ h = h0 ∧ actM j k h0 r s h = r := by
  unfold actM at e ⊢
  split
  · rename_i c e0
    simp only [e0] at e
    by_cases hc : c = k ∧ h = h0
    · rw [if_pos hc]; exact ⟨by rw [e0, hc.1], hc.2, rfl⟩
    · rw [if_neg hc] at e; exact (e rfl).elim
  · rename_i e0
    split at e
    · rename_i c e1; exact (e0 c e1).elim
    · exact (e rfl).elim
theorem takes_len {X : Cx} {W : WX} (tk : Takes X W) : Takes X (fun c d σ H => σ.length = X.N.length → W c d σ H) := fun u s' x => by
  obtain ⟨a, B, sI, pins, σ, H, cls, d, e, I, nb, up, sky, na, os, ag, w⟩ := x
  exact tk u s' ⟨a, B, sI, pins, σ, H, cls, d, e, I, nb, up, sky, na, os, ag, w I.len⟩
variable {x n a : Str} {c : Value} {i j k : Nat} {suite : List Stmt} {b₀ : Stmt} {np pos pos' p1 p2 p3 : Pos} {su : MS} {cat : Nat → Bool} {h0 : Hd} {r : Res D}
theorem okTryC (hs : X.stack = X.env :: X.outer) (hf : X.env.frame = some X.env.locals) (hN : X.N.Nodup) (hi : X.N[i]? = some n) (hln : X.env.kindOf n = some .local) (hc : Names X x c) (tk : Takes X W)
    (act : ActOk X G a j k h0 r) (hcat : ∀ m, cat m = true → PySem.W.exmOne X.K (.ref (G.ca m)) c = some true) (hij : i ≠ j)
    (hsu : ∀ (ae : Addr) (oe : Obj) (m : Nat) (pn : List (Addr × Obj)), cat m = true → Zc (.ref (G.ca m)) none oe → (∃ vs, oe.data = .fields vs) → OkSs (X.suite ae ((ae, oe) :: pn)) (G.wth (ae, m)) NoW (b₀ :: suite) su)
    (hsw : swapsWith (.Call (.Name a p1) [] [] p2) none p3.line X.env = pure false := by rfl) :
    OkS X G W (.Try [.Expr (.Call (.Name a p1) [] [] p2) p3] [.ExceptHandler (some (.Name x np)) (some n) (b₀ :: suite) pos'] [] [] pos) (sTryC X.N.length i cat (actM j k h0 r) su) := by
  refine ⟨fun pins s σ H E I ⟨ρ, sd, h, S, A, q⟩ => ?_⟩
  let tb : WX → L2.TS := fun W' E σ H => ∃ ρ sd h, AbS G ρ H sd σ ∧ AbH G ρ H h ∧ (match actM j k h0 r sd h with
    | .ok _ h1 => ∀ σ' ρ' H', Pst ρ H ρ' H' → AbH G ρ' H' h1 → AbS G ρ' H' sd σ' → E.nx σ' H'
    | .exc m h1 => ∀ σ' ρ' H', Pst ρ H ρ' H' → AbH G ρ' H' h1 → σ'.length = X.N.length → W' (.ref (G.ca m)) none σ' H'
    | .stuck => False)
  let ts : Addr → Value → Option Addr → L2.TS := fun ae cls d E σ H => ∃ m, cls = .ref (G.ca m) ∧ d = none ∧ cat m = true ∧ TS_ (G.wth (ae, m)) NoW su E σ H
  refine (ps_try_as (X := X) (i := i) (tb := tb) (ts := ts) (Wout := W) hs hf hN hi hln hc tk (fun W' pn xe tk' po => ?_) (fun ae oe cls d pn hz hfl => ?_)).run pins s σ H E I ?_
  · refine pss_one ⟨fun pins s σ H E I ⟨ρ, sd, h, S, A, q⟩ => ?_⟩
    have hsw' : swapsWith (.Call (.Name a p1) [] [] p2) none p3.line (X.tr pn xe).env = pure false := hsw
    obtain ⟨t, ht, hq⟩ := act.ok _ pn xe (fun c d H' => ∀ σ' : L2.St, σ'.length = X.N.length → W' c d σ' H') p1 p2 (takes_len tk') (fun cls d σ' H' e => e σ')
    refine (ps_expr (pos := p3) ht hsw').run pins s σ H E I ?_
    have hne : actM j k h0 r sd h ≠ .stuck := fun e => by rw [e] at q; exact q
    obtain ⟨ej, rfl, er⟩ := actM_is hne
    rw [er] at q
    obtain ⟨f, hf', hex⟩ := S.ax j k ej
    refine hq σ H ρ f _ hf' hex A ?_
    cases r with
    | stuck => exact q
    | ok d h1 => exact fun ρ' H' p A' v rv => q σ ρ' H' p A' (S.mono A p)
    | exc m h1 => exact fun ρ' H' p A' σ' hl => q σ' ρ' H' p A' hl
  · refine ⟨fun pins s σ H E I ⟨m, e1, e2, hm, q⟩ => ?_⟩
    subst e1 e2
    exact (hsu ae oe m pn hm hz hfl).run pins s σ H E I q
  · refine ⟨ρ, sd, h, S, A, ?_⟩
    unfold sTryC at q
    generalize actM j k h0 r sd h = ra at q
    cases ra with
    | stuck => exact q
    | ok d h1 => exact fun σ' ρ' H' p A' S' => q σ' ρ' H' p A' S'
    | exc m h1 =>
      simp only at q
      intro σ' ρ' H' p A' hl
      cases hm : cat m with
      | false => rw [hm] at q; exact q.elim
      | true =>
        rw [hm, if_pos rfl] at q
        refine ⟨true, hcat m hm, fun _ ae hae => ?_, fun z => by cases z⟩
        have q1 := SK.shift q p
        refine ⟨m, rfl, rfl, hm, ρ', (List.replicate X.N.length none).set i (some (D.exc m)), h1, ?_, A'.re (wth_same (ae, m)) A'.inv, ?_⟩
        · refine ⟨by rw [List.length_set, List.length_set, List.length_replicate, hl], fun jj d e hx => ?_, fun jj cc e => ?_⟩
          · by_cases z : i = jj
            · subst z
              rw [List.getElem?_set] at e
              simp at e
              rw [← e.2] at hx; cases hx
            · rw [List.getElem?_set_ne z] at e
              have := List.mem_of_getElem? e
              rw [List.mem_replicate] at this
              cases this.2
          · by_cases z : i = jj
            · subst z
              rw [List.getElem?_set] at e
              simp at e
              obtain ⟨hlt, ec⟩ := e
              subst ec
              exact ⟨ae, List.getElem?_set_self (by rw [hl]; exact hlt), List.mem_cons_self⟩
            · rw [List.getElem?_set_ne z] at e
              have := List.mem_of_getElem? e
              rw [List.mem_replicate] at this
              cases this.2
        · generalize su ((List.replicate X.N.length none).set i (some (.exc m))) h1 = rs at q1
          have reA : ∀ {ρ2 : Rh} {H2 : Hp} {h2 : Hd}, AbH (G.wth (ae, m)) ρ2 H2 h2 → AbH G ρ2 H2 h2 := fun A2 => A2.re (wth_same (ae, m)).symm A2.inv
          cases rs with
          | nx s2 h2 => exact fun σ2 ρ2 H2 p2 A2 S2 => q1 _ ρ2 H2 p2 (reA A2) S2.dropX
          | rt d h2 => exact fun v ρ2 H2 p2 A2 r2 => q1 v ρ2 H2 p2 (reA A2) (r2.re (wth_same (ae, m)).symm)
          | bk s2 h2 => exact q1.elim
          | ct s2 h2 => exact q1.elim
          | exc c s2 h2 => exact q1.elim
          | stuck => exact q1.elim
/-! ### isinstance of the caught error -/
def kitV (G : Gc) : D → Option Value
  | .cls k => some (.ref (G.ca k))
  | .ty n => some (.type n)
  | _ => none
def mIsE (i : Nat) (kit : Nat → D → Option Bool) (mc : ME) : ME := fun s h => match s[i]? with
  | some (some (.exc c)) => (mc s h).bind fun d h1 => match kit c d with
    | some b => .ok (.bl b) h1
    | none => .stuck
  | _ => .stuck
theorem okIsE {G0 : Gc} {ae : Addr} {oe : Obj} {m : Nat} {pn : List (Addr × Obj)} {kit : Nat → D → Option Bool} {mc : ME} {y : Str} {cx : Expr} {pp : Pos} (hK : X.K = G0.K) (hG : G0.ex = [(ae, m)] ∨ ∃ b n, G0.ex = [(ae, m), (b, n)] ∧ ∀ d, kit n d = none)
    (C : ExcC X.K (G0.ca m)) (hz : Zc (.ref (G0.ca m)) none oe) (hfl : ∃ vs, oe.data = .fields vs) (hk : ∀ d b, kit m d = some b → ∃ cv, kitV G0 d = some cv ∧ PySem.W.kitOne X.K (.ref (G0.ca m)) cv = some b)
    (hm : X.mg "isinstance" = none) (hc : OkE (X.suite ae ((ae, oe) :: pn)) G0 W cx mc) (hi : X.N[i]? = some y := by rfl) (hv : Vis X.env.scope y := by first | exact .inl rfl | exact .inr (.inl rfl) | exact .inr (.inr rfl)) (hd : (y == ("__debug__" : Str)) = false := by decide) (hcd : (y == ("__classdict__" : Str)) = false := by decide)
    (hg : Gl X "isinstance" := by rfl) (he : starEach [.Name y p1, cx] X.env = (false, eval (.Name y p1) X.env) :: starEach [cx] X.env := by rfl) (he2 : starEach [cx] X.env = (false, eval cx X.env) :: starEach [] X.env := by rfl) (hpl : (backTo pos (starEach [cx] X.env)).any (·.1) = false := by rfl) :
    OkE (X.suite ae ((ae, oe) :: pn)) G0 W (.Call (.Name "isinstance" pp) [.Name y p1, cx] [] pos) (mIsE i kit mc) := by
  refine ⟨fun pins s σ H Q I ⟨ρ, sd, h, S, A, q⟩ => ?_⟩
  refine (pe_callB (X := X.suite ae ((ae, oe) :: pn)) (call_isE C hz hfl) hg hm (PyProof.Rows.Boot.«isinstance») (pa_cons (pe_var (i := i) hi hv hd hcd) (pa_cons hc pa_nil he2) he) (by decide) (by decide) he hpl).run pins s σ H Q I ?_
  unfold mIsE at q
  split at q
  · rename_i c e0
    obtain ⟨a', hv', hex⟩ := S.ax i c e0
    refine ⟨.ref a', hv', ?_⟩
    refine te_bind S A q fun d h1 ρ1 H1 v p S1 A1 r1 q1 => ?_
    cases hkd : kit c d with
    | none => simp only [hkd] at q1; exact q1.elim
    | some b =>
      simp only [hkd] at q1
      have hcm : c = m ∧ a' = ae := by
        rcases hG with hG | ⟨b', n, hG, hn⟩
        · rw [hG] at hex
          rcases List.mem_cons.mp hex with z | z
          · cases z; exact ⟨rfl, rfl⟩
          · cases z
        · rw [hG] at hex
          rcases List.mem_cons.mp hex with z | z
          · cases z; exact ⟨rfl, rfl⟩
          · rcases List.mem_cons.mp z with z | z
            · cases z; rw [hn] at hkd; cases hkd
            · cases z
      obtain ⟨rfl, rfl⟩ := hcm
      obtain ⟨cv, e1, e2⟩ := hk d b hkd
      refine ⟨v, cv, b, rfl, ?_, e2, q1.val A1 (.bl b)⟩
      cases r1 with
      | cls kk => cases e1; exact fun u hu => hu
      | ty nn => cases e1; exact fun u hu => hu
      | _ => cases e1
  · exact q.elim
end
end RX

set_option Elab.async false
set_option linter.all false
set_option maxRecDepth 100000
set_option maxHeartbeats 2000000
namespace RX
open PySem PySem.Spec PyProof.Rows L2
/-! ### a lambda handed to a def that calls it -/
section
variable {G G' : Gc} {ρ : Rh} {H : Hp} {σ : L2.St} {W : WX}
theorem rk_re {r : Res D} {Q : VK} (q : RK G ρ H σ W r (KV G Q)) (g : SameG G G') (i : ∀ ρ' H', Pst ρ H ρ' H' → G'.inv ρ' H' → G.inv ρ' H') : RK G' ρ H σ W r (KV G' Q) := by
  cases r with
  | ok d h => exact fun ρ' H' p A v rv => q ρ' H' p (A.re g.symm (i _ _ p A.inv)) v (rv.re g.symm)
  | exc c h => intro ρ' H' p A; rw [g.ca]; exact q ρ' H' p (A.re g.symm (i _ _ p A.inv))
  | stuck => exact q
theorem rk_noX {W' : WX} {r : Res D} {K : D → Rh → Hp → Prop} (q : RK G ρ H σ W (noX r) K) : RK G ρ H [] W' r K := by
  cases r with
  | ok d h => exact q
  | exc c h => exact q.elim
  | stuck => exact q
end
/-- the def that calls what it gets -/
structure WordOk (P : Program) (w : World) (mg : Str → Option Value) (base : Heap) (G : Gc) (k : Nat) (g : Addr) (x a : Str) (sg : Scope) (Ng : List Str) (bg : List Stmt) (bw : ME → MS) : Prop where
  ok : ∀ (cdg : Value) (A : Around) (outer : List Env) (s : Shared) (H : Hp) (G1 : Gc) (f : Addr) (h0 : Hd) (r : Res D), SameG G G1 → G1.ex = [(f, 1000)] → Room k (A.deeper (envOfC x sg s.heap.objs.size g cdg)) →
    ActOk (cxOf C8.CX0 P w G.K mg base Ng x sg g cdg A outer s H C8.E0).nox G1 a 0 1000 h0 r → OkSs (cxOf C8.CX0 P w G.K mg base Ng x sg g cdg A outer s H C8.E0).nox G1 NoW bg (bw (actM 0 1000 h0 r))
noncomputable def mLam (n : Nat) (m : ME) (bw : ME → MS) : ME := fun s h => noX (exitR h (bw (actM 0 1000 h (m s h)) (startS n [.exc 1000]) h))
section
variable {X : Cx} {G : Gc} {W : WX} {x a : Str} {g c P : Addr} {k : Nat} {pg : Arguments} {bg : List Stmt} {sg : Scope} {Ng : List Str} {fd : FuncData} {params : Arguments} {body : Expr} {scope : Scope} {p lpos pos : Pos} {m : ME} {bw : ME → MS}
def TTw (G : Gc) (n : Nat) (bw : ME → MS) : (XK → Hp → VK → Prop) → Hp → VK → Prop := fun tl H Q => ∃ (ρ : Rh) (h0 : Hd) (r : Res D), AbH G ρ H h0 ∧ (∀ (E : XK) (Q' : VK) (ρ' : Rh) (H' : Hp), Pst0 ρ H ρ' H' → AbH G ρ' H' h0 → RK G ρ' H' [] (fun c d _ H => E c d H) r (KV G Q') → tl E H' Q') ∧
  RK G ρ H [] (fun _ _ _ _ => False) (exitR h0 (bw (actM 0 1000 h0 r) (startS n [.exc 1000]) h0)) (KV G Q)
theorem word_gives {q : Str} {cdg : Value} (hK : X.K = G.K) (hr : ∀ s : Shared, Room k (X.A.deeper (envOfC x sg s.heap.objs.size g cdg))) (Wd : WordOk X.prog X.w X.mg X.base G k g x a sg Ng bg bw) (hN0 : 0 < Ng.length) :
    LamX.GivesTo X Ng x sg g cdg bg a q (TTw G Ng.length bw) := by
  intro f c' s H Q tl act hc h
  obtain ⟨ρ, h0, r, A, htl, q⟩ := h
  let G1 : Gc := { K := G.K, fa := G.fa, ca := G.ca, T := G.T, ex := [(f, 1000)], inv := fun ρ' H' => G.inv ρ' H' ∧ Pst0 ρ H ρ' H', mon := fun ρ1 H1 ρ2 H2 l p ⟨i1, i2⟩ => ⟨G.mon _ _ _ _ l p i1, i2.trans p⟩ }
  have sg1 : SameG G G1 := ⟨rfl, rfl, rfl, rfl⟩
  have hcl : ¬ live ρ c' := fun l => by
    rcases A.mut l with ⟨w, z⟩ | ⟨w, z⟩ <;> rw [hc] at z <;> cases z
  have aok : ActOk (cxOf C8.CX0 X.prog X.w G.K X.mg X.base Ng x sg g cdg X.A X.stack s H C8.E0).nox G1 a 0 1000 h0 r := ⟨fun W pn xe E p1 p2 tk hW => by
    rw [← hK] at tk ⊢
    refine ⟨_, act W pn xe E p1 p2 tk hW, fun σ H' ρ' f' Q' hs hex A' q' => ?_⟩
    have ef : f' = f := by
      rcases List.mem_cons.mp hex with z | z
      · exact congrArg Prod.fst z
      · cases z
    subst ef
    refine ⟨hs, A'.inv.2.fr _ _ hc hcl LamX.codeO_ne, htl E Q' ρ' H' A'.inv.2 (A'.re sg1.symm A'.inv.1) ?_⟩
    exact rk_re (G := G1) (G' := G) q' sg1.symm (fun ρ2 H2 p i => G1.mon _ _ _ _ A'.lvok p.toPst0 A'.inv)⟩
  refine ⟨TS_ G1 NoW (bw (actM 0 1000 h0 r)), ?_, ?_⟩
  · rw [hK]
    exact Wd.ok cdg X.A X.stack s H G1 f h0 r sg1 rfl (hr s) aok
  · refine ⟨ρ, startS Ng.length [.exc 1000], h0, ⟨?_, fun i d e hx => ?_, fun i cc e => ?_⟩, A.re sg1 ⟨A.inv, Pst.refl.toPst0⟩, ?_⟩
    · unfold startS L2.start; simp
    · unfold startS at e
      cases i with
      | zero => simp at e; subst e; cases hx
      | succ i =>
        simp at e
        have := List.mem_of_getElem? e
        rw [List.mem_replicate] at this
        cases this.2
    · unfold startS at e
      cases i with
      | zero => simp at e; subst e; exact ⟨f, rfl, List.mem_cons_self⟩
      | succ i =>
        simp at e
        have := List.mem_of_getElem? e
        rw [List.mem_replicate] at this
        cases this.2
    · have A1 : AbH G1 ρ H h0 := A.re sg1 ⟨A.inv, Pst.refl.toPst0⟩
      exact rk_cut (E := fun _ _ _ => False) A1 (rk_re q sg1 fun ρ' H' p i => i.1)
theorem tabs_pst {h : Hd} {ρ : Rh} {H H1 : Hp} (A : AbH G ρ H h) (e : LamX.ExtN H H1) (t : LamX.Tabs G.T H1) : Pst ρ H ρ H1 ∧ AbH G ρ H1 h := by
  have k : ∀ {b : Addr} {o : HO}, H b = some o → isMut o → H1 b = some o := fun h1 h2 => e _ _ h1 (isMut_tbl h2)
  have p : Pst ρ H ρ H1 := ⟨⟨fun a o h1 _ t => e a o h1 t, fun _ _ e => .inl e, fun _ e => e, fun _ l => .inl l, fun a o h1 _ t => ⟨o, e a o h1 t, t⟩⟩, fun a l o h1 => by
    obtain ⟨u, hu, mu⟩ := A.lvok a (.inr l)
    rw [hu] at h1; cases h1
    exact k hu mu, fun _ l => l⟩
  refine ⟨p, ⟨A.len, fun i a ei => ?_, A.gone, A.inj, t, fun a l => ?_, A.dis, G.mon _ _ _ _ A.lvok p.toPst0 A.inv⟩⟩
  · obtain ⟨o, ho, x⟩ := A.ob i a ei
    obtain ⟨u, hu, mu⟩ := A.lvok a (.inl (List.mem_of_getElem? ei))
    exact ⟨o, ho, x.mono A p ((k hu mu).trans hu.symm)⟩
  · rcases A.hid a l with ⟨w, z⟩ | ⟨w, z⟩
    · exact .inl ⟨w, k z (.inl ⟨_, rfl⟩)⟩
    · exact .inr ⟨w, k z (.inr ⟨_, rfl⟩)⟩
/-- f(lambda: body) -/
theorem okLam (hm : X.mg x = some (.ref g)) (FD : FunD G.K x x pg bg sg [] [] g fd) (hb : Binds G.K fd [a] []) (Sg : FnScope Ng [a] sg) (hNg : Ng[0]? = some a) (hva : Vis sg a) (Wd : WordOk X.prog X.w X.mg X.base G (k + 1) g x a sg Ng bg bw)
    (TB : LamX.TabB X.base X.mg c P) (hcode : X.env.code = .ref c) (hmT : (P, X.env.qual ++ "<lambda>") ∈ G.T) (hu : ∀ p ∈ G.T, p.1 = P → p.2 = X.env.qual ++ "<lambda>") (hr : Room (k + 2) X.A) (L : LamX.LamS X.env.scope scope) (hdef : defaultsOf params X.env = ([], []))
    (hbind : ∀ (q : Str) (cl : List (Str × Addr)) (pm cv ctv : Value), bindArgs (PySem.W.kla_fn "<lambda>" q params body scope cl pm cv ctv) ⟨[], []⟩ = pure [])
    (hbody : ∀ (A : Around) (outer : List Env) (s : Shared) (H : Hp) (E : XK) (f c' : Addr), Room k (A.deeper (LamX.lamEnv X scope s.heap.objs.size f c')) → OkE (LamX.lamCx X A outer s H E scope f c') G (fun c d _ H => E c d H) body m)
    (hg : Gl X x := by rfl) (hK : X.K = G.K := by rfl)
    (hdb : (x == ("__debug__" : Str)) = false := by decide) (hd : (a == ("__debug__" : Str)) = false := by decide) (hcd : (a == ("__classdict__" : Str)) = false := by decide) :
    OkE X G W (.Call (.Name x p) [.Lambda params body scope lpos] [] pos) (mLam Ng.length m bw) := by
  refine ⟨fun pins s σ H Q I ⟨ρ, sd, h, S, A, q⟩ => ?_⟩
  obtain ⟨oc, od, dV, kV, doc, pm, an, cdv, ct, osl, rfl, lk, hcg, _, _⟩ := FD.ex
  have hk : PySem.W.keepIn X.K (.ref g) = true := by rw [hK]; exact FD.kp
  refine (LamX.pe_lamcall (TT := TTw G Ng.length bw) (t := fun E => TE_ G (fun c d _ H => E c d H) m) hg hm hk (by rw [hK]; exact lk) (by rw [hK]; exact hcg) (by rw [hK]; exact hb) Sg hNg hva
    (word_gives hK (fun s => hr.deeper _) Wd (List.getElem?_eq_some_iff.mp hNg).1) TB hcode hmT hu hr L hdef hbind (fun A outer s H E f c' r => hbody A outer s H E f c' r) hdb hd hcd).run pins s σ H Q I ?_
  refine ⟨A.tabs, fun H1 eN T1 => ?_⟩
  obtain ⟨p1, A1⟩ := tabs_pst A eN T1
  refine ⟨ρ, h, m sd h, A1, fun E Q' ρ' H' p' A' q' => ⟨ρ', sd, h, (S.mono A p1).mono0 A1 p', A', q'⟩, ?_⟩
  exact rk_noX (q.shift p1)
end
end RX

set_option Elab.async false
set_option linter.all false
set_option maxRecDepth 100000
set_option maxHeartbeats 2000000
namespace RX
open PySem PySem.Spec PyProof.Rows L2
open PySem.W (Frag CodeHd)
/-! ### the end of a law row: the law's def called on the script -/
/-- what stands at the law's call: the script at a, the empty tables at tb -/
structure Sc (K : Frag) (s : Shared) (a : Addr) (vs : List Value) (ns : List Int) (tb : List Addr) : Prop where
  scr : s.heap.get? a = some { cls := .type "list", data := .seq vs.toArray }
  isInts : IntsAre vs ns
  short : ns.length ≤ sizeLine
  tabs : ∀ t ∈ tb, s.heap.get? t = some { cls := .none, data := .fields #[] }
  out : ∀ t ∈ tb, K.lookup t = none
/-- the abstract heap there -/
def Hs (K : Frag) (a : Addr) (vs : List Value) (ns : List Int) (tb : List Addr) : Hp := fun b =>
  if b ∈ tb then some (.tbl #[]) else if b = a ∧ K.lookup a = none then some (.frz { cls := .type "list", data := .seq vs.toArray } (.lst (ns.map V.int))) else none
section
variable {P : Program} {w : World} {K : Frag} {s : Shared} {a : Addr} {vs : List Value} {ns : List Int} {tb : List Addr} {mg mb : Str → Option Value}
theorem Sc.ne (S : Sc K s a vs ns tb) : a ∉ tb := fun m => by
  have e := S.tabs a m
  rw [S.scr] at e
  have z : (Data.seq vs.toArray : Data) = Data.fields #[] := congrArg Obj.data (Option.some.inj e)
  cases z
theorem Hs.tab {t : Addr} (m : t ∈ tb) : Hs K a vs ns tb t = some (.tbl #[]) := if_pos m
theorem Hs.cases {b : Addr} {u : HO} (e : Hs K a vs ns tb b = some u) : (b ∈ tb ∧ u = .tbl #[]) ∨ (b = a ∧ K.lookup a = none ∧ u = .frz { cls := .type "list", data := .seq vs.toArray } (.lst (ns.map V.int))) := by
  unfold Hs at e
  by_cases m : b ∈ tb
  · rw [if_pos m] at e; cases e; exact .inl ⟨m, rfl⟩
  · rw [if_neg m] at e
    by_cases z : b = a ∧ K.lookup a = none
    · rw [if_pos z] at e; cases e; exact .inr ⟨z.1, z.2, rfl⟩
    · rw [if_neg z] at e; cases e
theorem Sc.hok (S : Sc K s a vs ns tb) : HOk P w (Hs K a vs ns tb) s.heap := fun b u e => by
  rcases Hs.cases e with ⟨m, rfl⟩ | ⟨rfl, _, rfl⟩
  · exact S.tabs b m
  · exact ⟨S.scr, by rw [List.length_map]; exact S.short, vs, _, vals_ints S.isInts, S.scr⟩
/-- what is tracked is the script or a table -/
theorem Sc.kind (S : Sc K s a vs ns tb) {b : Addr} {o : Obj} (e : s.heap.get? b = some o) (h1 : ∀ xs n, o.data ≠ .seq xs n) (h2 : o.data ≠ .fields #[]) : Hs K a vs ns tb b = none := by
  cases q : Hs K a vs ns tb b with
  | none => rfl
  | some u =>
    rcases Hs.cases q with ⟨m, _⟩ | ⟨rfl, _, _⟩
    · rw [S.tabs b m] at e; cases e; exact (h2 rfl).elim
    · rw [S.scr] at e; cases e; exact (h1 _ _ rfl).elim
theorem Sc.kin (S : Sc K s a vs ns tb) (k : K.In s.heap) : K.In (hidT s.heap (Hs K a vs ns tb)) := fun b o e => hidT_get (k b o e) (by
  cases q : Hs K a vs ns tb b with
  | none => rfl
  | some u =>
    rcases Hs.cases q with ⟨m, _⟩ | ⟨rfl, n, _⟩
    · rw [S.out b m] at e; cases e
    · rw [n] at e; cases e)
theorem Sc.nsK (S : Sc K s a vs ns tb) {L : Addr} {m : Str → Option Value} (n : s.heap.Ns L m) : (hidT s.heap (Hs K a vs ns tb)).Ns L m := by
  obtain ⟨o, es, ep, e, hd, r⟩ := n
  exact ⟨o, es, ep, hidT_get e (S.kind e (fun xs k z => by rw [hd] at z; cases z) fun z => by rw [hd] at z; cases z), hd, r⟩
theorem Sc.code (S : Sc K s a vs ns tb) {c t : Addr} (h : CodeHd s.heap c t) : CodeHd (hidT s.heap (Hs K a vs ns tb)) c t := by
  obtain ⟨o, us, file, tf, flags, tg, inF, text, tt, e1, r1, r2, r3, r⟩ := h
  exact ⟨o, us, file, tf, flags, tg, inF, text, tt, hidT_get e1 (S.kind e1 (fun xs k z => by rw [r2] at z; cases z) fun z => by rw [r2] at z; cases z; simp at r3), r1, r2, r3, r⟩
variable {cs : List (Addr × Addr)}
theorem end_call {G : Gc} {k : Nat} {fa : Addr} {fd : FuncData} {x : Str} {F : MF} {h' : Hd} (S : Sc K s a vs ns (cs.map (·.2))) (k0 : K.In s.heap) (ng : s.heap.Ns mainGlobals mg) (nb : s.heap.Ns builtinsNs mb) (hb : ∀ x : Str, x ≠ "__name__" → mb x = bootBuiltins x)
    (lim : s.heap.NoLimit) (gens : s.gens = #[]) (C : ∀ p ∈ cs, CodeHd s.heap p.1 p.2)
    (hbm : ∃ (bm : Addr) (ob : Obj), mg "__builtins__" = some (.ref bm) ∧ bm ≠ builtinsNs ∧ s.heap.get? bm = some ob ∧ ob.cls = .type "module" ∧ ob.dict = some builtinsNs ∧ ob.data = .plain)
    (hr : Room k callerA) (gK : G.K = K) (gT : ∀ q ∈ G.T, q.1 ∈ cs.map (·.2)) (gi : ∀ ρ H, G.inv ρ H)
    (Fn : ∀ base : Heap, K.In base → base.Ns mainGlobals mg → (∀ p ∈ cs, LamX.TabB base mg p.1 p.2) → FnO P w mg base G true k fa fd [x] F) (bind : ∀ (s : Shared) (u : Value), BindsTo s fd ⟨[u], []⟩ [(x, u)])
    (hF : F [.scr ns] [] = .ok (.bl true) h') :
    codeAny (model P w) callerA (.call (.ref fa) ⟨[.ref a], []⟩) (fun r s' => r = .ok (.ret (.bool true)) ∧ OldK s.heap s'.heap ∧ s'.os = s.os ∧ AllBare s'.gens) s := by
  generalize hH : Hs K a vs ns (cs.map (·.2)) = H
  have tabOf : ∀ p ∈ cs, p.2 ∈ cs.map (·.2) := fun p hp => List.mem_map.mpr ⟨p, hp, rfl⟩
  have hok : HOk P w H s.heap := hH ▸ S.hok
  have kb : K.In (hidT s.heap H) := hH ▸ S.kin k0
  have gb : (hidT s.heap H).Ns mainGlobals mg := hH ▸ S.nsK ng
  have M : L2.Mod K mg (hidT s.heap H) := ⟨kb, gb, ⟨mb, hH ▸ S.nsK nb, hb⟩, let ⟨m, h1, h2⟩ := lim; ⟨m, hH ▸ S.nsK h1, h2⟩⟩
  have TB : ∀ p ∈ cs, LamX.TabB (hidT s.heap H) mg p.1 p.2 := fun p hp => by
    have tp := S.tabs _ (tabOf p hp)
    refine ⟨hH ▸ S.code (C p hp), ?_, fun z => ?_⟩
    · obtain ⟨bm, ob, b1, b2, b3, b4, b5, b6⟩ := hbm
      refine ⟨bm, ob, b1, b2, fun z => ?_, fun z => ?_, ?_, b4, b5, b6⟩
      · obtain ⟨o, es, ep, e, hd, _⟩ := ng
        rw [z, e] at b3; cases b3
        rw [hd] at b6; cases b6
      · rw [z, tp] at b3; cases b3; cases b6
      · rw [← hH]
        exact hidT_get b3 (S.kind b3 (fun xs k z => by rw [b6] at z; cases z) fun z => by rw [b6] at z; cases z)
    · obtain ⟨o, es, ep, e, hd, _⟩ := ng
      rw [z, tp] at e; cases e; cases hd
  have e0 : Env0 P w G.K mg (hidT s.heap H) callerA [] s H := gK ▸ ⟨rfl, M, fun b o e => of_hidT e, Nat.le_of_eq (hidT_size _ _), trivial, fun b hb => absurd (show b ∈ ([] : List Addr) from hb) (by simp), hok, .of_eq gens⟩
  have A : AbH G ⟨[], []⟩ H [] := ⟨rfl, fun i a e => by simp at e, fun i e => by simp at e, fun i j a e => by simp at e, fun q hq => LamX.TabS.nil (by rw [← hH]; exact Hs.tab (gT q hq)), fun a l => by simp at l, fun a l => by simp at l, gi _ _⟩
  have nlv : ∀ b, ¬ live ⟨[], []⟩ b := fun b l => by rcases l with l | l <;> simp at l
  have ra : Rp G ⟨[], []⟩ H (.ref a) (.scr ns) := by
    refine .scr ?_
    cases q : K.lookup a with
    | none =>
      refine .inl ⟨.inr ⟨{ cls := .type "list", data := .seq vs.toArray }, ?_⟩, nlv a⟩
      rw [← hH]
      unfold Hs
      rw [if_neg S.ne, if_pos ⟨rfl, q⟩]
    | some o =>
      refine .inr fun H' => .inr ?_
      have e := k0 a o q
      rw [S.scr] at e; cases e
      rw [gK]
      exact ⟨_, vs.toArray, _, q, rfl, rfl, rfl, by rw [List.size_toArray, S.isInts.length]; exact S.short, by simpa using vals_ints S.isInts⟩
  refine codeAny_mono ((Fn _ kb gb TB).run callerA [] s H ⟨[.ref a], []⟩ [.ref a] [.ref a] (fun v _ => v = .bl true) (fun _ _ _ => False) ⟨[], []⟩ [] [.scr ns] hr (fun _ => rfl) e0 (bind s (.ref a)) (.cons rfl .nil) A (.cons ra .nil) ?_) fun r s' h => ?_
  · rw [hF]
    exact fun ρ' H' p A' v rv => rv.bl_of
  · cases r with
    | error e =>
      obtain ⟨_, _, _, _, _, _, _, _, _, _, _, _, z⟩ := (show L2.CX P w [] H s (fun _ _ _ => False) e s' from h)
      exact z.elim
    | ok fl =>
      cases fl with
      | next => exact False.elim h
      | brk => exact False.elim h
      | cont => exact False.elim h
      | ret u =>
        obtain ⟨v, H', os, bare, un, ok', r', q⟩ := h
        obtain rfl : v = .bl true := q
        obtain rfl : u = Value.bool true := r'
        -- what is tracked is found again
        have keepT : ∀ t ∈ cs.map (·.2), ∃ more : Array Value, s'.heap.get? t = some { cls := .none, data := .fields more } := fun t ht => by
          obtain ⟨more, z⟩ := un.tbls t #[] (by rw [← hH]; exact Hs.tab ht)
          exact ⟨_, ok' t _ z⟩
        have keepO : ∀ b o, b ∉ cs.map (·.2) → s.heap.get? b = some o → s'.heap.get? b = some o := fun b o nb e => by
          cases q : H b with
          | none => exact un.keep b o e q (by intro z; exact absurd (show b ∈ ([] : List Addr) from z) (by simp)) (by simp)
          | some u =>
            rw [← hH] at q
            rcases Hs.cases q with ⟨m, _⟩ | ⟨rfl, _, rfl⟩
            · exact (nb m).elim
            · rw [S.scr] at e; cases e
              exact (ok' b _ (un.frzs b _ _ (hH ▸ q))).1
        refine ⟨rfl, ⟨fun b o e => ?_, fun b o e => ?_⟩, os, bare⟩
        · by_cases hb : b ∈ cs.map (·.2)
          · obtain ⟨more, hm⟩ := keepT b hb
            obtain ⟨p, hp, rfl⟩ := List.mem_map.mp hb
            have tp := S.tabs _ hb
            rw [tp] at e; cases e
            exact .inr (.inl ⟨((C p hp).tab tp).isCodeTable, rfl, #[], more, rfl, by rw [Array.empty_append]; exact hm⟩)
          · exact .inl (keepO b o hb e)
        · by_cases hb : b ∈ cs.map (·.2)
          · obtain ⟨more, hm⟩ := keepT b hb
            exact ⟨_, hm⟩
          · exact ⟨o, keepO b o hb e⟩
end
/-- what the head's facts give of the law's def -/
def LawSays (l : PySem.W.OpenLaw) (w : World) (K : Frag) (k n : Nat) (x : Str) (mg : Str → Option Value) (fa : Addr) (h : Heap) : Prop :=
  ∃ (G : Gc) (fd : FuncData) (cs : List (Addr × Addr)) (F : MF), G.K = K ∧ (∀ q ∈ G.T, q.1 ∈ cs.map (·.2)) ∧ (∀ ρ H, G.inv ρ H) ∧ (∀ p ∈ cs, h.get? p.2 = some { cls := .none, data := .fields #[] }) ∧ (∀ p ∈ cs, K.lookup p.2 = none) ∧ (∀ p ∈ cs, CodeHd h p.1 p.2) ∧ (∀ (s : Shared) (u : Value), BindsTo s fd ⟨[u], []⟩ [(x, u)]) ∧
    (∀ ns : List Int, ns.length ≤ n → (∀ z ∈ ns, Builtin.Int.intBits z ≤ 1048576) → ∃ h', F [.scr ns] [] = .ok (.bl true) h') ∧
    ∀ base : Heap, K.In base → base.Ns mainGlobals mg → (∀ p ∈ cs, LamX.TabB base mg p.1 p.2) → FnO l.prog w mg base G true k fa fd [x] F
theorem walk_end {l : PySem.W.OpenLaw} {n k : Nat} {q : Program} {loose : List Str} {XP : (Str → Option Value) → Heap → Prop} {YP : World → Heap → Prop} {d : DefRec} {x : Str} (hn : l.most = some n) (hn2 : n ≤ sizeLine) (hdf : d.params.defaults = []) (hr : Room k callerA)
    (F : ∀ (w : World) (mg : Str → Option Value) (fa : Addr) (h : Heap), YP w h → h.Ns mainGlobals mg → mg d.name = some (.ref fa) → ∃ K : Frag, K.In h ∧ LawSays l w K k n x mg fa h) :
    PySem.W.WalkO q loose XP YP l.row.toRowW d [] (fun f vs => PySem.call f vs) := by
  refine Att.attach_callB hn hdf fun w s₀ s₁ mg mb fa o pm cd doc a vs ns Gr Y ho hd hcd hmg hobj hints hlen hbits hg => ?_
  obtain ⟨K, KX, G, fd, cs, Fm, gK, gT, gi, hT, nT, C, hb, hsp, hF⟩ := F w mg fa _ Y Gr.T.g hmg
  obtain ⟨h', e⟩ := hsp ns hlen hbits
  refine end_call (G := G) (F := Fm) (h' := h') ⟨hobj, hints, Nat.le_trans hlen hn2, fun t ht => ?_, fun t ht => ?_⟩ KX Gr.T.g Gr.T.b Gr.T.builtins Gr.T.nolimit hg C Gr.T.bmain hr gK gT gi hF hb e
  · obtain ⟨p, hp, rfl⟩ := List.mem_map.mp ht
    exact hT p hp
  · obtain ⟨p, hp, rfl⟩ := List.mem_map.mp ht
    exact nT p hp
end RX

set_option Elab.async false
set_option linter.all false
set_option maxRecDepth 100000
set_option maxHeartbeats 2000000
namespace RX
open PySem PySem.Spec PyProof.Rows L2 He
open PySem.W (Frag keepIn findIn excInitIn isFn codeIn clsIn mroIn nsIn subIn typeIn ks_superIn ksFn exmOne kitOne specialIn takesIn hasDictIn)
/-! ### the head's facts -/
abbrev InV : Type := Option (Str × Arguments × FuncBody × Scope × Addr × List Str × Value × Addr)
/-- the __init__ of the class x -/
def fnI (K : Frag) (x : Str) : InV := match K.lookup (ma K (ga K x) "__init__") with
  | some ⟨_, _, .func fd, _⟩ => some (fd.name, fd.params, fd.body, fd.scope, fd.globals, fd.closure.map (·.1), fd.defaults, fd.builtins)
  | _ => none
/-- an own exception: its name, the text of its __init__ -/
structure ExD where
  x : Str
  t : Str
  j : Nat
  pa : Pos
  p0 : Pos
  p1 : Pos
  p2 : Pos
  p3 : Pos
  p4 : Pos
  p5 : Pos
def ExD.val (d : ExD) : InV := some ("__init__", initArgs d.pa, .stmts (initBody d.t d.j d.p0 d.p1 d.p2 d.p3 d.p4 d.p5), initScope, mainGlobals, ["__class__"], .none, builtinsNs)
def codeFile (file : Str) (K : Frag) (cd : Value) : Bool := match cd with
  | .ref c => (match K.lookup c with
    | some ⟨_, _, .fields vs, _⟩ => (match (vs[2]? : Option Value) with
      | some (.str f _) => file == f
      | _ => false)
    | _ => false)
  | _ => false
def cellOf (K : Frag) (cl : List (Str × Addr)) (C : Addr) : Bool := match cl with
  | [q] => (match K.lookup q.2 with
    | some ⟨_, _, .cell (some (.ref D)), _⟩ => decide (D = C)
    | _ => false)
  | _ => false
def fnB (file : Str) (K : Frag) (C f : Addr) : Bool := match K.lookup f with
  | some ⟨_, _, .func fd, _⟩ => codeIn K fd.code fd.qualname && (codeFile file K fd.code && cellOf K fd.closure C)
  | _ => false
def supB (file : Str) (K : Frag) (d : ExD) : Bool :=
  keepIn K (.ref (ga K d.x)) && (excInitIn K (ga K d.x) veBase "ValueError.__new__" && (eqO (findIn K (.ref (ga K d.x)) "__init__") (some (some (.ref (ma K (ga K d.x) "__init__")))) && (isFn K (.ref (ma K (ga K d.x) "__init__")) && (fnB file K (ga K d.x) (ma K (ga K d.x) "__init__") && ((clsIn K (ga K d.x)).isSome &&
    (decide (mroIn K (ga K d.x) (.ref (ga K d.x)) = some true) && (eqO (nsIn K mainGlobals "super") (some none) && (eqO (nsIn K cStatics "thirdparty.any") (some none) && (decide (ks_superIn K (ga K d.x) (ga K d.x) "__init__" = some (some (.builtin "ValueError.__init__"))) &&
      (decide (subIn K (.ref (ga K d.x)) (.type "ValueError") = some true) && (decide (subIn K (.ref (ga K d.x)) (.type "BaseException") = some true) && (decide (typeIn K (.ref (ga K d.x)) = some (.type "type")) && (d.p2.endLine == d.p4.line)))))))))))))
theorem supC {prog : Program} {K : Frag} {d : ExD} (e : fnI K d.x = d.val) (h : supB prog.main.file K d = true) (htop : (prog.main.scope.names.lookup ("super" : Str)).isSome = false) : SupC prog K (ga K d.x) := by
  unfold supB at h
  obtain ⟨h1, h⟩ := ba h
  obtain ⟨h2, h⟩ := ba h
  obtain ⟨h3, h⟩ := ba h
  obtain ⟨h4, h⟩ := ba h
  obtain ⟨h5, h⟩ := ba h
  obtain ⟨h6, h⟩ := ba h
  obtain ⟨h7, h⟩ := ba h
  obtain ⟨h8, h⟩ := ba h
  obtain ⟨h9, h⟩ := ba h
  obtain ⟨h10, h⟩ := ba h
  obtain ⟨h11, h⟩ := ba h
  obtain ⟨h12, h⟩ := ba h
  obtain ⟨h13, h14⟩ := ba h
  refine ⟨h1, h2, ?_, htop, h6, of_decide_eq_true h7, eqO_ok h8, eqO_ok h9, of_decide_eq_true h10, of_decide_eq_true h11, of_decide_eq_true h12, of_decide_eq_true h13⟩
  unfold fnI at e
  unfold fnB at h5
  cases q : K.lookup (ma K (ga K d.x) "__init__") with
  | none => rw [q] at h5; cases h5
  | some o =>
    obtain ⟨oc, od, dt, osl⟩ := o
    rw [q] at e h5
    cases dt with
    | func fd =>
      obtain ⟨n1, n2, n3, n4, n5, n6, n7, n8, n9, n10, n11, n12, n13, n14, n15⟩ := fd
      have e2 : (some (n1, n3, n4, n5, n6, n7.map (·.1), n8, n15) : InV) = some ((("__init__" : Str), initArgs d.pa, FuncBody.stmts (initBody d.t d.j d.p0 d.p1 d.p2 d.p3 d.p4 d.p5), initScope, mainGlobals, [("__class__" : Str)], Value.none, builtinsNs) : Str × Arguments × FuncBody × Scope × Addr × List Str × Value × Addr) := e
      simp only [Option.some.injEq, Prod.mk.injEq] at e2
      obtain ⟨e1, e3, e4, e5, e6, e7, e8, e15⟩ := e2
      subst e1 e3 e4 e5 e6 e8 e15
      obtain ⟨k1, k2⟩ := ba h5
      obtain ⟨k2, k3⟩ := ba k2
      have kf : codeFile prog.main.file K n13 = true := k2
      have k3 : cellOf K n7 (ga K d.x) = true := k3
      cases n13 with
      | ref cda =>
        unfold codeFile at kf
        simp only at kf
        split at kf
        · rename_i c1 c2 vs c3 hc
          split at kf
          · rename_i f ft hvs
            cases n7 with
            | nil => cases k3
            | cons p r =>
              cases r with
              | cons _ _ => cases k3
              | nil =>
                unfold cellOf at k3
                obtain ⟨pn, pc⟩ := p
                simp only at k3
                split at k3
                · rename_i y1 y2 D y3 hcell
                  have eD : D = ga K d.x := of_decide_eq_true k3
                  subst eD
                  have en : pn = "__class__" := by simpa using e7
                  subst en
                  exact ⟨_, pc, cda, oc, od, n9, n10, n11, n14, n12, osl, n2, d.t, d.j, d.pa, d.p0, d.p1, d.p2, d.p3, d.p4, d.p5, vs, f, ft, c1, c2, c3, y1, y2, y3, eqO_ok h3, h4, q, k1, hc, hvs, kf, hcell, h14⟩
                · cases k3
          · cases kf
        · cases kf
      | _ => cases kf
    | _ => cases h5
/-- what isinstance asks of a caught error's class -/
def excB (K : Frag) (x : Str) : Bool :=
  eqO (findIn K (.ref (ga K x)) "__getattribute__") (some (some (.builtin "BaseException.__getattribute__"))) && (eqO (findIn K (.ref (ga K x)) "__getattr__") (some none) && (hasDictIn K (ga K x) && (eqO (findIn K (.ref (ga K x)) "__class__") (some (some (.builtin "object.__class__"))) &&
    (eqO (specialIn K (.builtin "object.__class__") "__get__") (some (some (.builtin "getset_descriptor.__get__"))) && (decide (takesIn K (.builtin "object.__class__") = some true) && (decide (mroIn K (ga K x) (.type "object") = some true) && decide (subIn K (.ref (ga K x)) (.type "BaseException") = some true)))))))
theorem excC {K : Frag} {x : Str} (h : excB K x = true) : ExcC K (ga K x) := by
  unfold excB at h
  obtain ⟨h1, h⟩ := ba h
  obtain ⟨h2, h⟩ := ba h
  obtain ⟨h3, h⟩ := ba h
  obtain ⟨h4, h⟩ := ba h
  obtain ⟨h5, h⟩ := ba h
  obtain ⟨h6, h⟩ := ba h
  obtain ⟨h7, h8⟩ := ba h
  exact ⟨eqO_ok h1, eqO_ok h2, of_decide_eq_true h8, h3, eqO_ok h4, eqO_ok h5, of_decide_eq_true h6, of_decide_eq_true h7⟩
/-- a fact more: exm x y: an except clause naming y takes x; kit x y b: isinstance(x's, y) is b; kitT: .. of a built-in type -/
inductive Fx where
  | sup (d : ExD) | exc (x : Str) | exm (x y : Str) | kit (x y : Str) (b : Bool) | kitT (x : Str) (T : String) (b : Bool)
def Fx.ok (file : Str) (K : Frag) : Fx → Bool
  | .sup d => supB file K d
  | .exc x => excB K x
  | .exm x y => decide (exmOne K (.ref (ga K x)) (.ref (ga K y)) = some true)
  | .kit x y b => decide (kitOne K (.ref (ga K x)) (.ref (ga K y)) = some b)
  | .kitT x T b => decide (kitOne K (.ref (ga K x)) (.type T) = some b)
/-- what is asked of the top -/
structure Ask where
  file : Str
  fa : List Fa
  fn : List DefD
  xs : List ExD
  fx : List Fx
  tf : List Defn
def frR (n : Nat) (g : Addr → Option Obj) : Frag := frT g (cStatics :: asD g n)
abbrev AlR : Type := AlD × List InV × Bool
def tabsN (K : Frag) (tf : List Defn) : Bool := decide ((tf.map fun p => (cT K p).2).Nodup)
def obsR (n : Nat) (q : Ask) (g : Addr → Option Obj) : AlR := (obsD q.fa q.fn (frR n g), q.xs.map fun d => fnI (frR n g) d.x, (q.fx.all fun f => f.ok q.file (frR n g)) && (tabsB g q.tf (frR n g) && tabsN (frR n g) q.tf))
def valR (q : Ask) : AlR := (valD q.fn, q.xs.map ExD.val, true)
structure Says (q : Ask) (h : Heap) (K : Frag) : Prop where
  d : SaysD q.fa q.fn K
  xs : q.xs.map (fun d => fnI K d.x) = q.xs.map ExD.val
  fx : ∀ f ∈ q.fx, f.ok q.file K = true
  hd : ∀ p ∈ q.tf, PySem.W.codeHdIn K (cT K p).1 (cT K p).2 = true
  out : ∀ p ∈ q.tf, K.lookup (cT K p).2 = none
  empty : ∀ p ∈ q.tf, h.get? (cT K p).2 = some { cls := .none, data := .fields #[] }
  nd : (q.tf.map fun p => (cT K p).2).Nodup
theorem says_of {n : Nat} {q : Ask} {h : Heap} (e : obsR n q h.get? = valR q) : Says q h (frR n h.get?) := by
  have e1 : obsD q.fa q.fn (frR n h.get?) = valD q.fn := congrArg (fun z : AlR => z.1) e
  have e2 : q.xs.map (fun d => fnI (frR n h.get?) d.x) = q.xs.map ExD.val := congrArg (fun z : AlR => z.2.1) e
  have e3 : ((q.fx.all fun f => f.ok q.file (frR n h.get?)) && (tabsB h.get? q.tf (frR n h.get?) && tabsN (frR n h.get?) q.tf)) = true := congrArg (fun z : AlR => z.2.2) e
  obtain ⟨h1, h2⟩ := ba e3
  obtain ⟨h2, h3⟩ := ba h2
  have key : ∀ p ∈ q.tf, PySem.W.codeHdIn (frR n h.get?) (cT (frR n h.get?) p).1 (cT (frR n h.get?) p).2 = true ∧ ∃ o, h.get? (cT (frR n h.get?) p).2 = some o ∧ emptyTab o = true := fun p hp => by
    obtain ⟨h3, h4⟩ := ba (List.all_eq_true.mp h2 p hp)
    refine ⟨h3, ?_⟩
    cases z : h.get? (cT (frR n h.get?) p).2 with
    | none => rw [z] at h4; cases h4
    | some o => rw [z] at h4; exact ⟨o, rfl, h4⟩
  refine ⟨e1, e2, List.all_eq_true.mp h1, fun p hp => (key p hp).1, fun p hp => ?_, fun p hp => ?_, of_decide_eq_true h3⟩
  · obtain ⟨_, o, z1, z2⟩ := key p hp
    exact frT_none z1 z2
  · obtain ⟨_, o, z1, z2⟩ := key p hp
    rw [z1, emptyTab_eq z2]
def hookR (n : Nat) (q : Ask) : PySem.W.Hook where
  α := AlR
  obs := fun s => obsR n q s.heap.get?
  val := fun _ => valR q
  says := fun _ h => ∃ K : Frag, K.In h ∧ Says q h K
  of := fun _ _ e => ⟨_, frT_in, says_of e⟩
  keeps := fun _ _ _ ⟨K, hK, c⟩ k => ⟨K, PySem.W.Frag.In.keeps hK k, ⟨c.d, c.xs, c.fx, c.hd, c.out, fun p hp => k _ _ (c.empty p hp), c.nd⟩⟩
theorem obsR_eq {n : Nat} {q : Ask} {g : Addr → Option Obj} {s : Shared} (h : ∀ a, g a = s.heap.get? a) : obsR n q g = (hookR n q).obs s := by
  have e : g = s.heap.get? := funext h
  rw [e]; rfl
section
variable {q : Ask} {h : Heap} {K : Frag}
theorem Says.fact (c : Says q h K) (i : Nat) {f : Fa} (e : q.fa[i]? = some f := by rfl) : f.ok K = true := c.d.fact i e
theorem Says.fn (c : Says q h K) (i : Nat) {d : DefD} (e : q.fn[i]? = some d := by rfl) : ∃ fd, FunD K d.name d.qual d.params d.body d.scope (d.dvs K) (d.kws K) (fAd K d.at_) fd := c.d.def_ i e
theorem Says.more (c : Says q h K) (i : Nat) {f : Fx} (e : q.fx[i]? = some f := by rfl) : f.ok q.file K = true := c.fx f (List.mem_of_getElem? e)
theorem Says.sup (c : Says q h K) (i j : Nat) {d : ExD} (e : q.xs[i]? = some d := by rfl) (e2 : q.fx[j]? = some (.sup d) := by rfl) : fnI K d.x = d.val ∧ supB q.file K d = true := by
  refine ⟨?_, c.more j e2⟩
  have z : (q.xs.map (fun d => fnI K d.x))[i]? = (q.xs.map ExD.val)[i]? := by rw [c.xs]
  rw [List.getElem?_map, List.getElem?_map, e] at z
  exact Option.some.inj z
end
end RX

set_option Elab.async false
set_option linter.all false
set_option maxRecDepth 100000
set_option maxHeartbeats 2000000
namespace RX
open PySem PySem.Spec PyProof.Rows L2
/-! ### defs by name -/
/-- the def x, number i, at hand -/
structure Dfn (P : Program) (w : World) (mg : Str → Option Value) (base : Heap) (G : Gc) (g : Bool) (k i : Nat) (x : Str) (ps : List Str) (F : MF) : Prop where
  at_ : mg x = some (.ref (G.fa i))
  ex : ∃ fd, FnO P w mg base G g k (G.fa i) fd ps F ∧ Binds G.K fd ps [] ∧ PySem.W.keepIn G.K (.ref (G.fa i)) = true
section
variable {G : Gc} {X : Cx} {W : WX} {g : Bool} {k i : Nat} {y : Str} {ps : List Str} {F : MF} {e : Expr} {es : List Expr} {ms : MA} {m : ME} {p pos : Pos}
theorem okF (D : Dfn X.prog X.w X.mg X.base G g k i y ps F) (hr : Room k X.A) (hgd : g = true → X.A.guards = some []) (tk : Takes X W) (ha : OkA X G W (e :: es) ms) (hg : Gl X y := by rfl) (hK : X.K = G.K := by rfl) (hdb : (y == ("__debug__" : Str)) = false := by decide)
    (he : starEach (e :: es) X.env = (false, eval e X.env) :: starEach es X.env := by rfl) (hpl : (backTo pos (starEach es X.env)).any (·.1) = false := by rfl) : OkE X G W (.Call (.Name y p) (e :: es) [] pos) (mCB F ms) := by
  obtain ⟨fd, F1, hb, hk⟩ := D.ex
  exact okCall F1 hr hgd D.at_ hk hb tk ha hg hK hdb he hpl
theorem okF0 (D : Dfn X.prog X.w X.mg X.base G g k i y ps F) (hr : Room k X.A) (hgd : g = true → X.A.guards = some []) (tk : Takes X W) (hg : Gl X y := by rfl) (hK : X.K = G.K := by rfl) (hdb : (y == ("__debug__" : Str)) = false := by decide) : OkE X G W (.Call (.Name y p) [] [] pos) (mCB F aNil) := by
  obtain ⟨fd, F1, hb, hk⟩ := D.ex
  exact okCall0 F1 hr hgd D.at_ hk hb tk hg hK hdb
/-- a built-in type's name -/
theorem okTy {x : Str} {T : String} (hm : X.mg x = none) (hv : bootBuiltins x = some (.type T)) (hg : Gl X x := by rfl) (hn : x ≠ "__name__" := by decide) (hd : (x == ("__debug__" : Str)) = false := by decide) : OkE X G W (.Name x pos) (mC (.ty T)) := okC (pe_bltn (v := .ty T) hg hm hv rfl hn hd) fun _ _ => .ty T
/-- a class of the program -/
theorem okCls {x : Str} {c : Nat} (hm : X.mg x = some (.ref (G.ca c))) (hg : Gl X x := by rfl) (hd : (x == ("__debug__" : Str)) = false := by decide) : OkE X G W (.Name x pos) (mC (.cls c)) := okC (pe_glob (v := .ref (G.ca c)) hg hm rfl hd) fun _ _ => .cls c
/-- a def's name as a value -/
theorem okFn {x : Str} {c : Nat} (hm : X.mg x = some (.ref (G.fa c))) (hg : Gl X x := by rfl) (hd : (x == ("__debug__" : Str)) = false := by decide) : OkE X G W (.Name x pos) (mC (.fn c)) := okC (pe_glob (v := .ref (G.fa c)) hg hm rfl hd) fun _ _ => .fn c
/-- a module's int -/
theorem okGi {x : Str} {n : Int} (hm : ∃ t, X.mg x = some (.int n t)) (hg : Gl X x := by rfl) (hd : (x == ("__debug__" : Str)) = false := by decide) : OkE X G W (.Name x pos) (mC (.int n)) := by
  obtain ⟨t, hm⟩ := hm
  exact okC (pe_glob (v := .int n) hg hm ⟨t, rfl⟩ hd) fun _ _ => .int n
theorem okGs {x z : Str} (hm : ∃ t, X.mg x = some (.str z t)) (hg : Gl X x := by rfl) (hd : (x == ("__debug__" : Str)) = false := by decide) : OkE X G W (.Name x pos) (mC (.str z)) := by
  obtain ⟨t, hm⟩ := hm
  exact okC (pe_glob (v := .str z) hg hm ⟨t, rfl⟩ hd) fun _ _ => .str z
/-- return of a list that was filled here: it is data from now on -/
def sRetF (i : Nat) : MS := fun s h => match frz i s h with
  | .nx s' h' => sRet (mVar i) s' h'
  | _ => .stuck
theorem okRetF {j : Nat} {e : Expr} (he : OkE X G W e (mVar j)) : OkS X G W (.Return (some e) pos) (sRetF j) := by
  refine ⟨fun pins s σ H E I ⟨ρ, sd, h, S, A, q⟩ => ?_⟩
  have q2 : SK G W ρ H { nx := fun σ' H' => TS_ G W (sRet (mVar j)) E σ' H', rt := E.rt, bk := E.bk, ct := E.ct } (frz j sd h) := by
    unfold sRetF at q
    cases e0 : frz j sd h with
    | nx s' h' => rw [e0] at q; exact fun σ' ρ' H' p A' S' => ⟨ρ', s', h', S', A', SK.shift q p⟩
    | rt d h' => rw [e0] at q; exact q.elim
    | bk d h' => rw [e0] at q; exact q.elim
    | ct d h' => rw [e0] at q; exact q.elim
    | exc c d h' => rw [e0] at q; exact q.elim
    | stuck => rw [e0] at q; exact q.elim
  exact (okRet he).run pins s σ H E I (frz_ok S A q2)
end
/-! ### dicts -/
def putD (ks : List (Key × D)) (k : Key) (d : D) : List (Key × D) := if (ks.any fun q => decide (q.1 = k)) = true then ks.map (fun q => if q.1 = k then (q.1, d) else q) else ks ++ [(k, d)]
def mergeD (ks more : List (Key × D)) : List (Key × D) := more.foldl (fun acc q => putD acc q.1 q.2) ks
def KR (G : Gc) (ρ : Rh) (H : Hp) (ws : List (Key × V)) (ks : List (Key × D)) : Prop := ws.map (·.1) = ks.map (·.1) ∧ RpL G ρ H (ws.map (·.2)) (ks.map (·.2))
section
variable {G : Gc} {ρ : Rh} {H : Hp}
theorem KR.any {k : Key} : ∀ {ws : List (Key × V)} {ks : List (Key × D)}, ws.map (·.1) = ks.map (·.1) → (ws.any fun q => decide (q.1 = k)) = (ks.any fun q => decide (q.1 = k))
  | [], [], _ => rfl
  | [], _ :: _, e => by simp at e
  | _ :: _, [], e => by simp at e
  | w :: ws, q :: ks, e => by
    simp only [List.map_cons, List.cons.injEq] at e
    rw [List.any_cons, List.any_cons, e.1, KR.any e.2]
theorem KR.map {k : Key} {v : V} {d : D} (rv : Rp G ρ H v d) : ∀ {ws : List (Key × V)} {ks : List (Key × D)}, KR G ρ H ws ks → KR G ρ H (ws.map fun q => if q.1 = k then (q.1, v) else q) (ks.map fun q => if q.1 = k then (q.1, d) else q)
  | [], [], _ => ⟨rfl, .nil⟩
  | [], _ :: _, e => by simp [KR] at e
  | _ :: _, [], e => by simp [KR] at e
  | w :: ws, q :: ks, ⟨e, r⟩ => by
    simp only [List.map_cons, List.cons.injEq] at e
    cases r with
    | cons r1 r2 =>
      obtain ⟨i1, i2⟩ := KR.map rv (ws := ws) (ks := ks) ⟨e.2, r2⟩
      refine ⟨?_, ?_⟩
      · simp only [List.map_cons, List.cons.injEq]
        refine ⟨?_, i1⟩
        by_cases z : q.1 = k
        · rw [if_pos z, if_pos (e.1.trans z)]; exact e.1
        · rw [if_neg z, if_neg (fun y => z (e.1.symm.trans y))]; exact e.1
      · simp only [List.map_cons]
        refine .cons ?_ i2
        by_cases z : q.1 = k
        · rw [if_pos z, if_pos (e.1.trans z)]; exact rv
        · rw [if_neg z, if_neg (fun y => z (e.1.symm.trans y))]; exact r1
theorem KR.put {k : Key} {v : V} {d : D} (rv : Rp G ρ H v d) {ws : List (Key × V)} {ks : List (Key × D)} (r : KR G ρ H ws ks) : KR G ρ H (putK ws k v) (putD ks k d) := by
  unfold putK putD
  rw [KR.any r.1]
  split
  · exact KR.map rv r
  · refine ⟨by rw [List.map_append, List.map_append, r.1]; rfl, ?_⟩
    rw [List.map_append, List.map_append]
    exact r.2.append (.cons rv .nil)
theorem KR.length {ws : List (Key × V)} {ks : List (Key × D)} (r : KR G ρ H ws ks) : ws.length = ks.length := by
  have := congrArg List.length r.1
  rwa [List.length_map, List.length_map] at this
theorem KR.merge : ∀ {more : List (Key × V)} {md : List (Key × D)} {ws : List (Key × V)} {ks : List (Key × D)}, KR G ρ H more md → KR G ρ H ws ks → KR G ρ H (mergeK ws more) (mergeD ks md)
  | [], [], _, _, _, r => r
  | [], _ :: _, _, _, e, _ => by simp [KR] at e
  | _ :: _, [], _, _, e, _ => by simp [KR] at e
  | m :: more, d :: md, ws, ks, ⟨e, q⟩, r => by
    simp only [List.map_cons, List.cons.injEq] at e
    cases q with
    | cons q1 q2 =>
      have r2 := KR.put (k := d.1) q1 r
      have := KR.merge (more := more) (md := md) ⟨e.2, q2⟩ r2
      show KR G ρ H (mergeK (putK ws m.1 m.2) more) (mergeD (putD ks d.1 d.2) md)
      rw [e.1]; exact this
def keyOf : D → Option Key
  | .int i => some (.inl i)
  | .str x => some (.inr x)
  | _ => none
theorem keyOf_rel {v : V} {d : D} {k : Key} (e : keyOf d = some k) (r : Rp G ρ H v d) : v = kV k := by
  cases r <;> simp [keyOf] at e <;> subst e <;> rfl
def pairOf : D → Option (Key × D)
  | .tup [a, b] => (keyOf a).map fun k => (k, b)
  | _ => none
def pairsOf : List D → Option (List (Key × D))
  | [] => some []
  | d :: ds => match pairOf d, pairsOf ds with
    | some p, some ps => some (p :: ps)
    | _, _ => none
theorem pairs_rel : ∀ {ds : List D} {vs : List V} {ks : List (Key × D)}, pairsOf ds = some ks → RpL G ρ H vs ds → ∃ (ps : List Addr) (kvs : List (Key × V)), vs = ps.map V.ref ∧ Paired (fun p kv => SqT G.K H p [kV kv.1, kv.2]) ps kvs ∧ KR G ρ H kvs ks
  | [], _, ks, e, .nil => by simp [pairsOf] at e; subst e; exact ⟨[], [], rfl, .nil, rfl, .nil⟩
  | d :: ds, _, ks, e, .cons r rs => by
    unfold pairsOf at e
    split at e
    · rename_i p ps0 e1 e2
      cases e
      obtain ⟨ps, kvs, rfl, hp, hk⟩ := pairs_rel e2 rs
      unfold pairOf at e1
      split at e1
      · rename_i a b
        obtain ⟨k, ek, rfl⟩ := Option.map_eq_some_iff.mp e1
        obtain ⟨t, ws, rfl, ht, rt⟩ := r.tup_of
        obtain ⟨x, y, rfl, rx, ry⟩ := rt.two
        obtain rfl := keyOf_rel ek rx
        exact ⟨t :: ps, (k, y) :: kvs, rfl, .cons ht hp, by simp [hk.1], .cons ry hk.2⟩
      · cases e1
    · cases e
end
section
variable {G : Gc} {X : Cx} {W : WX}
/-- dict(list of pairs) -/
def FDictP : List D → Hd → Res D := fun ds h => match ds with
  | [d] => match (lstOf h d).bind pairsOf with
    | some ks => .ok (.dk (mergeD [] ks)) h
    | none => .stuck
  | _ => .stuck
theorem fit_dictP (hc : X.calm = true) : FitC X G (.type "dict") FDictP := by
  intro hK W pins s σ H ρ h vs ds us Q I r A rs q
  unfold FDictP at q
  split at q
  · obtain ⟨v, rfl, rv⟩ := rs.one
    split at q
    · rename_i e0
      obtain ⟨xs, e1, e2⟩ := Option.bind_eq_some_iff.mp e0
      obtain ⟨a, ws, rfl, ha, ra⟩ := lst_rel A rv e1
      obtain ⟨ps, kvs, rfl, hp, hk⟩ := pairs_rel e2 ra
      refine call_dictP hc pins s σ H _ us Q I r ⟨a, ps, kvs, rfl, .inl (.inl ha), by rw [hK]; exact hp, fun p hn => ?_⟩
      have hm := KR.merge hk (ws := []) (ks := []) ⟨rfl, .nil⟩
      have pl : Pst ρ H ρ (upd H p (.dK (mergeK [] kvs))) := Pst.laid hn
      exact q ρ _ pl (A.laid hn) _ (.dk upd_same (fun l => by obtain ⟨o, z⟩ := A.some_ l; rw [hn] at z; cases z) hm.1 (hm.2.mono A pl))
    · exact q.elim
  · exact q.elim
def intKeys : List (Key × D) → Option (List Int)
  | [] => some []
  | (.inl i, _) :: ks => (intKeys ks).map (i :: ·)
  | (.inr _, _) :: _ => none
theorem intKeys_eq : ∀ {ks : List (Key × D)} {ns : List Int}, intKeys ks = some ns → ks.map (·.1) = ns.map Sum.inl
  | [], ns, e => by cases e; rfl
  | (.inl i, d) :: ks, ns, e => by
    obtain ⟨ms, e1, rfl⟩ := Option.map_eq_some_iff.mp e
    simp [intKeys_eq e1]
  | (.inr _, _) :: _, _, e => by cases e
/-- sorted of a list of ints, of a dict whose keys are ints -/
def FSorted2 : List D → Hd → Res D := fun ds h => match ds with
  | [.dk ks] => match intKeys ks with
    | some ns => if ns.length < 64 then .ok (.arr ((sortI ns).map D.int)) h else .stuck
    | none => .stuck
  | ds => FSorted ds h
theorem fit_sorted2 (hc : X.calm = true) : FitC X G (.builtin "sorted") FSorted2 := by
  intro hK W pins s σ H ρ h vs ds us Q I r A rs q
  unfold FSorted2 at q
  split at q
  · rename_i ks
    obtain ⟨v, rfl, rv⟩ := rs.one
    split at q
    · rename_i ns e0
      split at q
      · rename_i hl
        cases rv with
        | dk ha nl ek ra =>
          refine call_sortedDI hc pins s σ H _ us Q I r ⟨_, _, ns, rfl, .inl ha, ek.trans (intKeys_eq e0), hl, fun ys p h1 h2 hp => ?_⟩
          rw [sortI_is h1 h2]
          exact q.newL A (RpL.of_ints _) hp
      · exact q.elim
    · exact q.elim
  · exact fit_sorted hK W pins s σ H ρ h vs ds us Q I r A rs q
/-! ### dict comprehensions -/
def dcL (vs : List Nat) (t : Tg) (test : Option ME) (mk mv : ME) : List D → List (Key × D) → Sl → Hd → Res (List (Key × D))
  | [], acc, _, h => .ok acc h
  | d :: ds, acc, s, h => match bindT t d (kill s vs) with
    | some s1 => (testR test s1 h).bind fun b h1 => match b with
        | .bl true => (mk s1 h1).bind fun x h2 => (mv s1 h2).bind fun y h3 => match keyOf x with
          | some k => dcL vs t test mk mv ds (putD acc k y) s h3
          | none => .stuck
        | .bl false => dcL vs t test mk mv ds acc s h1
        | _ => .stuck
    | none => .stuck
def mDc (vs : List Nat) (t : Tg) (mi : MA) (test : Option ME) (mk mv : ME) : ME := fun s h => (mi s h).bind fun ds h1 => if ds.length ≤ sizeLine then (noX (dcL vs t test mk mv ds [] s h1)).bind fun ks h2 => .ok (.dk ks) h2 else .stuck
def DpOk (G : Gc) (ρ0 : Rh) (H0 : Hp) (D : Addr) (Z : Hp → Prop) (r : Res (List (Key × RX.D))) : Prop := match r with
  | .ok ks h2 => ∀ ρ2 H2 ws, Pst ρ0 H0 ρ2 H2 → AbH G ρ2 H2 h2 → D ∈ ρ2.z → H2 D = some (.dK ws) → KR G ρ2 H2 ws ks → Z H2
  | _ => False
theorem dp_turn {vs : List Nat} {t : Tg} {test : Option ME} {mk mv : ME} {ρ0 : Rh} {H0 : Hp} {h0 : Hd} {D : Addr} {Z : Hp → Prop} {s : Sl} {σ : L2.St} {J : It} {ds : List RX.D} (hK : X.K = G.K) (hv : ∀ i ∈ slots t, i ∈ vs) (hn : ds.length ≤ sizeLine)
    (S : AbS G ρ0 H0 s σ) (A0 : AbH G ρ0 H0 h0) (gv : Gives G ρ0 H0 J ds) (hD : H0 D = none) (q : DpOk G ρ0 H0 D Z (dcL vs t test mk mv ds [] s h0)) :
    ∃ W : Nat → Nat → Hp → Prop, (∃ m, W 0 m (upd H0 D (.dK []))) ∧ ∀ i m H, W i m H →
      (J.stop i H ∧ Z H) ∨ (J.go i H ∧ ∃ Nx : Hp → Prop, (∀ H', Nx H' → ∃ m', m' < m ∧ W (i + 1) m' H') ∧ ∀ x H', J.yld i H x H' → rdT G.K t x (wipe σ vs) H' fun σ2 H2 => wipe σ2 vs = wipe σ vs ∧ ttOf G test σ2 H2 fun b H3 =>
        if b = true then TE_ G NoW mk σ2 H3 fun y H4 => TE_ G NoW mv σ2 H4 fun z H5 => ∃ kvs k, y = kV k ∧ H5 D = some (.dK kvs) ∧ kvs.length < sizeLine ∧ Nx (upd H5 D (.dK (putK kvs k z))) else Nx H3) := by
  have mu : ∀ vs : List (Key × V), isMut (.dK vs) := fun vs => .inr ⟨_, rfl⟩
  obtain ⟨Gd, Y, w, kk, y⟩ := gv
  refine ⟨fun i m H => m = ds.length - i ∧ i ≤ ds.length ∧ ∃ ρ h ws acc, Pst ρ0 H0 ρ H ∧ AbH G ρ H h ∧ D ∈ ρ.z ∧ H D = some (.dK ws) ∧ KR G ρ H ws acc ∧ ws.length ≤ i ∧ DpOk G ρ0 H0 D Z (dcL vs t test mk mv (ds.drop i) acc s h), ⟨_, rfl, Nat.zero_le _, ρ0.hide D, h0, [], [], Pst.hide hD, A0.hide hD (mu _), by simp [Rh.hide], upd_same, ⟨rfl, .nil⟩, by simp, q⟩, ?_⟩
  rintro i m H ⟨rfl, hi, ρ, h, ws, acc, p, A, hz, eD, ra, hla, q⟩
  by_cases hl : i < ds.length
  · right
    have ed : ds.drop i = ds[i] :: ds.drop (i + 1) := List.drop_eq_getElem_cons hl
    rw [ed] at q
    unfold dcL at q
    refine ⟨w.goes i H hl (kk ρ H p), fun H' => ∃ ρ h ws acc, Pst ρ0 H0 ρ H' ∧ AbH G ρ H' h ∧ D ∈ ρ.z ∧ H' D = some (.dK ws) ∧ KR G ρ H' ws acc ∧ ws.length ≤ i + 1 ∧ DpOk G ρ0 H0 D Z (dcL vs t test mk mv (ds.drop (i + 1)) acc s h), fun H' ⟨ρ, h, ws, acc, x⟩ => ⟨ds.length - (i + 1), by omega, rfl, by omega, ρ, h, ws, acc, x⟩, fun x H2 yy => ?_⟩
    obtain ⟨p2, A2, r2⟩ := y i ds[i] ρ H h x H2 (List.getElem?_eq_getElem hl) p A (w.yields i H x H2 hl (kk ρ H p) yy)
    have pp := p.trans p2
    have mono : ∀ {ρ H ρ' H' h}, AbH G ρ H h → Pst ρ H ρ' H' → ∀ {ws acc}, KR G ρ H ws acc → KR G ρ' H' ws acc := fun {_ _ _ _ _} A p {_ _} r => ⟨r.1, r.2.mono A p⟩
    cases eb : bindT t ds[i] (kill s vs) with
    | none => simp only [eb] at q; exact q.elim
    | some s1 =>
      simp only [eb] at q
      refine bindT_ok (vs := vs) rfl r2 (kill_wipe (S.mono A0 pp) vs) eb hv fun σ2 S2 w2 => ⟨w2.trans wipe_wipe, ?_⟩
      have eD2 := p2.hd D hz _ eD
      have ra2 := mono A p2 ra
      generalize ht : testR test s1 h = rt at q
      cases rt with
      | stuck => exact q.elim
      | exc c h1 => exact q.elim
      | ok b h1 =>
        simp only [Res.bind] at q
        have hb : ∃ k, b = .bl k := by
          cases b with
          | bl k => exact ⟨k, rfl⟩
          | _ => exact q.elim
        refine tt_of S2 A2 ht hb fun k ρ3 H3 eb' p3 A3 => ?_
        subst eb'
        have eD3 := p3.hd D (p2.hz D hz) _ eD2
        have ra3 := mono A2 p3 ra2
        have hz3 := p3.hz D (p2.hz D hz)
        cases k with
        | false =>
          rw [if_neg (by decide)]
          exact ⟨ρ3, h1, ws, acc, pp.trans p3, A3, hz3, eD3, ra3, by omega, q⟩
        | true =>
          rw [if_pos rfl]
          dsimp only at q
          have S3 := S2.mono A2 p3
          refine ⟨ρ3, s1, h1, S3, A3, ?_⟩
          cases ee : mk s1 h1 with
          | stuck => rw [ee] at q; exact q.elim
          | exc c h2 => rw [ee] at q; exact q.elim
          | ok d h2 =>
            rw [ee] at q
            simp only [Res.bind] at q
            intro ρ4 H4 p4 A4 v rv
            have eD4 := p4.hd D hz3 _ eD3
            have hz4 := p4.hz D hz3
            have ra4 := mono A3 p4 ra3
            refine ⟨ρ4, s1, h2, S3.mono A3 p4, A4, ?_⟩
            cases e5 : mv s1 h2 with
            | stuck => rw [e5] at q; exact q.elim
            | exc c h3 => rw [e5] at q; exact q.elim
            | ok d5 h3 =>
              rw [e5] at q
              simp only at q
              intro ρ5 H5 p5 A5 v5 rv5
              have eD5 := p5.hd D hz4 _ eD4
              have hz5 := p5.hz D hz4
              have ra5 := mono A4 p5 ra4
              cases ek : keyOf d with
              | none => rw [ek] at q; exact q.elim
              | some kx =>
                rw [ek] at q
                simp only at q
                have rp := KR.put (k := kx) rv5 ra5
                refine ⟨ws, kx, keyOf_rel ek rv, eD5, by omega, ρ5, h3, putK ws kx v5, putD acc kx d5, (((pp.trans p3).trans p4).trans p5).fill hD, A5.fill hz5 eD5 (mu _) (mu _), hz5, upd_same, ⟨rp.1, rp.2.mono0 A5 (Pst0.fill hz5 eD5 (mu _))⟩, ?_, q⟩
                have := length_putK ws kx v5
                omega
  · left
    have ei : i = ds.length := by omega
    subst ei
    rw [List.drop_length] at q
    exact ⟨w.stops H (kk ρ H p), q ρ H ws p A hz eD ra⟩
variable {kx vx tg iter : Expr} {ifs : List Expr} {scope : Scope} {own : List (Str × Nat)} {pos : Pos} {mi : MA} {t : Tg} {test : Option ME} {mk mv : ME}
theorem okDc (hc : X.calm = true) (hN : X.N.Nodup) (hi : OkI X G W tg iter mi) (ok : BlkOk X.N X.env.scope scope own) (hg : BlkG X G scope tg t) (ht : BlkT X G scope ifs test) (hk : BlkE X G scope kx mk) (he : BlkE X G scope vx mv) (hv : ∀ i ∈ slots t, i ∈ own.map (·.2)) (hK : X.K = G.K := by rfl) (hs : ∀ x, foldedSetIterable iter X.env x = pure x := by intro _; rfl) :
    OkE X G W (.DictComp kx vx [⟨tg, iter, ifs, 0⟩] scope pos) (mDc (own.map (·.2)) t mi test mk mv) := by
  refine ⟨fun pins s σ H Q I ⟨ρ, sd, h, S, A, q⟩ => (pe_dc hc hN hi ok hg (fun s H C cl fp => okTs_pts (ht s H C cl fp)) hk he hs).run pins s σ H Q I ?_⟩
  refine ⟨ρ, sd, h, S, A, q.bind.imp fun ds ρ1 H1 ⟨h1, _, A1, p1, q1⟩ J gv D hD => ?_⟩
  have S1 := S.mono A p1
  split at q1
  · rename_i hl
    refine dp_turn hK hv hl S1 A1 gv hD ?_
    revert q1
    generalize dcL (own.map (·.2)) t test mk mv ds [] sd h1 = r
    intro q1
    cases r with
    | stuck => exact q1.elim
    | exc c h => exact q1.elim
    | ok xs h2 =>
      intro ρ2 H2 vs2 p2 A2 hz eD rr
      refine q1 (ρ2.back ρ1) H2 p2.back (A2.back p2) _ (.dk eD (fun l => ?_) rr.1 (rr.2.less (back_live p2) fun _ _ e => e))
      rcases l with l | l
      · exact A2.dis D hz l
      · obtain ⟨u, q⟩ := A1.some_ (.inr l)
        rw [hD] at q; cases q
  · exact q1.elim
end
end RX

set_option Elab.async false
set_option linter.all false
set_option maxRecDepth 100000
set_option maxHeartbeats 2000000
namespace RX
open PySem PySem.Spec PyProof.Rows L2
/-- the def x, number i, that calls what it gets -/
structure Wrd (P : Program) (w : World) (mg : Str → Option Value) (base : Heap) (G : Gc) (k i : Nat) (x a : Str) (Ng : List Str) (bw : ME → MS) : Prop where
  at_ : mg x = some (.ref (G.fa i))
  ex : ∃ pg bg sg fd, FunD G.K x x pg bg sg [] [] (G.fa i) fd ∧ Binds G.K fd [a] [] ∧ FnScope Ng [a] sg ∧ Ng[0]? = some a ∧ Vis sg a ∧ WordOk P w mg base G k (G.fa i) x a sg Ng bg bw
/-- the def fd may make lambdas of the name q -/
structure MkL (mg : Str → Option Value) (base : Heap) (G : Gc) (q : Str) (fd : FuncData) : Prop where
  ex : ∃ c P, fd.code = .ref c ∧ LamX.TabB base mg c P ∧ (P, q) ∈ G.T ∧ ∀ p ∈ G.T, p.1 = P → p.2 = q
section
variable {G : Gc} {X : Cx} {W : WX} {k i : Nat} {x a : Str} {Ng : List Str} {bw : ME → MS} {fd : FuncData} {params : Arguments} {body : Expr} {scope : Scope} {p lpos pos : Pos} {m : ME}
theorem okL (Wd : Wrd X.prog X.w X.mg X.base G (k + 1) i x a Ng bw) (ML : MkL X.mg X.base G (X.env.qual ++ "<lambda>") fd) (hcode : X.env.code = fd.code) (hr : Room (k + 2) X.A) (L : LamX.LamS X.env.scope scope) (hdef : defaultsOf params X.env = ([], []))
    (hbind : ∀ (q : Str) (cl : List (Str × Addr)) (pm cv ctv : Value), bindArgs (PySem.W.kla_fn "<lambda>" q params body scope cl pm cv ctv) ⟨[], []⟩ = pure [])
    (hbody : ∀ (A : Around) (outer : List Env) (s : Shared) (H : Hp) (E : XK) (f c' : Addr), Room k (A.deeper (LamX.lamEnv X scope s.heap.objs.size f c')) → OkE (LamX.lamCx X A outer s H E scope f c') G (fun c d _ H => E c d H) body m)
    (hg : Gl X x := by rfl) (hK : X.K = G.K := by rfl)
    (hdb : (x == ("__debug__" : Str)) = false := by decide) (hd : (a == ("__debug__" : Str)) = false := by decide) (hcd : (a == ("__classdict__" : Str)) = false := by decide) :
    OkE X G W (.Call (.Name x p) [.Lambda params body scope lpos] [] pos) (mLam Ng.length m bw) := by
  obtain ⟨pg, bg, sg, fdg, FD, hb, Sg, hN, hv, Wk⟩ := Wd.ex
  obtain ⟨c, P, e1, TB, hm, hu⟩ := ML.ex
  exact okLam Wd.at_ FD hb Sg hN hv Wk TB (hcode.trans e1) hm hu hr L hdef hbind hbody hg hK hdb hd hcd
end
theorem WordOk.mono {P : Program} {w : World} {mg : Str → Option Value} {base : Heap} {G : Gc} {j k : Nat} {g : Addr} {x a : Str} {sg : Scope} {Ng : List Str} {bg : List Stmt} {bw : ME → MS} (Wk : WordOk P w mg base G j g x a sg Ng bg bw) (h : j ≤ k) : WordOk P w mg base G k g x a sg Ng bg bw :=
  ⟨fun cdg A outer s H G1 f h0 r sg hx hr act => Wk.ok cdg A outer s H G1 f h0 r sg hx (hr.mono h) act⟩
theorem Wrd.mono {P : Program} {w : World} {mg : Str → Option Value} {base : Heap} {G : Gc} {j k i : Nat} {x a : Str} {Ng : List Str} {bw : ME → MS} (Wd : Wrd P w mg base G j i x a Ng bw) (h : j ≤ k) : Wrd P w mg base G k i x a Ng bw := by
  obtain ⟨pg, bg, sg, fd, h1, h2, h3, h4, h5, h6⟩ := Wd.ex
  exact ⟨Wd.at_, pg, bg, sg, fd, h1, h2, h3, h4, h5, h6.mono h⟩
theorem code_of {K : PySem.W.Frag} {p : He.Defn} {x qual : Str} {params : Arguments} {body : List Stmt} {scope : Scope} {dvs : List V} {kws : List (Str × V)} {fd : FuncData} (F : FunD K x qual params body scope dvs kws (He.fAd K p) fd) : fd.code = .ref (He.cT K p).1 := by
  obtain ⟨oc, od, dV, kV, doc, pm, an, cdv, ct, osl, rfl, lk, hcd, _, _⟩ := F.ex
  obtain ⟨c, rfl⟩ := He.codeIn_ref hcd
  show Value.ref c = .ref (He.codeOf K p)
  rw [He.codeOf_eq lk rfl]
theorem uniq_of {T : List (Addr × Str)} (h : (T.map (·.1)).Nodup) {P : Addr} {q : Str} (m : (P, q) ∈ T) : ∀ p ∈ T, p.1 = P → p.2 = q := by
  induction T with
  | nil => cases m
  | cons t T ih =>
    rw [List.map_cons, List.nodup_cons] at h
    intro p hp e
    rcases List.mem_cons.mp m with z | z <;> rcases List.mem_cons.mp hp with y | y
    · rw [y, ← z]
    · exact (h.1 (by rw [← z]; show P ∈ _; rw [← e]; exact List.mem_map_of_mem y)).elim
    · exact (h.1 (by rw [← y, e]; exact List.mem_map_of_mem (f := (·.1)) z)).elim
    · exact ih h.2 z p y e
theorem codeHd_of {K : PySem.W.Frag} {h : Heap} {c P : Addr} (X : K.In h) (e : PySem.W.codeHdIn K c P = true) : PySem.W.CodeHd h c P := PySem.W.codeHd_of_K X e
theorem _root_.L2.Room.units65 {k : Nat} {A : Around} (r : Room k A) : A.units + 65 < cLine := by have := r.un; omega
/-- the names of a class that an except clause takes -/
theorem names_of {X : Cx} {x : Str} {a : Addr} (hm : X.mg x = some (.ref a)) (hg : Gl X x := by rfl) (hd : (x == ("__debug__" : Str)) = false := by decide) : Names X x (.ref a) := ⟨hg, hd, .inl hm⟩
end RX

set_option Elab.async false
set_option linter.all false
set_option maxRecDepth 100000
set_option maxHeartbeats 2000000
namespace RX
open PySem PySem.Spec PyProof.Rows L2
/-! ### the readings computed -/
section
variable {s : Sl} {h : Hd} {d : D} {F : List D → Hd → Res D} {f g : D → D → Hd → Res D} {u : D → Hd → Res D} {a b c m : ME} {ms : MA} {x y : MS} {i j : Nat} {α β : Type}
@[simp] theorem bind_ok {a : α} {k : α → Hd → Res β} : (Res.ok a h).bind k = k a h := rfl
@[simp] theorem bind_exc {c : Nat} {k : α → Hd → Res β} : (Res.exc c h : Res α).bind k = .exc c h := rfl
@[simp] theorem bind_stuck {k : α → Hd → Res β} : (Res.stuck : Res α).bind k = .stuck := rfl
@[simp] theorem thn_ok {k : D → Hd → SR} : (Res.ok d h).thn s k = k d h := rfl
@[simp] theorem thn_exc {c : Nat} {k : D → Hd → SR} : (Res.exc c h : Res D).thn s k = .exc c s h := rfl
@[simp] theorem thn_stuck {k : D → Hd → SR} : (Res.stuck : Res D).thn s k = .stuck := rfl
@[simp] theorem mC_ap : mC d s h = .ok d h := rfl
@[simp] theorem aNil_ap : aNil s h = .ok [] h := rfl
@[simp] theorem aCons_ap : aCons m ms s h = (m s h).bind fun x h1 => (ms s h1).bind fun xs h2 => .ok (x :: xs) h2 := rfl
@[simp] theorem mCB_ap : mCB F ms s h = (ms s h).bind F := rfl
@[simp] theorem mOp_ap : mOp f a b s h = (a s h).bind fun x h1 => (b s h1).bind fun y h2 => f x y h2 := rfl
@[simp] theorem mUn_ap : mUn u a s h = (a s h).bind u := rfl
@[simp] theorem mAnd_ap : mAnd a b s h = (a s h).bind fun x h1 => match x with
  | .bl true => b s h1
  | .bl false => .ok (.bl false) h1
  | _ => .stuck := rfl
@[simp] theorem mOr_ap : mOr a b s h = (a s h).bind fun x h1 => match x with
  | .bl true => .ok (.bl true) h1
  | .bl false => b s h1
  | _ => .stuck := rfl
@[simp] theorem mNot_ap : mNot a s h = (a s h).bind fun x h1 => match x with
  | .bl b => .ok (.bl (!b)) h1
  | _ => .stuck := rfl
@[simp] theorem mIf_ap : mIf c a b s h = (c s h).bind fun x h1 => match x with
  | .bl true => a s h1
  | .bl false => b s h1
  | _ => .stuck := rfl
@[simp] theorem mChain_ap : mChain f g a b c s h = (a s h).bind fun x h1 => (b s h1).bind fun y h2 => (f x y h2).bind fun z h3 => match z with
  | .bl true => (c s h3).bind fun w' h4 => g y w' h4
  | .bl false => .ok (.bl false) h3
  | _ => .stuck := rfl
@[simp] theorem mTup_ap : mTup ms s h = (ms s h).bind fun xs h1 => if xs.length ≤ sizeLine then .ok (.tup xs) h1 else .stuck := rfl
@[simp] theorem mLst_ap : mLst ms s h = (ms s h).bind fun xs h1 => if xs.length ≤ sizeLine then .ok (.arr xs) h1 else .stuck := rfl
@[simp] theorem mLstM_ap : mLstM ms s h = (ms s h).bind fun xs h1 => if xs.length ≤ sizeLine then .ok (.ref h1.length) (h1 ++ [.lst xs]) else .stuck := rfl
@[simp] theorem mDict0_ap : mDict0 s h = .ok (.dk []) h := rfl
theorem mVar_at (e : s[i]? = some (some d)) (hx : d.isX = false) : mVar i s h = .ok d h := by unfold mVar; rw [e]; simp only; rw [hx]
@[simp] theorem mVar_zero {o : Sl} : mVar 0 (some d :: o) h = (match d.isX with
  | false => .ok d h
  | true => .stuck) := rfl
@[simp] theorem mVar_succ {o : Option D} : mVar (i + 1) (o :: s) h = mVar i s h := rfl
@[simp] theorem isX_int {n : Int} : (D.int n).isX = false := rfl
@[simp] theorem isX_bl {n : Bool} : (D.bl n).isX = false := rfl
@[simp] theorem isX_str {n : Str} : (D.str n).isX = false := rfl
@[simp] theorem isX_non : D.non.isX = false := rfl
@[simp] theorem isX_tup {xs : List D} : (D.tup xs).isX = false := rfl
@[simp] theorem isX_arr {xs : List D} : (D.arr xs).isX = false := rfl
@[simp] theorem isX_dk {xs : List (Key × D)} : (D.dk xs).isX = false := rfl
@[simp] theorem isX_ref {n : Nat} : (D.ref n).isX = false := rfl
@[simp] theorem isX_scr {n : List Int} : (D.scr n).isX = false := rfl
@[simp] theorem isX_fn {n : Nat} : (D.fn n).isX = false := rfl
@[simp] theorem mSkip_ap : mSkip s h = .nx s h := rfl
@[simp] theorem mSeq_ap : mSeq x y s h = match x s h with
  | .nx s' h' => y s' h'
  | r => r := rfl
@[simp] theorem sRet_ap : sRet m s h = (m s h).thn s fun d h1 => .rt d h1 := rfl
@[simp] theorem sExpr_ap : sExpr m s h = (m s h).thn s fun _ h1 => .nx s h1 := rfl
@[simp] theorem sIf_ap : sIf c x y s h = (c s h).thn s fun d h1 => match d with
  | .bl true => x s h1
  | .bl false => y s h1
  | _ => .stuck := rfl
@[simp] theorem sRaise_ap {c : Nat} : sRaise c s h = .exc c s h := rfl
@[simp] theorem sAsg_nm : sAsg (.nm i) m s h = (m s h).thn s fun d h1 => .nx (s.set i (some d)) h1 := by
  unfold sAsg; simp only [bindT]
theorem sAsg_ap {t : Tg} : sAsg t m s h = (m s h).thn s fun d h1 => match bindT t d s with
  | some s' => .nx s' h1
  | none => .stuck := rfl
@[simp] theorem sPar_ap : sPar i j a b s h = (a s h).thn s fun d h1 => (b s h1).thn s fun d' h2 => .nx ((s.set i (some d)).set j (some d')) h2 := rfl
@[simp] theorem sSub_ap : sSub a b m s h = (m s h).thn s fun x h1 => (a s h1).thn s fun d h2 => (b s h2).thn s fun i h3 => match setL d i x h3 with
  | some h4 => .nx s h4
  | none => .stuck := rfl
@[simp] theorem mFrz_ap : mFrz i x s h = match x s h with
  | .nx s' h' => frz i s' h'
  | r => r := rfl
@[simp] theorem iSeq_ap : iSeq m s h = (m s h).bind fun d h1 => match d with
  | .tup xs => .ok xs h1
  | .arr xs => .ok xs h1
  | _ => .stuck := rfl
@[simp] theorem iRange1_ap : iRange1 ms s h = (ms s h).bind iRg1 := rfl
@[simp] theorem iRange2_ap : iRange2 ms s h = (ms s h).bind iRg2 := rfl
@[simp] theorem iZip_ap : iZip ms s h = (ms s h).bind zipD := rfl
@[simp] theorem mMeth_ap {M : D → List D → Hd → Res D} : mMeth M m ms s h = (m s h).bind fun d h1 => match lstOf h1 d with
  | some _ => (ms s h1).bind fun ds h2 => M d ds h2
  | none => .stuck := rfl
@[simp] theorem mSl_ap {lo hi : Option ME} : mSl m lo hi s h = (m s h).bind fun d h1 => (optM lo s h1).bind fun l h2 => (optM hi s h2).bind fun u h3 => fSl d l u h3 := rfl
@[simp] theorem optM_none : optM none s h = .ok none h := rfl
@[simp] theorem optM_some : optM (some m) s h = (m s h).bind fun d h1 => match d with
  | .int i => .ok (some i) h1
  | _ => .stuck := rfl
@[simp] theorem mIsE_ap {kit : Nat → D → Option Bool} : mIsE i kit m s h = match s[i]? with
  | some (some (.exc c)) => (m s h).bind fun d h1 => match kit c d with
    | some b => .ok (.bl b) h1
    | none => .stuck
  | _ => .stuck := rfl
@[simp] theorem sTryC_ap {n : Nat} {cat : Nat → Bool} : sTryC n i cat m x s h = match m s h with
  | .ok _ h1 => .nx s h1
  | .exc c h1 => if cat c then unX i (x ((List.replicate n none).set i (some (.exc c))) h1) else .stuck
  | .stuck => .stuck := rfl
@[simp] theorem sFor_ap {ks : List Nat} {t : Tg} : sFor ks t ms x s h = match ms s h with
  | .ok ds h1 => forL ks t x ds (kill s ks) h1
  | .exc c h1 => .exc c s h1
  | .stuck => .stuck := rfl
@[simp] theorem noX_ok {a : α} : noX (.ok a h) = .ok a h := rfl
@[simp] theorem noX_exc {c : Nat} : noX (.exc c h : Res α) = .stuck := rfl
@[simp] theorem mLc_ap {vs : List Nat} {t : Tg} {test : Option ME} : mLc vs t ms test m s h = (ms s h).bind fun ds h1 => if ds.length ≤ sizeLine then (noX (compL vs t test m ds [] s h1)).bind fun xs h2 => .ok (.arr xs) h2 else .stuck := rfl
@[simp] theorem mDc_ap {vs : List Nat} {t : Tg} {test : Option ME} : mDc vs t ms test a b s h = (ms s h).bind fun ds h1 => if ds.length ≤ sizeLine then (noX (dcL vs t test a b ds [] s h1)).bind fun ks h2 => .ok (.dk ks) h2 else .stuck := rfl
@[simp] theorem kill_nil : kill s [] = s := rfl
@[simp] theorem kill_cons {is : List Nat} : kill s (i :: is) = (kill s is).set i none := rfl
@[simp] theorem bindT_nm : bindT (.nm i) d s = some (s.set i (some d)) := by simp only [bindT]
@[simp] theorem bindT_tp {ts : List Tg} {xs : List D} : bindT (.tp ts) (.tup xs) s = bindTs ts xs s := by simp only [bindT]
@[simp] theorem bindTs_nil : bindTs [] [] s = some s := by simp only [bindTs]
@[simp] theorem bindTs_cons {t : Tg} {ts : List Tg} {xs : List D} : bindTs (t :: ts) (d :: xs) s = (bindT t d s).bind fun s' => bindTs ts xs s' := by simp only [bindTs]
end
/-! ### a def called -/
theorem exit_same {h h' : Hd} {d : D} (e : h'.length = h.length) : cutR h d h' = .ok d h' := by unfold cutR; rw [if_pos e]
theorem exitX_same {h h' : Hd} {c : Nat} (e : h'.length = h.length) : cutX h c h' = .exc c h' := by unfold cutX; rw [if_pos e]
/-- the heap is as it was -/
theorem fnF_rt {n np : Nat} {b : MS} {ds : List D} {h h' : Hd} {d : D} (hl : ds.length = np) (e : b (startS n ds) h = .rt d h') (hh : h'.length = h.length) : fnF n np b ds h = .ok d h' := by
  unfold fnF; rw [if_pos hl, e]; exact exit_same hh
theorem fnF_nx {n np : Nat} {b : MS} {ds : List D} {h h' : Hd} {s : Sl} (hl : ds.length = np) (e : b (startS n ds) h = .nx s h') (hh : h'.length = h.length) : fnF n np b ds h = .ok .non h' := by
  unfold fnF; rw [if_pos hl, e]; exact exit_same hh
theorem fnF_exc {n np : Nat} {b : MS} {ds : List D} {h h' : Hd} {s : Sl} {c : Nat} (hl : ds.length = np) (e : b (startS n ds) h = .exc c s h') (hh : h'.length = h.length) : fnF n np b ds h = .exc c h' := by
  unfold fnF; rw [if_pos hl, e]; exact exitX_same hh
/-- what was made is let go -/
theorem fnF_cut {n np : Nat} {b : MS} {ds : List D} {h : Hd} {more : List MO} {d : D} (hl : ds.length = np) (e : b (startS n ds) h = .rt d (h ++ more)) (hd : cleanD h.length d = true) : fnF n np b ds h = .ok d h := by
  unfold fnF; rw [if_pos hl, e]
  show cutR h d (h ++ more) = _
  unfold cutR
  by_cases z : (h ++ more).length = h.length
  · have : more = [] := by rw [List.length_append] at z; exact List.eq_nil_of_length_eq_zero (by omega)
    rw [if_pos z, this, List.append_nil]
  · rw [if_neg z, if_pos ⟨⟨by simp, fun i o hi ho => .inl (by rw [List.getElem?_append_left hi] at ho; exact ho)⟩, hd⟩, List.take_left']
    rfl
theorem fnF_cutX {n np : Nat} {b : MS} {ds : List D} {h : Hd} {more : List MO} {s : Sl} {c : Nat} (hl : ds.length = np) (e : b (startS n ds) h = .exc c s (h ++ more)) : fnF n np b ds h = .exc c h := by
  unfold fnF; rw [if_pos hl, e]
  show cutX h c (h ++ more) = _
  unfold cutX
  by_cases z : (h ++ more).length = h.length
  · have : more = [] := by rw [List.length_append] at z; exact List.eq_nil_of_length_eq_zero (by omega)
    rw [if_pos z, this, List.append_nil]
  · rw [if_neg z, if_pos ⟨by simp, fun i o hi ho => .inl (by rw [List.getElem?_append_left hi] at ho; exact ho)⟩, List.take_left']
    rfl
@[simp] theorem start1 {n : Nat} {a : D} : startS n [a] = some a :: List.replicate (n - 1) none := rfl
theorem startS_eq {n : Nat} {ds : List D} : startS n ds = ds.map some ++ List.replicate (n - ds.length) none := rfl
/-! ### comprehensions -/
theorem compL_map {vs : List Nat} {t : Tg} {elt : ME} {s : Sl} {h : Hd} (f : D → D) : ∀ (ds acc : List D), (∀ d ∈ ds, ∃ s1, bindT t d (kill s vs) = some s1 ∧ elt s1 h = .ok (f d) h) → compL vs t none elt ds acc s h = .ok (acc ++ ds.map f) h
  | [], acc, _ => by simp [compL]
  | d :: ds, acc, hf => by
    obtain ⟨s1, e1, e2⟩ := hf d List.mem_cons_self
    unfold compL
    rw [e1]
    simp only [testR, bind_ok, e2]
    rw [compL_map f ds (acc ++ [f d]) fun d hd => hf d (List.mem_cons_of_mem _ hd)]
    simp
inductive All2 {α β : Type} (R : α → β → Prop) : List α → List β → Prop
  | nil : All2 R [] []
  | cons {a : α} {b : β} {as : List α} {bs : List β} : R a b → All2 R as bs → All2 R (a :: as) (b :: bs)
/-- what each turn keeps; R: what each item gives -/
theorem compL_inv {vs : List Nat} {t : Tg} {test : Option ME} {elt : ME} {s : Sl} (P : Hd → Prop) (R : D → D → Prop) : ∀ (ds acc : List D) (h : Hd), P h →
    (∀ d ∈ ds, ∀ h, P h → ∃ s1 b h1, bindT t d (kill s vs) = some s1 ∧ testR test s1 h = .ok (.bl b) h1 ∧ (b = false → P h1) ∧ (b = true → ∃ x h2, elt s1 h1 = .ok x h2 ∧ P h2 ∧ R d x)) →
    ∃ (es xs : List D) (h' : Hd), compL vs t test elt ds acc s h = .ok (acc ++ xs) h' ∧ P h' ∧ es.Sublist ds ∧ All2 R es xs
  | [], acc, h, p, _ => ⟨[], [], h, by simp [compL], p, .slnil, .nil⟩
  | d :: ds, acc, h, p, hf => by
    obtain ⟨s1, b, h1, e1, e2, hb0, hb1⟩ := hf d List.mem_cons_self h p
    have hf' := fun d hd => hf d (List.mem_cons_of_mem _ hd)
    cases b with
    | false =>
      obtain ⟨es, xs, h', e3, p', sl, r⟩ := compL_inv P R ds acc h1 (hb0 rfl) hf'
      refine ⟨es, xs, h', ?_, p', sl.cons _, r⟩
      unfold compL
      rw [e1]
      simp only [e2, bind_ok]
      exact e3
    | true =>
      obtain ⟨x, h2, e4, p2, rx⟩ := hb1 rfl
      obtain ⟨es, xs, h', e3, p', sl, r⟩ := compL_inv P R ds (acc ++ [x]) h2 p2 hf'
      refine ⟨d :: es, x :: xs, h', ?_, p', sl.cons₂ _, .cons rx r⟩
      unfold compL
      rw [e1]
      simp only [e2, bind_ok, e4]
      rw [e3]
      simp
/-! ### for -/
/-- a loop that keeps what it should, never broken: I by the turn -/
theorem forL_inv {ks : List Nat} {t : Tg} {body : MS} (I : List D → Sl → Hd → Prop) : ∀ (ds : List D) (s : Sl) (h : Hd), I ds s h →
    (∀ d ds s h, I (d :: ds) s h → ∃ s1 s2 h2, bindT t d s = some s1 ∧ (body s1 h = .nx s2 h2 ∨ body s1 h = .ct s2 h2) ∧ I ds (kill s2 ks) h2) → ∃ s' h', forL ks t body ds s h = .nx s' h' ∧ I [] s' h'
  | [], s, h, i, _ => ⟨s, h, rfl, i⟩
  | d :: ds, s, h, i, st => by
    obtain ⟨s1, s2, h2, e1, e2, i2⟩ := st d ds s h i
    obtain ⟨s', h', e3, i3⟩ := forL_inv I ds _ _ i2 st
    refine ⟨s', h', ?_, i3⟩
    unfold forL
    rw [e1]
    rcases e2 with e2 | e2 <;> (simp only [e2]; exact e3)
end RX

set_option Elab.async false
set_option linter.all false
set_option maxRecDepth 100000
set_option maxHeartbeats 4000000
namespace RX
open PySem PySem.Spec PyProof.Rows L2
/-! ### defs that many rows share, read -/
noncomputable def S_is_integer : MS := sRet (mAnd (mCB FIsi (aCons (mVar 0) (aCons (mC (.ty "int")) (aNil)))) (mNot (mCB FIsi (aCons (mVar 0) (aCons (mC (.ty "bool")) (aNil))))))
noncomputable def Q_is_integer : MF := fnF 1 1 S_is_integer
noncomputable def S_is_within : MS := sRet (mAnd (mCB Q_is_integer (aCons (mVar 0) (aNil))) (mChain fLe fLe (mVar 1) (mVar 0) (mVar 2)))
noncomputable def Q_is_within : MF := fnF 3 3 S_is_within
noncomputable def S_is_tuple : MS := sRet (mAnd (mCB FIsi (aCons (mVar 0) (aCons (mC (.ty "tuple")) (aNil)))) (mChain fLe fLe (mVar 1) (mCB FLen (aCons (mVar 0) (aNil))) (mVar 2)))
noncomputable def Q_is_tuple : MF := fnF 3 3 S_is_tuple
noncomputable def S_pick : MS := mSeq (sIf (mAnd (mOp fEq (mOp fIx (mVar 0) (mC (.int 2))) (mC (.int 0))) (mOp fLt (mOp fIx (mVar 0) (mC (.int 1))) (mCB FLen (aCons (mOp fIx (mVar 0) (mC (.int 0))) (aNil))))) (mSeq (sAsg (.nm 2) (mOp fIx (mOp fIx (mVar 0) (mC (.int 0))) (mOp fIx (mVar 0) (mC (.int 1))))) (mSeq (sSub (mVar 0) (mC (.int 1)) (mOp fAdd (mOp fIx (mVar 0) (mC (.int 1))) (mC (.int 1)))) (mSeq (sSub (mVar 0) (mC (.int 3)) (mOp fMod (mCB FInt (aCons (mOp fAdd (mOp fAdd (mOp fMul (mOp fIx (mVar 0) (mC (.int 3))) (mC (.int 69621))) (mVar 2)) (mC (.int 11))) (aNil))) (mC (.int 2147483629)))) (sIf (mOp fGe (mVar 2) (mOp fPow (mC (.int 10)) (mC (.int 18)))) (sSub (mVar 0) (mC (.int 2)) (mVar 2)) (mSkip))))) (mSkip)) (mSeq (sIf (mOp fGt (mOp fIx (mVar 0) (mC (.int 2))) (mC (.int 0))) (mSeq (sAsg (.nm 3) (mOp fMod (mCB FInt (aCons (mOp fIx (mVar 0) (mC (.int 2))) (aNil))) (mVar 1))) (mSeq (sSub (mVar 0) (mC (.int 2)) (mOp fDiv (mOp fIx (mVar 0) (mC (.int 2))) (mVar 1))) (sRet (mVar 3)))) (mSkip)) (mSeq (sSub (mVar 0) (mC (.int 4)) (mOp fAdd (mOp fIx (mVar 0) (mC (.int 4))) (mC (.int 1)))) (mSeq (sAsg (.nm 4) (mOp fMod (mCB FInt (aCons (mOp fMul (mCB FInt (aCons (mOp fAdd (mOp fIx (mVar 0) (mC (.int 3))) (mOp fMul (mC (.int 7919)) (mOp fIx (mVar 0) (mC (.int 4))))) (aNil))) (mC (.int 48271))) (aNil))) (mC (.int 2147483647)))) (mSeq (sAsg (.nm 4) (mOp fMod (mCB FInt (aCons (mOp fMul (mVar 4) (mOp fAdd (mOp fDiv (mVar 4) (mC (.int 1009))) (mC (.int 69621)))) (aNil))) (mC (.int 2147483647)))) (mSeq (sAsg (.nm 4) (mOp fMod (mCB FInt (aCons (mOp fMul (mVar 4) (mOp fAdd (mOp fDiv (mVar 4) (mC (.int 2003))) (mC (.int 40692)))) (aNil))) (mC (.int 2147483399)))) (sRet (mOp fMod (mCB FInt (aCons (mOp fDiv (mVar 4) (mC (.int 16))) (aNil))) (mVar 1))))))))
noncomputable def Q_pick : MF := fnF 5 2 S_pick
noncomputable def S_any : MS := sRet (mOp fIx (mVar 1) (mCB Q_pick (aCons (mVar 0) (aCons (mCB FLen (aCons (mVar 1) (aNil))) (aNil)))))
noncomputable def Q_any : MF := fnF 2 2 S_any
noncomputable def S_deep : MS := mSeq (sAsg (.nm 1) (mCB Q_any (aCons (mVar 0) (aCons (mLst (aCons (mC .non) (aCons (mC (.str "?")) (aCons (mDict0) (aNil))))) (aNil))))) (mSeq (sFor [2] (.nm 2) (iRange1 (aCons (mCB Q_any (aCons (mVar 0) (aCons (mLst (aCons (mC (.int 6)) (aCons (mC (.int 9)) (aCons (mC (.int 30)) (aNil))))) (aNil)))) (aNil))) (sAsg (.nm 1) (mCB Q_any (aCons (mVar 0) (aCons (mLst (aCons (mTup (aCons (mVar 1) (aNil))) (aCons (mLst (aCons (mVar 1) (aNil))) (aNil)))) (aNil)))))) (sRet (mVar 1)))
noncomputable def Q_deep : MF := fnF 3 1 S_deep
noncomputable def S_tape : MS := mSeq (sAsg (.nm 1) (mLc [2] (.nm 2) (iSeq (mSl (mVar 0) none (some (mC (.int 63))))) none (mCB FAbs (aCons (mCB FInt (aCons (mVar 2) (aNil))) (aNil))))) (sRet (mLstM (aCons (mVar 1) (aCons (mC (.int 0)) (aCons (mC (.int 0)) (aCons (mOp fAdd (mC (.int 31)) (mCB FLen (aCons (mVar 1) (aNil)))) (aCons (mC (.int 0)) (aNil))))))))
noncomputable def Q_tape : MF := fnK 3 1 S_tape

@[simp] theorem fAdd_int {i j : Int} {h : Hd} : fAdd (.int i) (.int j) h = .ok (.int (i + j)) h := rfl
@[simp] theorem fSub_int {i j : Int} {h : Hd} : fSub (.int i) (.int j) h = .ok (.int (i - j)) h := rfl
theorem fMul_int {i j : Int} {h : Hd} (e : small64 i = true ∨ small64 j = true) : fMul (.int i) (.int j) h = .ok (.int (i * j)) h := by
  unfold fMul; simp only; rw [if_pos (by rcases e with e | e <;> simp [e])]
theorem fDiv_int {i j : Int} {h : Hd} (h0 : 0 < j) (h1 : j < 2 ^ 64) : fDiv (.int i) (.int j) h = .ok (.int (i / j)) h := by
  unfold fDiv; simp only
  have k : ((2 ^ 64 : Nat) : Int) ≤ ((2 ^ 9000 : Nat) : Int) := Int.ofNat_le.mpr (Nat.pow_le_pow_right (by decide) (by decide))
  rw [Int.natCast_pow, Int.natCast_pow] at k
  have : j < 2 ^ 9000 := Int.lt_of_lt_of_le h1 k
  rw [if_pos (by simp [h0, this])]
theorem fMod_int {i j : Int} {h : Hd} (h0 : 0 < j) : fMod (.int i) (.int j) h = .ok (.int (i % j)) h := by
  unfold fMod; simp only; rw [if_pos (by simp [h0])]
@[simp] theorem fNeg_int {i : Int} {h : Hd} : fNeg (.int i) h = .ok (.int (-i)) h := rfl
@[simp] theorem fLe_int {i j : Int} {h : Hd} : fLe (.int i) (.int j) h = .ok (.bl (decide (i ≤ j))) h := rfl
@[simp] theorem fLt_int {i j : Int} {h : Hd} : fLt (.int i) (.int j) h = .ok (.bl (decide (i < j))) h := rfl
@[simp] theorem fGt_int {i j : Int} {h : Hd} : fGt (.int i) (.int j) h = .ok (.bl (decide (i > j))) h := rfl
@[simp] theorem fGe_int {i j : Int} {h : Hd} : fGe (.int i) (.int j) h = .ok (.bl (decide (i ≥ j))) h := rfl
@[simp] theorem shp_int {i : Int} : shp (.int i) = true := rfl
@[simp] theorem top_int {h : Hd} {i : Int} : top h (.int i) = .int i := rfl
@[simp] theorem fEq_int {i j : Int} {h : Hd} : fEq (.int i) (.int j) h = .ok (.bl (decide (i = j))) h := by
  unfold fEq; simp [toPy, PyData.eqv]; exact Bool.eq_iff_iff.mpr (by simp)
@[simp] theorem fNe_int {i j : Int} {h : Hd} : fNe (.int i) (.int j) h = .ok (.bl (!decide (i = j))) h := by
  unfold fNe; simp [toPy, PyData.eqv]; exact Bool.eq_iff_iff.mpr (by simp)
@[simp] theorem FLen_arr {xs : List D} {h : Hd} : FLen [.arr xs] h = .ok (.int xs.length) h := rfl
@[simp] theorem FLen_tup {xs : List D} {h : Hd} : FLen [.tup xs] h = .ok (.int xs.length) h := rfl
@[simp] theorem FInt_int {i : Int} {h : Hd} : FInt [.int i] h = .ok (.int i) h := rfl
@[simp] theorem FAbs_int {i : Int} {h : Hd} : FAbs [.int i] h = .ok (.int (if i < 0 then -i else i)) h := rfl
theorem s64_lit {i : Int} (h0 : -18446744073709551616 < i) (h1 : i < 18446744073709551616) : small64 i = true := by unfold small64; rw [decide_eq_true_eq]; omega
/-! ### the checks -/
/-- an int and no flag -/
def isI : D → Bool
  | .int _ => true
  | _ => false
/-- what isinstance may be asked of -/
def hasHd (h : Hd) (d : D) : Prop := (hdP h d).isSome = true ∧ d.isX = false
theorem isi_int {h : Hd} {d : D} {p : PyData} (hp : hdP h d = some p) : isI d = (p.isInt && !p.isBool) := by
  cases d with
  | ref i =>
    simp only [hdP] at hp
    split at hp <;> first | (cases hp; rfl) | cases hp
  | _ => first | (cases hp; rfl) | cases hp
theorem FIsi_eq {h : Hd} {d : D} {p : PyData} {n : String} {b : Bool} (hp : hdP h d = some p) (e : isTy p n = some b) : FIsi [d, .ty n] h = .ok (.bl b) h := by unfold FIsi; simp only [hp, Option.bind_some, e]
theorem is_integer_eq {h : Hd} {d : D} (hd : hasHd h d) : Q_is_integer [d] h = .ok (.bl (isI d)) h := by
  refine fnF_rt rfl ?_ rfl
  obtain ⟨hd, hx⟩ := hd
  obtain ⟨p, hp⟩ := Option.isSome_iff_exists.mp hd
  rw [isi_int hp]
  have e1 := FIsi_eq (h := h) hp (n := "int") rfl
  have e2 := FIsi_eq (h := h) hp (n := "bool") rfl
  simp [S_is_integer, hx, e1, e2]
  cases p <;> rfl
/-- lo <= d <= hi -/
def wI : D → Int → Int → Bool
  | .int i, lo, hi => decide (lo ≤ i) && decide (i ≤ hi)
  | _, _, _ => false
theorem is_within_eq {h : Hd} {d : D} {lo hi : Int} (hd : hasHd h d) : Q_is_within [d, .int lo, .int hi] h = .ok (.bl (wI d lo hi)) h := by
  refine fnF_rt rfl ?_ rfl
  simp [S_is_within, hd.2, is_integer_eq hd, startS_eq]
  cases d <;> simp [isI, wI]
  rename_i i
  by_cases e : lo ≤ i <;> simp [e]
def tI : D → Int → Int → Bool
  | .tup xs, lo, hi => decide (lo ≤ xs.length) && decide ((xs.length : Int) ≤ hi)
  | _, _, _ => false
theorem is_tuple_eq {h : Hd} {d : D} {lo hi : Int} (hd : hasHd h d) : Q_is_tuple [d, .int lo, .int hi] h = .ok (.bl (tI d lo hi)) h := by
  refine fnF_rt rfl ?_ rfl
  obtain ⟨hd, hx⟩ := hd
  obtain ⟨p, hp⟩ := Option.isSome_iff_exists.mp hd
  have e1 := FIsi_eq (h := h) hp (n := "tuple") rfl
  simp [S_is_tuple, hx, startS_eq, e1]
  cases d with
  | ref i =>
    simp only [hdP] at hp
    split at hp <;> first | (cases hp; simp [PyData.isTuple, tI]; done) | cases hp
  | tup xs =>
    cases hp
    simp [PyData.isTuple, tI]
    by_cases e : lo ≤ xs.length <;> simp [e]
  | _ => first | (cases hp; simp [PyData.isTuple, tI]; done) | cases hp
@[simp] theorem hasHd_int {h : Hd} {i : Int} : hasHd h (.int i) := ⟨rfl, rfl⟩
@[simp] theorem hasHd_non {h : Hd} : hasHd h .non := ⟨rfl, rfl⟩
@[simp] theorem hasHd_bl {h : Hd} {i : Bool} : hasHd h (.bl i) := ⟨rfl, rfl⟩
@[simp] theorem hasHd_str {h : Hd} {i : Str} : hasHd h (.str i) := ⟨rfl, rfl⟩
@[simp] theorem hasHd_tup {h : Hd} {i : List D} : hasHd h (.tup i) := ⟨rfl, rfl⟩
@[simp] theorem hasHd_arr {h : Hd} {i : List D} : hasHd h (.arr i) := ⟨rfl, rfl⟩
@[simp] theorem hasHd_dk {h : Hd} {i : List (Key × D)} : hasHd h (.dk i) := ⟨rfl, rfl⟩
/-! ### the tape -/
/-- the tape as the heap's one object -/
def TH (cs : List Int) (p b x t : Int) : Hd := [.lst [.arr (cs.map D.int), .int p, .int b, .int x, .int t]]
section
variable {cs : List Int} {p b x t v : Int}
@[simp] theorem TH_ix0 : fIx (.ref 0) (.int 0) (TH cs p b x t) = .ok (.arr (cs.map D.int)) (TH cs p b x t) := rfl
@[simp] theorem TH_ix1 : fIx (.ref 0) (.int 1) (TH cs p b x t) = .ok (.int p) (TH cs p b x t) := rfl
@[simp] theorem TH_ix2 : fIx (.ref 0) (.int 2) (TH cs p b x t) = .ok (.int b) (TH cs p b x t) := rfl
@[simp] theorem TH_ix3 : fIx (.ref 0) (.int 3) (TH cs p b x t) = .ok (.int x) (TH cs p b x t) := rfl
@[simp] theorem TH_ix4 : fIx (.ref 0) (.int 4) (TH cs p b x t) = .ok (.int t) (TH cs p b x t) := rfl
@[simp] theorem TH_set1 : setL (.ref 0) (.int 1) (.int v) (TH cs p b x t) = some (TH cs v b x t) := rfl
@[simp] theorem TH_set2 : setL (.ref 0) (.int 2) (.int v) (TH cs p b x t) = some (TH cs p v x t) := rfl
@[simp] theorem TH_set3 : setL (.ref 0) (.int 3) (.int v) (TH cs p b x t) = some (TH cs p b v t) := rfl
@[simp] theorem TH_set4 : setL (.ref 0) (.int 4) (.int v) (TH cs p b x t) = some (TH cs p b x v) := rfl
@[simp] theorem TH_len : (TH cs p b x t).length = 1 := rfl
end
/-- a tape in use -/
def Tp (h : Hd) : Prop := ∃ cs p b x t, h = TH cs p b x t ∧ 0 ≤ p ∧ (∀ c ∈ cs, (0 : Int) ≤ c) ∧ 0 ≤ b ∧ 0 ≤ x ∧ x < 2147483648 ∧ 0 ≤ t
theorem Tp.len {h : Hd} (T : Tp h) : h.length = 1 := by obtain ⟨_, _, _, _, _, rfl, _⟩ := T; rfl
theorem fIx_ints {cs : List Int} {p : Int} {h : Hd} (h0 : 0 ≤ p) (h1 : p < cs.length) : ∃ c, c ∈ cs ∧ fIx (.arr (cs.map D.int)) (.int p) h = .ok (.int c) h := by
  have hl : p.toNat < cs.length := by omega
  refine ⟨cs[p.toNat], List.getElem_mem hl, ?_⟩
  have e : atI (cs.map D.int) p = some (.int cs[p.toNat]) := by
    unfold atI ixN
    rw [if_pos h0, if_pos (by rw [List.length_map]; exact h1), Option.bind_some, List.getElem?_map, List.getElem?_eq_getElem hl]
    rfl
  show (match (some (cs.map D.int) : Option (List D)) with
      | some xs => match atI xs p with
        | some x => Res.ok x h
        | none => .stuck
      | none => .stuck) = _
  simp only [e]
theorem pow18 {h : Hd} : fPow (.int 10) (.int 18) h = .ok (.int 1000000000000000000) h := by
  unfold fPow; simp only; rw [if_pos (by decide)]; rfl
/-- the second half of a pick: out of a cell, or a number made -/
theorem pick_end {cs : List Int} {p b x t m : Int} {o : Option D} (hc : ∀ c ∈ cs, (0 : Int) ≤ c) (hp : 0 ≤ p) (hb : 0 ≤ b) (hx : 0 ≤ x) (hx2 : x < 2147483648) (ht : 0 ≤ t) (hm : 1 ≤ m) (hm2 : m < 2 ^ 64) :
    ∃ d h', (mSeq (sIf (mOp fGt (mOp fIx (mVar 0) (mC (.int 2))) (mC (.int 0))) (mSeq (sAsg (.nm 3) (mOp fMod (mCB FInt (aCons (mOp fIx (mVar 0) (mC (.int 2))) (aNil))) (mVar 1))) (mSeq (sSub (mVar 0) (mC (.int 2)) (mOp fDiv (mOp fIx (mVar 0) (mC (.int 2))) (mVar 1))) (sRet (mVar 3)))) (mSkip)) (mSeq (sSub (mVar 0) (mC (.int 4)) (mOp fAdd (mOp fIx (mVar 0) (mC (.int 4))) (mC (.int 1)))) (mSeq (sAsg (.nm 4) (mOp fMod (mCB FInt (aCons (mOp fMul (mCB FInt (aCons (mOp fAdd (mOp fIx (mVar 0) (mC (.int 3))) (mOp fMul (mC (.int 7919)) (mOp fIx (mVar 0) (mC (.int 4))))) (aNil))) (mC (.int 48271))) (aNil))) (mC (.int 2147483647)))) (mSeq (sAsg (.nm 4) (mOp fMod (mCB FInt (aCons (mOp fMul (mVar 4) (mOp fAdd (mOp fDiv (mVar 4) (mC (.int 1009))) (mC (.int 69621)))) (aNil))) (mC (.int 2147483647)))) (mSeq (sAsg (.nm 4) (mOp fMod (mCB FInt (aCons (mOp fMul (mVar 4) (mOp fAdd (mOp fDiv (mVar 4) (mC (.int 2003))) (mC (.int 40692)))) (aNil))) (mC (.int 2147483399)))) (sRet (mOp fMod (mCB FInt (aCons (mOp fDiv (mVar 4) (mC (.int 16))) (aNil))) (mVar 1)))))))) [some (.ref 0), some (.int m), o, none, none] (TH cs p b x t) = .rt (.int d) h' ∧ 0 ≤ d ∧ d < m ∧ Tp h' := by
  have hm0 : 0 < m := by omega
  by_cases e : b > 0
  · refine ⟨b % m, TH cs p (b / m) x t, ?_, Int.emod_nonneg _ (by omega), Int.emod_lt_of_pos _ hm0, cs, p, b / m, x, t, rfl, hp, hc, Int.ediv_nonneg hb (by omega), hx, hx2, ht⟩
    simp [e, fMod_int hm0, fDiv_int hm0 hm2]
  · have m1 : ∀ i : Int, 0 ≤ i % 2147483647 ∧ i % 2147483647 < 2147483647 := fun i => ⟨Int.emod_nonneg _ (by decide), Int.emod_lt_of_pos _ (by decide)⟩
    have k1 : ∀ (i : Int) (h : Hd), fMod (.int i) (.int 2147483647) h = .ok (.int (i % 2147483647)) h := fun i h => fMod_int (by decide)
    have k2 : ∀ (i : Int) (h : Hd), fMod (.int i) (.int 2147483399) h = .ok (.int (i % 2147483399)) h := fun i h => fMod_int (by decide)
    have k3 : ∀ (i : Int) (h : Hd), fMul (.int 7919) (.int i) h = .ok (.int (7919 * i)) h := fun i h => fMul_int (.inl (by decide))
    have k4 : ∀ (i : Int) (h : Hd), fMul (.int i) (.int 48271) h = .ok (.int (i * 48271)) h := fun i h => fMul_int (.inr (by decide))
    have k5 : ∀ (i : Int) (h : Hd), fDiv (.int i) (.int 1009) h = .ok (.int (i / 1009)) h := fun i h => fDiv_int (by decide) (by decide)
    have k6 : ∀ (i : Int) (h : Hd), fDiv (.int i) (.int 2003) h = .ok (.int (i / 2003)) h := fun i h => fDiv_int (by decide) (by decide)
    have k7 : ∀ (i : Int) (h : Hd), fDiv (.int i) (.int 16) h = .ok (.int (i / 16)) h := fun i h => fDiv_int (by decide) (by decide)
    have k8 : ∀ (i j : Int) (h : Hd), fMul (.int (i % 2147483647)) (.int j) h = .ok (.int (i % 2147483647 * j)) h := fun i j h => fMul_int (.inl (s64_lit (by have := m1 i; omega) (by have := m1 i; omega)))
    let n1 : Int := ((x + 7919 * (t + 1)) * 48271) % 2147483647
    let n2 : Int := (n1 * (n1 / 1009 + 69621)) % 2147483647
    let n3 : Int := (n2 * (n2 / 2003 + 40692)) % 2147483399
    refine ⟨n3 / 16 % m, TH cs p b x (t + 1), ?_, Int.emod_nonneg _ (by omega : m ≠ 0), Int.emod_lt_of_pos _ hm0, cs, p, b, x, t + 1, rfl, hp, hc, hb, hx, hx2, by omega⟩
    · simp only [mSeq_ap, sIf_ap, mOp_ap, mVar_zero, mVar_succ, mC_ap, isX_ref, isX_int, bind_ok, TH_ix2, TH_ix3, TH_ix4, fGt_int, thn_ok, e, decide_false, mSkip_ap, sSub_ap, fAdd_int, TH_set4, sAsg_nm, mCB_ap, aCons_ap, aNil_ap, FInt_int, k1, k2, k3, k4, k5, k6, k7, k8, List.set_cons_succ, List.set_cons_zero, sRet_ap, fMod_int hm0, n1, n2, n3]
theorem pick_ok {h : Hd} {m : Int} (T : Tp h) (hm : 1 ≤ m) (hm2 : m < 2 ^ 64) : ∃ d h', Q_pick [.ref 0, .int m] h = .ok (.int d) h' ∧ 0 ≤ d ∧ d < m ∧ Tp h' := by
  obtain ⟨cs, p, b, x, t, rfl, hp, hc, hb, hx, hx2, ht⟩ := T
  suffices ∃ d h', S_pick [some (.ref 0), some (.int m), none, none, none] (TH cs p b x t) = .rt (.int d) h' ∧ 0 ≤ d ∧ d < m ∧ Tp h' by
    obtain ⟨d, h', e, h1, h2, h3⟩ := this
    exact ⟨d, h', fnF_rt rfl e (by rw [h3.len]; rfl), h1, h2, h3⟩
  unfold S_pick
  rw [mSeq_ap]
  have hx3 : ∀ i : Int, 0 ≤ i % 2147483629 ∧ i % 2147483629 < 2147483648 := fun i => ⟨Int.emod_nonneg _ (by decide), by have := Int.emod_lt_of_pos i (show (0 : Int) < 2147483629 by decide); omega⟩
  have k1 : ∀ (i : Int) (h : Hd), fMod (.int i) (.int 2147483629) h = .ok (.int (i % 2147483629)) h := fun i h => fMod_int (by decide)
  have k2 : ∀ (i : Int) (h : Hd), fMul (.int i) (.int 69621) h = .ok (.int (i * 69621)) h := fun i h => fMul_int (.inr (by decide))
  by_cases hb0 : b = 0
  · by_cases hp0 : p < cs.length
    · obtain ⟨c, hcm, hix⟩ := fIx_ints (h := TH cs p b x t) hp hp0
      have c0 := hc c hcm
      by_cases hbig : c ≥ 1000000000000000000
      · have := pick_end (cs := cs) (p := p + 1) (b := c) (x := (x * 69621 + c + 11) % 2147483629) (t := t) (o := some (.int c)) hc (by omega) c0 (hx3 _).1 (hx3 _).2 ht hm hm2
        simpa [hb0, hp0, hix, k1, k2, pow18, hbig, hb0 ▸ hix] using this
      · have := pick_end (cs := cs) (p := p + 1) (b := b) (x := (x * 69621 + c + 11) % 2147483629) (t := t) (o := some (.int c)) hc (by omega) hb (hx3 _).1 (hx3 _).2 ht hm hm2
        simpa [hb0, hp0, hix, k1, k2, pow18, hbig, hb0 ▸ hix] using this
    · have := pick_end (cs := cs) (p := p) (b := b) (x := x) (t := t) (o := none) hc hp hb hx hx2 ht hm hm2
      simpa [hb0, hp0] using this
  · have := pick_end (cs := cs) (p := p) (b := b) (x := x) (t := t) (o := none) hc hp hb hx hx2 ht hm hm2
    simpa [hb0] using this
theorem sz_small {n : Nat} (h : n ≤ 1000000) : n ≤ sizeLine := by rw [sizeLine_eq]; omega
theorem fIx_arr {xs : List D} {i : Int} {h : Hd} (h0 : 0 ≤ i) (h1 : i < xs.length) : ∃ d ∈ xs, fIx (.arr xs) (.int i) h = .ok d h := by
  have hl : i.toNat < xs.length := by omega
  refine ⟨xs[i.toNat], List.getElem_mem hl, ?_⟩
  have e : atI xs i = some xs[i.toNat] := by
    unfold atI ixN
    rw [if_pos h0, if_pos h1, Option.bind_some, List.getElem?_eq_getElem hl]
  show (match (some xs : Option (List D)) with
      | some xs => match atI xs i with
        | some x => Res.ok x h
        | none => .stuck
      | none => .stuck) = _
  simp only [e]
theorem any_ok {h : Hd} {xs : List D} (T : Tp h) (hx : xs ≠ []) (hl : xs.length ≤ 1000000) : ∃ d h', Q_any [.ref 0, .arr xs] h = .ok d h' ∧ d ∈ xs ∧ Tp h' := by
  have hl1 : 1 ≤ xs.length := List.length_pos_iff.mpr hx
  obtain ⟨k, h1, e1, k0, k1, T1⟩ := pick_ok (m := xs.length) T (by omega) (by omega)
  obtain ⟨d, hd, e2⟩ := fIx_arr (xs := xs) (i := k) (h := h1) k0 (by omega)
  refine ⟨d, h1, fnF_rt rfl ?_ (by rw [T1.len, T.len]), hd, T1⟩
  simp [S_any, startS_eq, e1, e2]
/-- a thing n deep -/
inductive Deep : D → Nat → Prop
  | non : Deep .non 0
  | q : Deep (.str "?") 0
  | dk : Deep (.dk []) 0
  | tup {d : D} {n : Nat} : Deep d n → Deep (.tup [d]) (n + 1)
  | arr {d : D} {n : Nat} : Deep d n → Deep (.arr [d]) (n + 1)
theorem Deep.isX {d : D} {n : Nat} (p : Deep d n) : d.isX = false := by cases p <;> rfl
theorem Deep.hd {d : D} {n : Nat} (p : Deep d n) {h : Hd} : hasHd h d := by cases p <;> exact ⟨rfl, rfl⟩
theorem rgD_length {lo : Int} {n : Nat} : (rgD lo n).length = n := by unfold rgD; rw [List.length_map, List.length_range]
theorem iRg1_ok {n : Int} {h : Hd} (h0 : 0 ≤ n) (h1 : n ≤ 16777216) : iRg1 [.int n] h = .ok (rgD 0 n.toNat) h := by
  unfold iRg1; simp only; rw [if_pos (by simp; omega)]
theorem deep_ok {h : Hd} (T : Tp h) : ∃ d h' n, Q_deep [.ref 0] h = .ok d h' ∧ Deep d n ∧ 6 ≤ n ∧ n ≤ 30 ∧ Tp h' := by
  obtain ⟨d0, h1, e1, m1, T1⟩ := any_ok (xs := [.non, .str "?", .dk []]) T (by simp) (by simp)
  obtain ⟨k, h2, e2, m2, T2⟩ := any_ok (xs := [.int 6, .int 9, .int 30]) T1 (by simp) (by simp)
  have hk : ∃ n : Nat, k = .int n ∧ 6 ≤ n ∧ n ≤ 30 := by
    simp at m2
    rcases m2 with rfl | rfl | rfl
    · exact ⟨6, rfl, by omega, by omega⟩
    · exact ⟨9, rfl, by omega, by omega⟩
    · exact ⟨30, rfl, by omega, by omega⟩
  obtain ⟨n, rfl, hn1, hn2⟩ := hk
  have p0 : Deep d0 0 := by
    simp at m1
    rcases m1 with rfl | rfl | rfl
    · exact .non
    · exact .q
    · exact .dk
  obtain ⟨s', h3, e3, T3, d, j, rfl, pd, hj⟩ := forL_inv (ks := [2]) (t := .nm 2) (body := sAsg (.nm 1) (mCB Q_any (aCons (mVar 0) (aCons (mLst (aCons (mTup (aCons (mVar 1) (aNil))) (aCons (mLst (aCons (mVar 1) (aNil))) (aNil)))) (aNil)))))
    (fun ds s h => Tp h ∧ ∃ d j, s = [some (.ref 0), some d, none] ∧ Deep d j ∧ j + ds.length = n) (rgD 0 n) [some (.ref 0), some d0, none] h2 ⟨T2, d0, 0, rfl, p0, by rw [rgD_length]; omega⟩
    (by
      rintro x ds s h ⟨T, d, j, rfl, pd, hj⟩
      obtain ⟨d', h', e, m, T'⟩ := any_ok (xs := [.tup [d], .arr [d]]) T (by simp) (by simp)
      refine ⟨[some (.ref 0), some d, some x], [some (.ref 0), some d', some x], h', by simp, .inl ?_, T', d', j + 1, by simp, ?_, by simp at hj ⊢; omega⟩
      · have z : 1 ≤ sizeLine := sz_small (by omega)
        have z2 : 2 ≤ sizeLine := sz_small (by omega)
        simp [pd.isX, z, z2, e]
      · simp at m
        rcases m with rfl | rfl
        · exact .tup pd
        · exact .arr pd)
  refine ⟨d, h3, j, fnF_rt rfl ?_ (by rw [T3.len, T.len]), pd, by simp at hj; omega, by simp at hj; omega, T3⟩
  have z3 : 3 ≤ sizeLine := sz_small (by omega)
  have er : iRg1 [.int (n : Int)] h2 = .ok (rgD 0 n) h2 := by rw [iRg1_ok (by omega) (by omega)]; simp
  simp only [S_deep, mSeq_ap, sAsg_nm, mCB_ap, aCons_ap, aNil_ap, mC_ap, mLst_ap, mDict0_ap, bind_ok, startS_eq, mVar_zero, mVar_succ, isX_ref, List.length_cons, List.length_nil, z3, if_true, List.map_cons, List.map_nil, List.cons_append, List.nil_append, e1, thn_ok, List.set_cons_succ, List.set_cons_zero, List.replicate]
  simp [z3, e2, er, e3, pd.isX]
theorem cut_front {xs : List D} {k : Int} (h0 : 0 ≤ k) : cutD xs none (some k) = xs.take k.toNat := by
  unfold cutD HT.sIx
  simp only
  rw [if_neg (by omega), Nat.sub_zero, List.drop_zero, ← List.take_eq_take_min]
theorem cut_back {xs : List D} {k : Int} (h0 : 0 ≤ k) : cutD xs (some k) none = xs.drop k.toNat := by
  unfold cutD HT.sIx
  simp only
  rw [if_neg (by omega)]
  by_cases h : k.toNat ≤ xs.length
  · rw [Nat.min_eq_left h, List.take_of_length_le (by rw [List.length_drop]; exact Nat.le_refl _)]
  · rw [Nat.min_eq_right (by omega), Nat.sub_self, List.take_zero, List.drop_eq_nil_of_le (by omega)]
theorem tape_ok {ns : List Int} (hl : ns.length ≤ 1000) : ∃ h', Q_tape [.scr ns] [] = .ok (.ref 0) h' ∧ Tp h' := by
  let cs := (ns.take 63).map fun i => if i < 0 then -i else i
  refine ⟨TH cs 0 0 (31 + cs.length) 0, ?_, cs, 0, 0, 31 + cs.length, 0, rfl, by omega, fun c hc => ?_, by omega, by omega, ?_, by omega⟩
  · have e1 : compL [2] (.nm 2) none (mCB FAbs (aCons (mCB FInt (aCons (mVar 2) aNil)) aNil)) ((ns.take 63).map D.int) [] [some (.scr ns), none, none] [] = .ok (cs.map D.int) [] := by
      rw [compL_map (fun d => match d with | .int i => .int (if i < 0 then -i else i) | d => d)]
      · show Res.ok ([] ++ ((ns.take 63).map D.int).map _) [] = _
        rw [List.nil_append, List.map_map, List.map_map]
        rfl
      · intro d hd
        obtain ⟨i, _, rfl⟩ := List.mem_map.mp hd
        exact ⟨_, bindT_nm, by simp⟩
    have hz : (ns.take 63).length ≤ sizeLine := sz_small (by rw [List.length_take]; omega)
    have hz5 : 5 ≤ sizeLine := sz_small (by omega)
    have ec : fSl (.scr ns) none (some 63) [] = .ok (.arr ((ns.take 63).map D.int)) [] := by
      show Res.ok (D.arr (cutD (ns.map D.int) none (some 63))) [] = _
      rw [cut_front (by omega), ← List.map_take]; rfl
    unfold Q_tape fnK
    simp only [List.length_singleton, if_true]
    simp only [S_tape, mSeq_ap, sAsg_nm, mLc_ap, iSeq_ap, mSl_ap, startS_eq, List.map_cons, List.map_nil, List.length_cons, List.length_nil, List.replicate, List.cons_append, List.nil_append, mVar_zero, isX_scr, bind_ok, optM_none, optM_some, mC_ap, ec, List.length_map, hz, if_true, e1, noX_ok, thn_ok, List.set_cons_succ, List.set_cons_zero]
    simp [hz5]
    rfl
  · obtain ⟨i, _, rfl⟩ := List.mem_map.mp hc
    show 0 ≤ if i < 0 then -i else i
    split <;> omega
  · have : cs.length ≤ 63 := by simp only [cs, List.length_map, List.length_take]; omega
    omega
end RX

set_option Elab.async false
set_option linter.all false
set_option maxRecDepth 100000
set_option maxHeartbeats 4000000
namespace RX
open PySem PySem.Spec PyProof.Rows L2
/-! ### tuples and lists of ints -/
abbrev ti (ns : List Int) : D := .tup (ns.map D.int)
abbrev li (ns : List Int) : D := .arr (ns.map D.int)
theorem isDL_ints : ∀ ns : List Int, isDL (ns.map D.int) = true
  | [] => rfl
  | n :: ns => by simp [isDL, isD, isDL_ints ns]
theorem depthAll_ints : ∀ ns : List Int, PyData.depthAll (toPyL (ns.map D.int)) = 0
  | [] => rfl
  | n :: ns => by
    rw [List.map_cons, toPyL, PyData.depthAll, depthAll_ints ns]
    rfl
@[simp] theorem shp_ti {ns : List Int} : shp (ti ns) = true := by
  unfold shp dep
  rw [isD, isDL_ints, toPy, PyData.depth, depthAll_ints]
  rfl
@[simp] theorem shp_li {ns : List Int} : shp (li ns) = true := by
  unfold shp dep
  rw [isD, isDL_ints, toPy, PyData.depth, depthAll_ints]
  rfl
@[simp] theorem top_tup {h : Hd} {xs : List D} : top h (.tup xs) = .tup xs := rfl
@[simp] theorem top_arr {h : Hd} {xs : List D} : top h (.arr xs) = .arr xs := rfl
@[simp] theorem top_str {h : Hd} {x : Str} : top h (.str x) = .str x := rfl
@[simp] theorem top_bl {h : Hd} {x : Bool} : top h (.bl x) = .bl x := rfl
@[simp] theorem top_non {h : Hd} : top h .non = .non := rfl
@[simp] theorem shp_str {x : Str} : shp (.str x) = true := rfl
@[simp] theorem shp_bl {x : Bool} : shp (.bl x) = true := rfl
@[simp] theorem shp_non : shp .non = true := rfl
theorem eqvAll_ints : ∀ ns ms : List Int, PyData.eqvAll (toPyL (ns.map D.int)) (toPyL (ms.map D.int)) = decide (ns = ms)
  | [], [] => rfl
  | [], _ :: _ => rfl
  | _ :: _, [] => rfl
  | n :: ns, m :: ms => by
    rw [List.map_cons, List.map_cons, toPyL, toPyL, PyData.eqvAll, eqvAll_ints ns ms]
    apply Bool.eq_iff_iff.mpr
    simp [toPy, PyData.eqv]
theorem eqv_ti {ns ms : List Int} : PyData.eqv (toPy (ti ns)) (toPy (ti ms)) = decide (ns = ms) := by
  rw [toPy, toPy, PyData.eqv, eqvAll_ints]
theorem eqv_li {ns ms : List Int} : PyData.eqv (toPy (li ns)) (toPy (li ms)) = decide (ns = ms) := by
  rw [toPy, toPy, PyData.eqv, eqvAll_ints]
@[simp] theorem fEq_ti {ns ms : List Int} {h : Hd} : fEq (ti ns) (ti ms) h = .ok (.bl (decide (ns = ms))) h := by
  unfold fEq; rw [top_tup, top_tup, shp_ti, shp_ti, eqv_ti]; rfl
@[simp] theorem fNe_ti {ns ms : List Int} {h : Hd} : fNe (ti ns) (ti ms) h = .ok (.bl (!decide (ns = ms))) h := by
  unfold fNe; rw [top_tup, top_tup, shp_ti, shp_ti, eqv_ti]; rfl
@[simp] theorem fEq_li {ns ms : List Int} {h : Hd} : fEq (li ns) (li ms) h = .ok (.bl (decide (ns = ms))) h := by
  unfold fEq; rw [top_arr, top_arr, shp_li, shp_li, eqv_li]; rfl
@[simp] theorem fNe_li {ns ms : List Int} {h : Hd} : fNe (li ns) (li ms) h = .ok (.bl (!decide (ns = ms))) h := by
  unfold fNe; rw [top_arr, top_arr, shp_li, shp_li, eqv_li]; rfl
theorem eqv_str {x y : Str} : PyData.eqv (.str x) (.str y) = decide (x = y) := by
  apply Bool.eq_iff_iff.mpr
  simp [PyData.eqv]
@[simp] theorem fEq_str {x y : Str} {h : Hd} : fEq (.str x) (.str y) h = .ok (.bl (decide (x = y))) h := by
  unfold fEq; rw [top_str, top_str, shp_str, shp_str, toPy, toPy, eqv_str]; rfl
@[simp] theorem fNe_str {x y : Str} {h : Hd} : fNe (.str x) (.str y) h = .ok (.bl (!decide (x = y))) h := by
  unfold fNe; rw [top_str, top_str, shp_str, shp_str, toPy, toPy, eqv_str]; rfl
/-- ints that are not long -/
def Small (ns : List Int) : Prop := ns.length ≤ 100000 ∧ ∀ n ∈ ns, n.natAbs < 10 ^ 12
theorem small_show {n : Int} (h : n.natAbs < 10 ^ 12) : (PyData.int n).showable = true ∧ (PyData.int n).leavesShort 13 = true := by
  constructor
  · unfold PyData.showable
    by_cases z : n.natAbs = 0
    · simp [z]
    · have : n.natAbs < 2 ^ 40 := Nat.lt_of_lt_of_le h (by decide)
      have := (Nat.log2_lt z).mpr this
      simp; omega
  · unfold PyData.leavesShort
    have := int_text_length_le10 (a := n) (k := 12) (by decide) h
    rw [PyData.shown_int]
    simp only [decide_eq_true_eq]
    exact Nat.le_trans (Nat.le_of_eq (PySem.ofString_length _)) this
theorem small_all : ∀ ns : List Int, (∀ n ∈ ns, n.natAbs < 10 ^ 12) → PyData.showableAll (toPyL (ns.map D.int)) = true ∧ PyData.leavesShortAll 13 (toPyL (ns.map D.int)) = true ∧ PyData.bulkAll (toPyL (ns.map D.int)) = ns.length
  | [], _ => ⟨rfl, rfl, rfl⟩
  | n :: ns, h => by
    obtain ⟨h1, h2, h3⟩ := small_all ns fun m hm => h m (List.mem_cons_of_mem _ hm)
    obtain ⟨k1, k2⟩ := small_show (h n List.mem_cons_self)
    rw [List.map_cons, toPyL, toPy]
    refine ⟨?_, ?_, ?_⟩
    · rw [PyData.showableAll, k1, h1]; rfl
    · rw [PyData.leavesShortAll, k2, h2]; rfl
    · rw [PyData.bulkAll, h3, PyData.bulk, List.length_cons]; omega
theorem rOk_ti {ns : List Int} (s : Small ns) : rOk (ti ns) = true := by
  obtain ⟨h1, h2, h3⟩ := small_all ns s.2
  have hs := shp_ti (ns := ns)
  unfold shp at hs
  rw [Bool.and_eq_true] at hs
  unfold rOk
  have e : isR (ti ns) = true := by unfold isR; exact hs.1
  rw [e, hs.2, toPy, PyData.showable, PyData.leavesShort, PyData.bulk, h1, h2, h3]
  have := s.1
  simp; omega
theorem rOk_li {ns : List Int} (s : Small ns) : rOk (li ns) = true := by
  obtain ⟨h1, h2, h3⟩ := small_all ns s.2
  have hs := shp_li (ns := ns)
  unfold shp at hs
  rw [Bool.and_eq_true] at hs
  unfold rOk
  have e : isR (li ns) = true := by unfold isR; exact hs.1
  rw [e, hs.2, toPy, PyData.showable, PyData.leavesShort, PyData.bulk, h1, h2, h3]
  have := s.1
  simp; omega
theorem FRepr_ti {ns : List Int} {h : Hd} (s : Small ns) : FRepr [ti ns] h = .ok (.str (toPy (ti ns)).shown) h := by
  show (if rOk (ti ns) then Res.ok (D.str (toPy (ti ns)).shown) h else Res.stuck) = _
  rw [if_pos (rOk_ti s)]
theorem FRepr_li {ns : List Int} {h : Hd} (s : Small ns) : FRepr [li ns] h = .ok (.str (toPy (li ns)).shown) h := by
  show (if rOk (li ns) then Res.ok (D.str (toPy (li ns)).shown) h else Res.stuck) = _
  rw [if_pos (rOk_li s)]
/-! ### sorted sets of ints below n -/
def upN (n : Nat) : List Int := (List.range n).map fun (i : Nat) => (i : Int)
def setI (n : Nat) (p : Int → Bool) : List Int := (upN n).filter p
theorem mem_upN {n : Nat} {x : Int} : x ∈ upN n ↔ 0 ≤ x ∧ x < n := by
  unfold upN
  rw [List.mem_map]
  constructor
  · rintro ⟨i, hi, rfl⟩
    rw [List.mem_range] at hi
    omega
  · rintro ⟨h0, h1⟩
    exact ⟨x.toNat, List.mem_range.mpr (by omega), by omega⟩
theorem upN_lt (n : Nat) : (upN n).Pairwise (· < ·) := by
  unfold upN
  rw [List.pairwise_map]
  exact List.pairwise_lt_range.imp fun h => by omega
theorem lt_nodup {l : List Int} (h : l.Pairwise (· < ·)) : l.Nodup := h.imp fun h => by omega
theorem lt_le {l : List Int} (h : l.Pairwise (· < ·)) : l.Pairwise (· ≤ ·) := h.imp fun h => by omega
theorem setI_lt {n : Nat} {p : Int → Bool} : (setI n p).Pairwise (· < ·) := (upN_lt n).filter _
theorem mem_setI {n : Nat} {p : Int → Bool} {x : Int} : x ∈ setI n p ↔ (0 ≤ x ∧ x < n) ∧ p x = true := by
  unfold setI; rw [List.mem_filter, mem_upN]
theorem setI_length {n : Nat} {p : Int → Bool} : (setI n p).length ≤ n := by
  refine Nat.le_trans (List.length_filter_le _ _) ?_
  unfold upN; rw [List.length_map, List.length_range]; exact Nat.le_refl _
/-- two increasing lists of the same members are one -/
theorem lt_ext {l m : List Int} (hl : l.Pairwise (· < ·)) (hm : m.Pairwise (· < ·)) (h : ∀ x, x ∈ l ↔ x ∈ m) : l = m := by
  have p : l.Perm m := (List.perm_ext_iff_of_nodup (lt_nodup hl) (lt_nodup hm)).mpr h
  exact PySem.W.ksm_same p (lt_le hl) (lt_le hm)
theorem lt_set {n : Nat} {l : List Int} (hl : l.Pairwise (· < ·)) (h : ∀ x ∈ l, 0 ≤ x ∧ x < (n : Int)) : l = setI n fun x => decide (x ∈ l) :=
  lt_ext hl setI_lt fun x => by
    rw [mem_setI]
    simp
    exact fun hx => h x hx
theorem lt_length {n : Nat} {l : List Int} (hl : l.Pairwise (· < ·)) (h : ∀ x ∈ l, 0 ≤ x ∧ x < (n : Int)) : l.length ≤ n := by
  rw [lt_set hl h]; exact setI_length
/-- sorted, of different ints below n -/
theorem sort_set {n : Nat} {l : List Int} (hl : l.Nodup) (h : ∀ x ∈ l, 0 ≤ x ∧ x < (n : Int)) : sortI l = setI n fun x => decide (x ∈ l) := by
  refine (sortI_is ?_ (lt_le setI_lt)).symm
  refine (List.perm_ext_iff_of_nodup (lt_nodup setI_lt) hl).mpr fun x => ?_
  rw [mem_setI]
  simp
  exact fun hx => h x hx
theorem sort_same {l : List Int} (h : l.Pairwise (· ≤ ·)) : sortI l = l := (sortI_is (List.Perm.refl _) h).symm
theorem sortI_mem {l : List Int} {x : Int} : x ∈ sortI l ↔ x ∈ l := (sortI_perm l).mem_iff
theorem sortI_length {l : List Int} : (sortI l).length = l.length := (sortI_perm l).length_eq
theorem sortI_lt {l : List Int} (h : l.Nodup) : (sortI l).Pairwise (· < ·) := by
  have h1 : (sortI l).Nodup := (sortI_perm l).nodup_iff.mpr h
  have h2 := sortI_sorted l
  exact (h2.and h1).imp fun ⟨a, b⟩ => by omega
/-! ### ranges -/
theorem rgD_upN {n : Nat} : rgD 0 n = (upN n).map D.int := by
  unfold rgD upN
  rw [List.map_map]
  apply List.map_congr_left
  intro i _
  simp
/-! ### dicts of ints, as sets -/
theorem any_key {k : Key} : ∀ {ks : List (Key × D)}, (ks.any fun q => decide (q.1 = k)) = true ↔ k ∈ ks.map (·.1)
  | [] => by simp
  | q :: ks => by
    rw [List.any_cons, Bool.or_eq_true, any_key (ks := ks), List.map_cons, List.mem_cons, decide_eq_true_eq]
    exact ⟨fun h => h.imp Eq.symm id, fun h => h.imp Eq.symm id⟩
theorem putD_keys {ks : List (Key × D)} {k : Key} {d : D} (h : (ks.map (·.1)).Nodup) : ((putD ks k d).map (·.1)).Nodup ∧ ∀ x, x ∈ (putD ks k d).map (·.1) ↔ x = k ∨ x ∈ ks.map (·.1) := by
  unfold putD
  split
  · rename_i e
    rw [any_key] at e
    have : (ks.map fun q => if q.1 = k then (q.1, d) else q).map (·.1) = ks.map (·.1) := by
      rw [List.map_map]
      apply List.map_congr_left
      intro q _
      show (if q.1 = k then (q.1, d) else q).1 = q.1
      split <;> rfl
    rw [this]
    exact ⟨h, fun x => ⟨.inr, fun z => by rcases z with rfl | z; exact e; exact z⟩⟩
  · rename_i e
    rw [any_key] at e
    rw [List.map_append]
    refine ⟨?_, fun x => by simp [or_comm]⟩
    rw [List.nodup_append]
    refine ⟨h, by simp, fun a ha b hb => ?_⟩
    simp at hb
    subst hb
    exact fun z => e (z ▸ ha)
theorem mergeD_keys : ∀ (more ks : List (Key × D)), (ks.map (·.1)).Nodup → ((mergeD ks more).map (·.1)).Nodup ∧ ∀ x, x ∈ (mergeD ks more).map (·.1) ↔ x ∈ more.map (·.1) ∨ x ∈ ks.map (·.1)
  | [], ks, h => ⟨h, fun x => by simp [mergeD]⟩
  | m :: more, ks, h => by
    obtain ⟨h1, h2⟩ := putD_keys (k := m.1) (d := m.2) h
    obtain ⟨h3, h4⟩ := mergeD_keys more (putD ks m.1 m.2) h1
    refine ⟨h3, fun x => ?_⟩
    show x ∈ (mergeD (putD ks m.1 m.2) more).map (·.1) ↔ _
    rw [h4, h2]
    simp only [List.map_cons, List.mem_cons]
    constructor
    · rintro (h | h | h)
      · exact .inl (.inr h)
      · exact .inl (.inl h)
      · exact .inr h
    · rintro ((h | h) | h)
      · exact .inr (.inl h)
      · exact .inl h
      · exact .inr (.inr h)
/-- the dict of the ints ns -/
def dictI (ns : List Int) (d : D) : List (Key × D) := mergeD [] (ns.map fun n => (Sum.inl n, d))
theorem intKeys_of : ∀ ks : List (Key × D), (∀ k ∈ ks.map (·.1), ∃ i, k = Sum.inl i) → ∃ ns, intKeys ks = some ns
  | [], _ => ⟨[], rfl⟩
  | (k, d) :: ks, h => by
    obtain ⟨i, hi⟩ := h k (by simp)
    subst hi
    obtain ⟨ns, e⟩ := intKeys_of ks fun k hk => h k (by rw [List.map_cons]; exact List.mem_cons_of_mem _ hk)
    exact ⟨i :: ns, by simp [intKeys, e]⟩
theorem sorted_dict {ns : List Int} {d : D} {n : Nat} {h : Hd} (hb : ∀ x ∈ ns, 0 ≤ x ∧ x < (n : Int)) (hn : n < 64) : FSorted2 [.dk (dictI ns d)] h = .ok (li (setI n fun x => decide (x ∈ ns))) h := by
  obtain ⟨h1, h2⟩ := mergeD_keys (ns.map fun n => ((Sum.inl n : Key), d)) [] (by simp)
  have h2 : ∀ x, x ∈ (dictI ns d).map (·.1) ↔ ∃ i ∈ ns, Sum.inl i = x := fun x => by
    rw [show dictI ns d = mergeD [] (ns.map fun n => ((Sum.inl n : Key), d)) from rfl, h2]
    simp
  obtain ⟨ms, e⟩ := intKeys_of (dictI ns d) fun k hk => by
    obtain ⟨i, _, rfl⟩ := (h2 k).mp hk
    exact ⟨i, rfl⟩
  have ek := intKeys_eq e
  have hm : ∀ x, x ∈ ms ↔ x ∈ ns := fun x => by
    have a : (Sum.inl x : Key) ∈ (dictI ns d).map (·.1) ↔ x ∈ ms := by rw [ek]; simp
    rw [← a, h2]
    simp
  have hnd : ms.Nodup := by
    have : (ms.map (Sum.inl : Int → Key)).Nodup := by rw [← ek]; exact h1
    unfold List.Nodup at this ⊢
    rw [List.pairwise_map] at this
    exact this.imp fun h z => h (by rw [z])
  have es : sortI ms = setI n fun x => decide (x ∈ ns) := by
    rw [sort_set hnd fun x hx => hb x ((hm x).mp hx)]
    congr 1
    funext x
    exact Bool.eq_iff_iff.mpr (by simp [hm])
  have hl : ms.length < 64 := by
    have := sortI_length (l := ms)
    rw [es] at this
    have := setI_length (n := n) (p := fun x => decide (x ∈ ns))
    omega
  unfold FSorted2
  simp only [e]
  rw [if_pos hl, es]
/-! ### dict comprehensions, loops -/
theorem dcL_map {vs : List Nat} {t : Tg} {mk mv : ME} {s : Sl} {h : Hd} (f : D → Key × D) : ∀ (ds : List D) (acc : List (Key × D)), (∀ d ∈ ds, ∃ s1 x, bindT t d (kill s vs) = some s1 ∧ mk s1 h = .ok x h ∧ keyOf x = some (f d).1 ∧ mv s1 h = .ok (f d).2 h) → dcL vs t none mk mv ds acc s h = .ok (mergeD acc (ds.map f)) h
  | [], acc, _ => by simp [dcL, mergeD]
  | d :: ds, acc, hf => by
    obtain ⟨s1, x, e1, e2, e3, e4⟩ := hf d List.mem_cons_self
    unfold dcL
    rw [e1]
    simp only [testR, bind_ok, e2, e3, e4]
    rw [dcL_map f ds _ fun d hd => hf d (List.mem_cons_of_mem _ hd)]
    rfl
/-- a loop, each turn known -/
theorem forL_fold {α : Type} {ks : List Nat} {t : Tg} {body : MS} (st : α → Sl × Hd) (f : α → D → α) : ∀ (ds : List D) (a : α),
    (∀ d ∈ ds, ∀ a, ∃ s1 s2, bindT t d (st a).1 = some s1 ∧ (body s1 (st a).2 = .nx s2 (st (f a d)).2 ∨ body s1 (st a).2 = .ct s2 (st (f a d)).2) ∧ kill s2 ks = (st (f a d)).1) → forL ks t body ds (st a).1 (st a).2 = .nx (st (ds.foldl f a)).1 (st (ds.foldl f a)).2
  | [], a, _ => rfl
  | d :: ds, a, hf => by
    obtain ⟨s1, s2, e1, e2, e3⟩ := hf d List.mem_cons_self a
    unfold forL
    rw [e1]
    have ih := forL_fold st f ds (f a d) fun d hd => hf d (List.mem_cons_of_mem _ hd)
    rcases e2 with e2 | e2 <;> (simp only [e2, e3]; exact ih)
theorem foldl_filter {α : Type} (p : α → Bool) : ∀ (ds acc : List α), ds.foldl (fun acc d => if p d then acc ++ [d] else acc) acc = acc ++ ds.filter p
  | [], acc => by simp
  | d :: ds, acc => by
    rw [List.foldl_cons, foldl_filter p ds, List.filter_cons]
    split <;> simp
/-- frz of a numbered list -/
theorem frz_lst {i j : Nat} {s : Sl} {h : Hd} {xs : List D} (e1 : s[i]? = some (some (.ref j))) (e2 : h[j]? = some (.lst xs)) : frz i s h = .nx (s.set i (some (.arr xs))) (h.set j .dead) := by
  unfold frz; rw [e1]; simp only; rw [e2]
theorem cleanL_ints {n : Nat} : ∀ ns : List Int, cleanL n (ns.map D.int) = true
  | [] => by simp [cleanL]
  | m :: ns => by simp [cleanL, cleanD, cleanL_ints ns]
@[simp] theorem clean_li {n : Nat} {ns : List Int} : cleanD n (li ns) = true := by rw [cleanD]; exact cleanL_ints ns
@[simp] theorem clean_ti {n : Nat} {ns : List Int} : cleanD n (ti ns) = true := by rw [cleanD]; exact cleanL_ints ns
@[simp] theorem lstOf_arr {h : Hd} {xs : List D} : lstOf h (.arr xs) = some xs := rfl
@[simp] theorem FTuple_arr {h : Hd} {xs : List D} : FTuple [.arr xs] h = .ok (.tup xs) h := rfl
@[simp] theorem FList_arr {h : Hd} {xs : List D} : FList [.arr xs] h = .ok (.arr xs) h := rfl
@[simp] theorem FList_tup {h : Hd} {xs : List D} : FList [.tup xs] h = .ok (.arr xs) h := rfl
theorem FSorted2_li {h : Hd} {ns : List Int} : FSorted2 [li ns] h = .ok (li (sortI ns)) h := by
  show FSorted [li ns] h = _
  unfold FSorted
  simp
theorem FAll_bl {h : Hd} {bs : List Bool} : FAll [.arr (bs.map D.bl)] h = .ok (.bl (bs.all id)) h := by
  unfold FAll; simp
theorem FAny_bl {h : Hd} {bs : List Bool} : FAny [.arr (bs.map D.bl)] h = .ok (.bl (bs.any id)) h := by
  unfold FAny; simp
end RX

set_option Elab.async false
set_option linter.all false
set_option maxRecDepth 100000
set_option maxHeartbeats 4000000
namespace RX
open PySem PySem.Spec PyProof.Rows L2
/-! ### lists that grow -/
theorem lstOf_end {h : Hd} {xs : List D} : lstOf (h ++ [.lst xs]) (.ref h.length) = some xs := by
  unfold lstOf
  simp only [List.getElem?_append_right (Nat.le_refl _), Nat.sub_self, List.getElem?_cons_zero]
theorem FAppend_end {h : Hd} {xs : List D} {x : D} (hl : xs.length < sizeLine) : FAppend (.ref h.length) [x] (h ++ [.lst xs]) = .ok .non (h ++ [.lst (xs ++ [x])]) := by
  unfold FAppend
  simp only [List.getElem?_append_right (Nat.le_refl _), Nat.sub_self, List.getElem?_cons_zero, hl, if_true, List.set_append_right _ _ (Nat.le_refl _), List.set_cons_zero]
/-- a loop that appends some -/
theorem forL_filter {ks : List Nat} {t : Tg} {body : MS} {s : Sl} {h : Hd} (p : D → Bool) : ∀ (ds acc : List D), acc.length + ds.length ≤ sizeLine →
    (∀ d ∈ ds, ∀ acc : List D, acc.length < sizeLine → ∃ s1 s2, bindT t d s = some s1 ∧ body s1 (h ++ [.lst acc]) = .nx s2 (h ++ [.lst (if p d then acc ++ [d] else acc)]) ∧ kill s2 ks = s) → forL ks t body ds s (h ++ [.lst acc]) = .nx s (h ++ [.lst (acc ++ ds.filter p)])
  | [], acc, _, _ => by rw [List.filter_nil, List.append_nil]; rfl
  | d :: ds, acc, hl, hf => by
    rw [List.length_cons] at hl
    obtain ⟨s1, s2, e1, e2, e3⟩ := hf d List.mem_cons_self acc (by omega)
    unfold forL
    rw [e1]
    simp only [e2, e3]
    have hl2 : (if p d then acc ++ [d] else acc).length + ds.length ≤ sizeLine := by
      split
      · rw [List.length_append, List.length_singleton]; omega
      · omega
    rw [forL_filter p ds _ hl2 fun d hd => hf d (List.mem_cons_of_mem _ hd)]
    rw [List.filter_cons]
    split <;> simp
theorem frz_end {i : Nat} {s : Sl} {h : Hd} {xs : List D} (e1 : s[i]? = some (some (.ref h.length))) : frz i s (h ++ [.lst xs]) = .nx (s.set i (some (.arr xs))) (h ++ [.dead]) := by
  rw [frz_lst e1 (xs := xs) (by simp), List.set_append_right _ _ (Nat.le_refl _), Nat.sub_self, List.set_cons_zero]
theorem isDL_ti : ∀ ts : List (List Int), isDL (ts.map ti) = true
  | [] => rfl
  | t :: ts => by
    have := isDL_ints t
    simp [isDL, isD, isDL_ti ts, this]
theorem fIn_ti {ts : List (List Int)} {t : List Int} {h : Hd} : fIn false (ti t) (.arr (ts.map ti)) h = .ok (.bl (ts.any fun z => decide (z = t))) h := by
  unfold fIn
  rw [top_arr, top_tup]
  simp only
  rw [isDL_ti, show shp (.tup (t.map D.int)) = true from shp_ti]
  simp only [Bool.and_self, if_true, if_false, List.any_map]
  have e : ∀ z, (((fun z => (toPy z).eqv (toPy (D.tup (List.map D.int t)))) ∘ ti) z) = decide (z = t) := fun z => eqv_ti
  rw [funext e]; rfl
theorem fIn_int {ns : List Int} {n : Int} {b : Bool} {h : Hd} : fIn b (.int n) (li ns) h = .ok (.bl (if b then !decide (n ∈ ns) else decide (n ∈ ns))) h := by
  unfold fIn
  rw [top_arr, top_int]
  simp only
  rw [isDL_ints, shp_int]
  have e : ((ns.map D.int).any fun z => PyData.eqv (toPy z) (toPy (D.int n))) = decide (n ∈ ns) := by
    apply Bool.eq_iff_iff.mpr
    simp [toPy, PyData.eqv]
  simp only [e, Bool.and_self, if_true]
theorem fIx_tup {xs : List D} {j : Nat} {d : D} {h : Hd} (e : xs[j]? = some d) : fIx (.tup xs) (.int j) h = .ok d h := by
  have hl : j < xs.length := by
    rcases List.getElem?_eq_some_iff.mp e with ⟨a, _⟩; exact a
  have e : atI xs j = some d := by
    unfold atI ixN
    rw [if_pos (by omega), if_pos (by omega), Option.bind_some, Int.toNat_natCast, e]
  show (match (some xs : Option (List D)) with
      | some xs => match atI xs (j : Int) with
        | some x => Res.ok x h
        | none => .stuck
      | none => .stuck) = _
  simp only [e]
theorem upN_at {n j : Nat} (h : j < n) : (upN n)[j]? = some (j : Int) := by
  unfold upN; rw [List.getElem?_map, List.getElem?_range h]; rfl
theorem fIx_upN {n : Nat} {f : Int → Int} {j : Int} {h : Hd} (h0 : 0 ≤ j) (h1 : j < n) : fIx (ti ((upN n).map f)) (.int j) h = .ok (.int (f j)) h := by
  obtain ⟨k, rfl⟩ := Int.eq_ofNat_of_zero_le h0
  refine fIx_tup ?_
  rw [List.getElem?_map, List.getElem?_map, upN_at (by omega)]
  rfl
theorem upN_succ {n : Nat} : upN (n + 1) = 0 :: (upN n).map (1 + ·) := by
  unfold upN
  rw [List.range_succ_eq_map, List.map_cons, List.map_map, List.map_map]
  congr 1
  apply List.map_congr_left
  intro i _
  simp; omega
theorem rgD_one {n : Nat} : rgD 1 n = ((upN n).map (1 + ·)).map D.int := by
  unfold rgD upN
  rw [List.map_map, List.map_map]
  rfl
theorem filter_int {p : D → Bool} {ns : List Int} : (ns.map D.int).filter p = (ns.filter fun i => p (.int i)).map D.int := by
  rw [List.filter_map]; rfl
/-! ### words -/
/-- what a lambda handed in gives, when its thunk ends -/
theorem mLam_exc {n : Nat} {m : ME} {bw : ME → MS} {s : Sl} {h : Hd} {r : Res D} {d : D} (e : m s h = r) (hw : exitR h (bw (actM 0 1000 h r) (startS n [.exc 1000]) h) = .ok d h) : mLam n m bw s h = .ok d h := by
  unfold mLam; rw [e, hw]; rfl
theorem actM_at {h : Hd} {r : Res D} {s : Sl} {k : Nat} (e : s[0]? = some (some (.exc k))) : actM 0 k h r s h = r := by
  unfold actM; rw [e]; simp only; rw [if_pos ⟨trivial, trivial⟩]
/-! ### the tape goes on, what was made besides is let go -/
theorem Tp.clean {h : Hd} (T : Tp h) : ∀ (i : Nat) (o : MO), i < 1 → h[i]? = some o → cleanO 1 o = true := by
  obtain ⟨cs, p, b, x, t, rfl, _⟩ := T
  intro i o hi e
  obtain rfl : i = 0 := by omega
  have e : MO.lst [.arr (cs.map D.int), .int p, .int b, .int x, .int t] = o := by simpa [TH] using e
  subst e
  have := cleanL_ints (n := 1) cs
  simp [cleanO, cleanL, cleanD, this]
theorem cut_tape {h h3 : Hd} {more : List MO} {d : D} (T : Tp h) (T3 : Tp h3) (hd : cleanD 1 d = true) : cutR h d (h3 ++ more) = .ok d h3 := by
  have l := T.len
  have l3 := T3.len
  unfold cutR
  by_cases z : (h3 ++ more).length = h.length
  · have : more = [] := by rw [List.length_append] at z; exact List.eq_nil_of_length_eq_zero (by omega)
    rw [if_pos z, this, List.append_nil]
  · rw [if_neg z, if_pos ⟨⟨by rw [List.length_append]; omega, fun i o hi ho => .inr (by
      rw [List.getElem?_append_left (by omega)] at ho
      rw [l]
      exact T3.clean i o (by omega) ho)⟩, by rw [l]; exact hd⟩, l, ← l3, List.take_left']
    rfl
theorem fnF_tape {n np : Nat} {b : MS} {ds : List D} {h h3 : Hd} {more : List MO} {d : D} (hl : ds.length = np) (e : b (startS n ds) h = .rt d (h3 ++ more)) (T : Tp h) (T3 : Tp h3) (hd : cleanD 1 d = true) : fnF n np b ds h = .ok d h3 := by
  unfold fnF; rw [if_pos hl, e]; exact cut_tape T T3 hd
end RX

set_option Elab.async false
set_option linter.all false
set_option maxRecDepth 100000
set_option maxHeartbeats 0
namespace L53
open PySem PySem.Spec PyProof.Rows L2 RX
def top (i : Nat) : Stmt := PySem.Challenge.pw_fairrounds_k53_whole_spots_made_by_steps.main.body.getD i (.Pass ⟨0, 0, 0, 0⟩)
def cat : Nat → Bool := fun m => decide (m ∈ [1, 2])
def kit : Nat → D → Option Bool := fun m d => if cat m then (match d with
  | .cls j => if cat j then some (decide (j = m)) else none
  | .ty n => if n = "ValueError" then some true else none
  | _ => none) else none
theorem kit1000 : ∀ d, kit 1000 d = none := fun d => by unfold kit; rw [if_neg (by decide)]

structure Top (P : Program) (mg : Str → Option Value) (G : Gc) : Prop where
  n_int : mg "int" = none
  n_isinstance : mg "isinstance" = none
  n_bool : mg "bool" = none
  n_tuple : mg "tuple" = none
  n_len : mg "len" = none
  n_all : mg "all" = none
  n_zip : mg "zip" = none
  n_range : mg "range" = none
  n_sorted : mg "sorted" = none
  n_any : mg "any" = none
  n_abs : mg "abs" = none
  n_ValueError : mg "ValueError" = none
  n_dict : mg "dict" = none
  n_repr : mg "repr" = none
  n_list : mg "list" = none
  i_MOST_RING : ∃ t, mg "MOST_RING" = some (.int 24 t)
  c_RoundError : mg "RoundError" = some (.ref (G.ca 0))
  c_NoNumber : mg "NoNumber" = some (.ref (G.ca 1))
  c_NoSpots : mg "NoSpots" = some (.ref (G.ca 2))
  f_is_integer : mg "is_integer" = some (.ref (G.fa 0))
  f_is_within : mg "is_within" = some (.ref (G.fa 1))
  f_is_tuple : mg "is_tuple" = some (.ref (G.fa 2))
  f_is_spots : mg "is_spots" = some (.ref (G.fa 3))
  f_check_spots : mg "check_spots" = some (.ref (G.fa 4))
  f_even_spots : mg "even_spots" = some (.ref (G.fa 5))
  f_turned : mg "turned" = some (.ref (G.fa 6))
  f_made_by : mg "made_by" = some (.ref (G.fa 7))
  f_steps_that_make : mg "steps_that_make" = some (.ref (G.fa 8))
  f_two_rings : mg "two_rings" = some (.ref (G.fa 9))
  f__law_tape : mg "_law_tape" = some (.ref (G.fa 10))
  f__law_pick : mg "_law_pick" = some (.ref (G.fa 11))
  f__law_any : mg "_law_any" = some (.ref (G.fa 12))
  f__law_deep : mg "_law_deep" = some (.ref (G.fa 13))
  f__law_spots : mg "_law_spots" = some (.ref (G.fa 14))
  f__law_no_ring : mg "_law_no_ring" = some (.ref (G.fa 15))
  f__law_no_spots : mg "_law_no_spots" = some (.ref (G.fa 16))
  f__law_word : mg "_law_word" = some (.ref (G.fa 17))
  f__law_made : mg "_law_made" = some (.ref (G.fa 18))
  f__law_steps : mg "_law_steps" = some (.ref (G.fa 19))
  f__law_is_right : mg "_law_is_right" = some (.ref (G.fa 20))
  f__law_is_refused : mg "_law_is_refused" = some (.ref (G.fa 21))
  f__law_word_of : mg "_law_word_of" = some (.ref (G.fa 22))
  f_law : mg "law" = some (.ref (G.fa 23))
  r_NoNumber : SupC P G.K (G.ca 1)
  r_NoSpots : SupC P G.K (G.ca 2)
  xm : ∀ m, cat m = true → PySem.W.exmOne G.K (.ref (G.ca m)) (.ref (G.ca 0)) = some true
  xc : ∀ m, cat m = true → ExcC G.K (G.ca m)
  kt : ∀ m, cat m = true → ∀ d b, kit m d = some b → ∃ cv, kitV G d = some cv ∧ PySem.W.kitOne G.K (.ref (G.ca m)) cv = some b
theorem Top.re {P : Program} {mg : Str → Option Value} {G G1 : Gc} (g : SameG G G1) (T : Top P mg G) : Top P mg G1 := by
  obtain ⟨K, fa, ca, Tt, ex, inv, mon⟩ := G
  obtain ⟨K1, fa1, ca1, Tt1, ex1, inv1, mon1⟩ := G1
  obtain ⟨h1, h2, h3, h4⟩ := g
  dsimp only at h1 h2 h3 h4
  subst h1 h2 h3 h4
  exact ⟨T.n_int, T.n_isinstance, T.n_bool, T.n_tuple, T.n_len, T.n_all, T.n_zip, T.n_range, T.n_sorted, T.n_any, T.n_abs, T.n_ValueError, T.n_dict, T.n_repr, T.n_list, T.i_MOST_RING, T.c_RoundError, T.c_NoNumber, T.c_NoSpots, T.f_is_integer, T.f_is_within, T.f_is_tuple, T.f_is_spots, T.f_check_spots, T.f_even_spots, T.f_turned, T.f_made_by, T.f_steps_that_make, T.f_two_rings, T.f__law_tape, T.f__law_pick, T.f__law_any, T.f__law_deep, T.f__law_spots, T.f__law_no_ring, T.f__law_no_spots, T.f__law_word, T.f__law_made, T.f__law_steps, T.f__law_is_right, T.f__law_is_refused, T.f__law_word_of, T.f_law, T.r_NoNumber, T.r_NoSpots, T.xm, T.xc, T.kt⟩

section
variable {P : Program} {w : World} {mg : Str → Option Value} {base : Heap} {G : Gc}
noncomputable def M_is_integer : MS := sRet (mAnd (mCB FIsi (aCons (mVar 0) (aCons (mC (.ty "int")) (aNil)))) (mNot (mCB FIsi (aCons (mVar 0) (aCons (mC (.ty "bool")) (aNil))))))
noncomputable def F_is_integer : MF := fnF 1 1 M_is_integer
theorem sc_is_integer : FnScope ["thing"] ["thing"] (defScope (top 1)) := ⟨rfl, rfl, rfl, by decide +kernel, rfl, by decide +kernel, by decide +kernel⟩
theorem ok_is_integer (T : Top P mg G)  {fd : FuncData} (FD : FunD G.K "is_integer" "is_integer" (defArgs (top 1)) (defBody (top 1)) (defScope (top 1)) [] [] (G.fa 0) fd) : FnO P w mg base G false 1 (G.fa 0) fd ["thing"] F_is_integer :=
  have sc := sc_is_integer
  fnO FD sc ⟨fun cdv A outer s H E hcd hr hg => (oksOne (okRet (okAnd (okCB fit_isi T.n_isinstance PyProof.Rows.Boot.«isinstance» (okaCons (okVar (i := 0)) (okaCons (okTy T.n_int PyProof.Rows.Boot.«int») okaNil))) (okBool1 (okNot (okCB fit_isi T.n_isinstance PyProof.Rows.Boot.«isinstance» (okaCons (okVar (i := 0)) (okaCons (okTy T.n_bool PyProof.Rows.Boot.«bool») okaNil))))))))⟩

noncomputable def M_is_within : MS := sRet (mAnd (mCB F_is_integer (aCons (mVar 0) (aNil))) (mChain fLe fLe (mVar 1) (mVar 0) (mVar 2)))
noncomputable def F_is_within : MF := fnF 3 3 M_is_within
theorem sc_is_within : FnScope ["thing", "least", "most"] ["thing", "least", "most"] (defScope (top 2)) := ⟨rfl, rfl, rfl, by decide +kernel, rfl, by decide +kernel, by decide +kernel⟩
theorem ok_is_within (T : Top P mg G) (d_is_integer : Dfn P w mg base G false 1 0 "is_integer" ["thing"] F_is_integer) {fd : FuncData} (FD : FunD G.K "is_within" "is_within" (defArgs (top 2)) (defBody (top 2)) (defScope (top 2)) [] [] (G.fa 1) fd) : FnO P w mg base G false 2 (G.fa 1) fd ["thing", "least", "most"] F_is_within :=
  have sc := sc_is_within
  fnO FD sc ⟨fun cdv A outer s H E hcd hr hg => (oksOne (okRet (okAnd (okF d_is_integer (hr.mono (by decide)) (fun z => by cases z) (takes_of rfl rfl rfl rfl) (okaCons (okVar (i := 0)) okaNil)) (okBool1 (okChain fit_le fit_le (okVar (i := 1)) (okVar (i := 0)) (okVar (i := 2)))))))⟩

noncomputable def M_is_tuple : MS := sRet (mAnd (mCB FIsi (aCons (mVar 0) (aCons (mC (.ty "tuple")) (aNil)))) (mChain fLe fLe (mVar 1) (mCB FLen (aCons (mVar 0) (aNil))) (mVar 2)))
noncomputable def F_is_tuple : MF := fnF 3 3 M_is_tuple
theorem sc_is_tuple : FnScope ["thing", "least", "most"] ["thing", "least", "most"] (defScope (top 3)) := ⟨rfl, rfl, rfl, by decide +kernel, rfl, by decide +kernel, by decide +kernel⟩
theorem ok_is_tuple (T : Top P mg G)  {fd : FuncData} (FD : FunD G.K "is_tuple" "is_tuple" (defArgs (top 3)) (defBody (top 3)) (defScope (top 3)) [] [] (G.fa 2) fd) : FnO P w mg base G false 1 (G.fa 2) fd ["thing", "least", "most"] F_is_tuple :=
  have sc := sc_is_tuple
  fnO FD sc ⟨fun cdv A outer s H E hcd hr hg => (oksOne (okRet (okAnd (okCB fit_isi T.n_isinstance PyProof.Rows.Boot.«isinstance» (okaCons (okVar (i := 0)) (okaCons (okTy T.n_tuple PyProof.Rows.Boot.«tuple») okaNil))) (okBool1 (okChain fit_le fit_le (okVar (i := 1)) (okCB fit_len T.n_len PyProof.Rows.Boot.«len» (okaCons (okVar (i := 0)) okaNil)) (okVar (i := 2)))))))⟩

noncomputable def M_is_spots : MS := mSeq (sIf (mOr (mNot (mCB F_is_within (aCons (mVar 0) (aCons (mC (.int 1)) (aCons (mC (.int 24)) (aNil)))))) (mNot (mCB F_is_tuple (aCons (mVar 1) (aCons (mC (.int 0)) (aCons (mVar 0) (aNil))))))) (sRet (mC (.bl false))) (mSkip)) (mSeq (sIf (mNot (mCB FAll (aCons (mLc [4] (.nm 4) (iSeq (mVar 1)) none (mCB F_is_within (aCons (mVar 4) (aCons (mC (.int 0)) (aCons (mOp fSub (mVar 0) (mC (.int 1))) (aNil)))))) (aNil)))) (sRet (mC (.bl false))) (mSkip)) (sRet (mCB FAll (aCons (mLc [2, 3] (.tp [.nm 2, .nm 3]) (iZip (aCons (mVar 1) (aCons (mSl (mVar 1) (some (mC (.int 1))) none) (aNil)))) none (mOp fLt (mVar 2) (mVar 3))) (aNil)))))
noncomputable def F_is_spots : MF := fnF 5 2 M_is_spots
theorem sc_is_spots : FnScope ["ring", "thing", "a", "b", "one"] ["ring", "thing"] (defScope (top 10)) := ⟨rfl, rfl, rfl, by decide +kernel, rfl, by decide +kernel, by decide +kernel⟩
theorem ok_is_spots (T : Top P mg G) (d_is_within : Dfn P w mg base G false 2 1 "is_within" ["thing", "least", "most"] F_is_within) (d_is_tuple : Dfn P w mg base G false 1 2 "is_tuple" ["thing", "least", "most"] F_is_tuple) {fd : FuncData} (FD : FunD G.K "is_spots" "is_spots" (defArgs (top 10)) (defBody (top 10)) (defScope (top 10)) [] [] (G.fa 3) fd) : FnO P w mg base G false 3 (G.fa 3) fd ["ring", "thing"] F_is_spots :=
  have sc := sc_is_spots
  fnO FD sc ⟨fun cdv A outer s H E hcd hr hg => (oksCons (okIfS (okWT (okOrW (okNotT (okT (okF d_is_within (hr.mono (by decide)) (fun z => by cases z) (takes_of rfl rfl rfl rfl) (okaCons (okVar (i := 0)) (okaCons okInt (okaCons (okGi T.i_MOST_RING) okaNil)))))) (okOr1W (okNotT (okT (okF d_is_tuple (hr.mono (by decide)) (fun z => by cases z) (takes_of rfl rfl rfl rfl) (okaCons (okVar (i := 1)) (okaCons okInt (okaCons (okVar (i := 0)) okaNil))))))))) (oksOne (okRet okBl)) oksNil) (oksCons (okIfS (okNotT (okT (okCB (fit_all rfl) T.n_all PyProof.Rows.Boot.«all» (okaCons (okLc (own := [("one", 4)]) rfl sc.nd (okiSeq (okVar (i := 1))) (blkOk_by (N := ["ring", "thing", "a", "b", "one"]) (sc := defScope (top 10)) (by decide +kernel)) (fun s H C cl fp => (okgNm sc.nd)) (fun s H C cl fp => True.intro) (fun s H C cl fp => (okF d_is_within (hr.mono (by decide)) (fun z => by cases z) LamX.takes0 (okaCons (okVar (i := 4)) (okaCons okInt (okaCons (okOp fit_sub (okVar (i := 0)) okInt) okaNil))))) (by simp [slots, slotsL])) okaNil)))) (oksOne (okRet okBl)) oksNil) (oksOne (okRet (okCB (fit_all rfl) T.n_all PyProof.Rows.Boot.«all» (okaCons (okLc (own := [("a", 2), ("b", 3)]) rfl sc.nd (okiZip T.n_zip (okaCons (okVar (i := 1)) (okaCons (okSl (okVar (i := 1)) (okoSome okInt) okoNone) okaNil))) (blkOk_by (N := ["ring", "thing", "a", "b", "one"]) (sc := defScope (top 10)) (by decide +kernel)) (fun s H C cl fp => (okgTp rfl (okgsCons (okgNm sc.nd) (okgsCons (okgNm sc.nd) okgsNil)))) (fun s H C cl fp => True.intro) (fun s H C cl fp => (okCmp (fit_lt hr.units0) (okVar (i := 2)) (okVar (i := 3)))) (by simp [slots, slotsL])) okaNil))))))⟩

noncomputable def M_check_spots : MS := mSeq (sIf (mNot (mCB F_is_within (aCons (mVar 0) (aCons (mC (.int 1)) (aCons (mC (.int 24)) (aNil)))))) (sRaise 1) (mSkip)) (sIf (mNot (mCB F_is_spots (aCons (mVar 0) (aCons (mVar 1) (aNil))))) (sRaise 2) (mSkip))
noncomputable def F_check_spots : MF := fnF 2 2 M_check_spots
theorem sc_check_spots : FnScope ["ring", "thing"] ["ring", "thing"] (defScope (top 11)) := ⟨rfl, rfl, rfl, by decide +kernel, rfl, by decide +kernel, by decide +kernel⟩
theorem ok_check_spots (T : Top P mg G) (d_is_within : Dfn P w mg base G false 2 1 "is_within" ["thing", "least", "most"] F_is_within) (d_is_spots : Dfn P w mg base G false 3 3 "is_spots" ["ring", "thing"] F_is_spots) {fd : FuncData} (FD : FunD G.K "check_spots" "check_spots" (defArgs (top 11)) (defBody (top 11)) (defScope (top 11)) [] [] (G.fa 4) fd) : FnO P w mg base G false 4 (G.fa 4) fd ["ring", "thing"] F_check_spots :=
  have sc := sc_check_spots
  fnO FD sc ⟨fun cdv A outer s H E hcd hr hg => (oksCons (okIfS (okNotT (okT (okF d_is_within (hr.mono (by decide)) (fun z => by cases z) (takes_of rfl rfl rfl rfl) (okaCons (okVar (i := 0)) (okaCons okInt (okaCons (okGi T.i_MOST_RING) okaNil)))))) (oksOne (okRaise (k := 0) rfl (takes_of rfl rfl rfl rfl) T.r_NoNumber (hr.mono (by decide)) T.c_NoNumber)) oksNil) (oksOne (okIfS (okNotT (okT (okF d_is_spots (hr.mono (by decide)) (fun z => by cases z) (takes_of rfl rfl rfl rfl) (okaCons (okVar (i := 0)) (okaCons (okVar (i := 1)) okaNil))))) (oksOne (okRaise (k := 0) rfl (takes_of rfl rfl rfl rfl) T.r_NoSpots (hr.mono (by decide)) T.c_NoSpots)) oksNil)))⟩

noncomputable def M_even_spots : MS := mSeq (sIf (mOr (mNot (mCB F_is_within (aCons (mVar 0) (aCons (mC (.int 1)) (aCons (mC (.int 24)) (aNil)))))) (mOr (mNot (mCB F_is_within (aCons (mVar 1) (aCons (mC (.int 1)) (aCons (mVar 0) (aNil)))))) (mNot (mCB F_is_within (aCons (mVar 2) (aCons (mC (.int 0)) (aCons (mOp fSub (mVar 1) (mC (.int 1))) (aNil)))))))) (sRaise 1) (mSkip)) (sRet (mCB FTuple (aCons (mLc [3] (.nm 3) (iRange1 (aCons (mVar 1) (aNil))) none (mOp fDiv (mOp fAdd (mOp fMul (mVar 0) (mVar 3)) (mVar 2)) (mVar 1))) (aNil))))
noncomputable def F_even_spots : MF := fnF 4 3 M_even_spots
theorem sc_even_spots : FnScope ["ring", "many", "begin", "at"] ["ring", "many", "begin"] (defScope (top 12)) := ⟨rfl, rfl, rfl, by decide +kernel, rfl, by decide +kernel, by decide +kernel⟩
theorem ok_even_spots (T : Top P mg G) (d_is_within : Dfn P w mg base G false 2 1 "is_within" ["thing", "least", "most"] F_is_within) {fd : FuncData} (FD : FunD G.K "even_spots" "even_spots" (defArgs (top 12)) (defBody (top 12)) (defScope (top 12)) [] [] (G.fa 5) fd) : FnO P w mg base G false 3 (G.fa 5) fd ["ring", "many", "begin"] F_even_spots :=
  have sc := sc_even_spots
  fnO FD sc ⟨fun cdv A outer s H E hcd hr hg => (oksCons (okIfS (okWT (okOrW (okNotT (okT (okF d_is_within (hr.mono (by decide)) (fun z => by cases z) (takes_of rfl rfl rfl rfl) (okaCons (okVar (i := 0)) (okaCons okInt (okaCons (okGi T.i_MOST_RING) okaNil)))))) (okOrW (okNotT (okT (okF d_is_within (hr.mono (by decide)) (fun z => by cases z) (takes_of rfl rfl rfl rfl) (okaCons (okVar (i := 1)) (okaCons okInt (okaCons (okVar (i := 0)) okaNil)))))) (okOr1W (okNotT (okT (okF d_is_within (hr.mono (by decide)) (fun z => by cases z) (takes_of rfl rfl rfl rfl) (okaCons (okVar (i := 2)) (okaCons okInt (okaCons (okOp fit_sub (okVar (i := 1)) okInt) okaNil)))))))))) (oksOne (okRaise (k := 0) rfl (takes_of rfl rfl rfl rfl) T.r_NoNumber (hr.mono (by decide)) T.c_NoNumber)) oksNil) (oksOne (okRet (okCT fit_tuple T.n_tuple PyProof.Rows.Boot.«tuple» (okaCons (okLc (own := [("at", 3)]) rfl sc.nd (okiRange1 T.n_range (okaCons (okVar (i := 1)) okaNil)) (blkOk_by (N := ["ring", "many", "begin", "at"]) (sc := defScope (top 12)) (by decide +kernel)) (fun s H C cl fp => (okgNm sc.nd)) (fun s H C cl fp => True.intro) (fun s H C cl fp => (okOp fit_div (okOp fit_add (okOp fit_mul (okVar (i := 0)) (okVar (i := 3))) (okVar (i := 2))) (okVar (i := 1)))) (by simp [slots, slotsL])) okaNil)))))⟩

noncomputable def M_turned : MS := mSeq (sExpr (mCB F_check_spots (aCons (mVar 0) (aCons (mVar 1) (aNil))))) (mSeq (sIf (mNot (mCB F_is_within (aCons (mVar 2) (aCons (mUn fNeg (mC (.int 1000))) (aCons (mC (.int 1000)) (aNil)))))) (sRaise 1) (mSkip)) (sRet (mCB FTuple (aCons (mCB FSorted2 (aCons (mLc [3] (.nm 3) (iSeq (mVar 1)) none (mOp fMod (mOp fAdd (mVar 3) (mVar 2)) (mVar 0))) (aNil))) (aNil)))))
noncomputable def F_turned : MF := fnF 4 3 M_turned
theorem sc_turned : FnScope ["ring", "spots", "by", "one"] ["ring", "spots", "by"] (defScope (top 13)) := ⟨rfl, rfl, rfl, by decide +kernel, rfl, by decide +kernel, by decide +kernel⟩
theorem ok_turned (T : Top P mg G) (d_check_spots : Dfn P w mg base G false 4 4 "check_spots" ["ring", "thing"] F_check_spots) (d_is_within : Dfn P w mg base G false 2 1 "is_within" ["thing", "least", "most"] F_is_within) {fd : FuncData} (FD : FunD G.K "turned" "turned" (defArgs (top 13)) (defBody (top 13)) (defScope (top 13)) [] [] (G.fa 6) fd) : FnO P w mg base G false 5 (G.fa 6) fd ["ring", "spots", "by"] F_turned :=
  have sc := sc_turned
  fnO FD sc ⟨fun cdv A outer s H E hcd hr hg => (oksCons (okExpr (okF d_check_spots (hr.mono (by decide)) (fun z => by cases z) (takes_of rfl rfl rfl rfl) (okaCons (okVar (i := 0)) (okaCons (okVar (i := 1)) okaNil)))) (oksCons (okIfS (okNotT (okT (okF d_is_within (hr.mono (by decide)) (fun z => by cases z) (takes_of rfl rfl rfl rfl) (okaCons (okVar (i := 2)) (okaCons (okUn fit_neg okInt) (okaCons okInt okaNil)))))) (oksOne (okRaise (k := 0) rfl (takes_of rfl rfl rfl rfl) T.r_NoNumber (hr.mono (by decide)) T.c_NoNumber)) oksNil) (oksOne (okRet (okCT fit_tuple T.n_tuple PyProof.Rows.Boot.«tuple» (okaCons (okCB (fit_sorted2 rfl) T.n_sorted PyProof.Rows.Boot.«sorted» (okaCons (okLc (own := [("one", 3)]) rfl sc.nd (okiSeq (okVar (i := 1))) (blkOk_by (N := ["ring", "spots", "by", "one"]) (sc := defScope (top 13)) (by decide +kernel)) (fun s H C cl fp => (okgNm sc.nd)) (fun s H C cl fp => True.intro) (fun s H C cl fp => (okOp fit_mod (okOp fit_add (okVar (i := 3)) (okVar (i := 2))) (okVar (i := 0)))) (by simp [slots, slotsL])) okaNil)) okaNil))))))⟩

noncomputable def M_made_by : MS := mSeq (sIf (mOr (mNot (mCB F_is_within (aCons (mVar 0) (aCons (mC (.int 1)) (aCons (mC (.int 24)) (aNil)))))) (mOr (mNot (mCB F_is_within (aCons (mVar 1) (aCons (mC (.int 0)) (aCons (mOp fSub (mVar 0) (mC (.int 1))) (aNil)))))) (mNot (mCB F_is_within (aCons (mVar 2) (aCons (mC (.int 0)) (aCons (mVar 0) (aNil)))))))) (sRaise 1) (mSkip)) (sRet (mCB FTuple (aCons (mCB FSorted2 (aCons (mDc [3] (.nm 3) (iRange1 (aCons (mVar 2) (aNil))) none (mOp fMod (mOp fMul (mVar 1) (mVar 3)) (mVar 0)) (mC (.bl true))) (aNil))) (aNil))))
noncomputable def F_made_by : MF := fnF 4 3 M_made_by
theorem sc_made_by : FnScope ["ring", "step", "many", "at"] ["ring", "step", "many"] (defScope (top 14)) := ⟨rfl, rfl, rfl, by decide +kernel, rfl, by decide +kernel, by decide +kernel⟩
theorem ok_made_by (T : Top P mg G) (d_is_within : Dfn P w mg base G false 2 1 "is_within" ["thing", "least", "most"] F_is_within) {fd : FuncData} (FD : FunD G.K "made_by" "made_by" (defArgs (top 14)) (defBody (top 14)) (defScope (top 14)) [] [] (G.fa 7) fd) : FnO P w mg base G false 3 (G.fa 7) fd ["ring", "step", "many"] F_made_by :=
  have sc := sc_made_by
  fnO FD sc ⟨fun cdv A outer s H E hcd hr hg => (oksCons (okIfS (okWT (okOrW (okNotT (okT (okF d_is_within (hr.mono (by decide)) (fun z => by cases z) (takes_of rfl rfl rfl rfl) (okaCons (okVar (i := 0)) (okaCons okInt (okaCons (okGi T.i_MOST_RING) okaNil)))))) (okOrW (okNotT (okT (okF d_is_within (hr.mono (by decide)) (fun z => by cases z) (takes_of rfl rfl rfl rfl) (okaCons (okVar (i := 1)) (okaCons okInt (okaCons (okOp fit_sub (okVar (i := 0)) okInt) okaNil)))))) (okOr1W (okNotT (okT (okF d_is_within (hr.mono (by decide)) (fun z => by cases z) (takes_of rfl rfl rfl rfl) (okaCons (okVar (i := 2)) (okaCons okInt (okaCons (okVar (i := 0)) okaNil)))))))))) (oksOne (okRaise (k := 0) rfl (takes_of rfl rfl rfl rfl) T.r_NoNumber (hr.mono (by decide)) T.c_NoNumber)) oksNil) (oksOne (okRet (okCT fit_tuple T.n_tuple PyProof.Rows.Boot.«tuple» (okaCons (okCB (fit_sorted2 rfl) T.n_sorted PyProof.Rows.Boot.«sorted» (okaCons (okDc (own := [("at", 3)]) rfl sc.nd (okiRange1 T.n_range (okaCons (okVar (i := 2)) okaNil)) (blkOk_by (N := ["ring", "step", "many", "at"]) (sc := defScope (top 14)) (by decide +kernel)) (fun s H C cl fp => (okgNm sc.nd)) (fun s H C cl fp => True.intro) (fun s H C cl fp => (okOp fit_mod (okOp fit_mul (okVar (i := 1)) (okVar (i := 3))) (okVar (i := 0)))) (fun s H C cl fp => okBl) (by simp [slots, slotsL])) okaNil)) okaNil)))))⟩

noncomputable def M_steps_that_make : MS := mSeq (sExpr (mCB F_check_spots (aCons (mVar 0) (aCons (mVar 1) (aNil))))) (mSeq (sAsg (.nm 2) (mLstM (aNil))) (mSeq (mFrz 2 (sFor [3, 4] (.nm 3) (iRange1 (aCons (mVar 0) (aNil))) (mSeq (sAsg (.nm 4) (mCB F_made_by (aCons (mVar 0) (aCons (mVar 3) (aCons (mCB FLen (aCons (mVar 1) (aNil))) (aNil)))))) (sIf (mCB FAny (aCons (mLc [5] (.nm 5) (iRange1 (aCons (mVar 0) (aNil))) none (mOp fEq (mCB F_turned (aCons (mVar 0) (aCons (mVar 4) (aCons (mVar 5) (aNil))))) (mVar 1))) (aNil))) (sExpr (mMeth FAppend (mVar 2) (aCons (mVar 3) (aNil)))) (mSkip))))) (sRet (mVar 2))))
noncomputable def F_steps_that_make : MF := fnF 6 2 M_steps_that_make
theorem sc_steps_that_make : FnScope ["ring", "spots", "found", "step", "some", "by"] ["ring", "spots"] (defScope (top 15)) := ⟨rfl, rfl, rfl, by decide +kernel, rfl, by decide +kernel, by decide +kernel⟩
theorem ok_steps_that_make (T : Top P mg G) (d_check_spots : Dfn P w mg base G false 4 4 "check_spots" ["ring", "thing"] F_check_spots) (d_made_by : Dfn P w mg base G false 3 7 "made_by" ["ring", "step", "many"] F_made_by) (d_turned : Dfn P w mg base G false 5 6 "turned" ["ring", "spots", "by"] F_turned) {fd : FuncData} (FD : FunD G.K "steps_that_make" "steps_that_make" (defArgs (top 15)) (defBody (top 15)) (defScope (top 15)) [] [] (G.fa 8) fd) : FnO P w mg base G false 6 (G.fa 8) fd ["ring", "spots"] F_steps_that_make :=
  have sc := sc_steps_that_make
  fnO FD sc ⟨fun cdv A outer s H E hcd hr hg => (oksCons (okExpr (okF d_check_spots (hr.mono (by decide)) (fun z => by cases z) (takes_of rfl rfl rfl rfl) (okaCons (okVar (i := 0)) (okaCons (okVar (i := 1)) okaNil)))) (oksCons (okSet (i := 2) sc.nd (okLstM okaNil)) (oksCons (okFrz (okFor (ks := [3, 4]) (passes_of rfl) rfl (okiRange1 T.n_range (okaCons (okVar (i := 0)) okaNil)) (okgNm sc.nd) (oksCons (okSet (i := 4) sc.nd (okF d_made_by (hr.mono (by decide)) (fun z => by cases z) (takes_of rfl rfl rfl rfl) (okaCons (okVar (i := 0)) (okaCons (okVar (i := 3)) (okaCons (okCB fit_len T.n_len PyProof.Rows.Boot.«len» (okaCons (okVar (i := 1)) okaNil)) okaNil))))) (oksOne (okIfS (okT (okCB (fit_any rfl) T.n_any PyProof.Rows.Boot.«any» (okaCons (okLc (own := [("by", 5)]) rfl sc.nd (okiRange1 T.n_range (okaCons (okVar (i := 0)) okaNil)) (blkOk_by (N := ["ring", "spots", "found", "step", "some", "by"]) (sc := defScope (top 15)) (by decide +kernel)) (fun s H C cl fp => (okgNm sc.nd)) (fun s H C cl fp => True.intro) (fun s H C cl fp => (okCmp (fit_eq hr.units) (okF d_turned (hr.mono (by decide)) (fun z => by cases z) LamX.takes0 (okaCons (okVar (i := 0)) (okaCons (okVar (i := 4)) (okaCons (okVar (i := 5)) okaNil)))) (okVar (i := 1)))) (by simp [slots, slotsL])) okaNil))) (oksOne (okExpr (okMeth fit_append PySem.F.slot_list_append PySem.F.type_list_append (okVar (i := 2)) (okaCons (okVar (i := 3)) okaNil)))) oksNil))))) (oksOne (okRet (okVar (i := 2)))))))⟩

noncomputable def M_two_rings : MS := mSeq (sIf (mOr (mNot (mCB F_is_within (aCons (mVar 1) (aCons (mC (.int 1)) (aCons (mC (.int 24)) (aNil)))))) (mOr (mNot (mCB F_is_within (aCons (mVar 0) (aCons (mC (.int 1)) (aCons (mVar 1) (aNil)))))) (mNot (mCB F_is_within (aCons (mVar 2) (aCons (mC (.int 1)) (aCons (mVar 0) (aNil)))))))) (sRaise 1) (mSkip)) (mSeq (sAsg (.nm 3) (mCB F_even_spots (aCons (mVar 1) (aCons (mVar 0) (aCons (mC (.int 0)) (aNil)))))) (sRet (mCB FTuple (aCons (mCB FSorted2 (aCons (mLc [4] (.nm 4) (iSeq (mCB F_even_spots (aCons (mVar 0) (aCons (mVar 2) (aCons (mC (.int 0)) (aNil)))))) none (mOp fIx (mVar 3) (mVar 4))) (aNil))) (aNil)))))
noncomputable def F_two_rings : MF := fnF 5 3 M_two_rings
theorem sc_two_rings : FnScope ["small", "great", "many", "middle", "at"] ["small", "great", "many"] (defScope (top 16)) := ⟨rfl, rfl, rfl, by decide +kernel, rfl, by decide +kernel, by decide +kernel⟩
theorem ok_two_rings (T : Top P mg G) (d_is_within : Dfn P w mg base G false 2 1 "is_within" ["thing", "least", "most"] F_is_within) (d_even_spots : Dfn P w mg base G false 3 5 "even_spots" ["ring", "many", "begin"] F_even_spots) {fd : FuncData} (FD : FunD G.K "two_rings" "two_rings" (defArgs (top 16)) (defBody (top 16)) (defScope (top 16)) [] [] (G.fa 9) fd) : FnO P w mg base G false 4 (G.fa 9) fd ["small", "great", "many"] F_two_rings :=
  have sc := sc_two_rings
  fnO FD sc ⟨fun cdv A outer s H E hcd hr hg => (oksCons (okIfS (okWT (okOrW (okNotT (okT (okF d_is_within (hr.mono (by decide)) (fun z => by cases z) (takes_of rfl rfl rfl rfl) (okaCons (okVar (i := 1)) (okaCons okInt (okaCons (okGi T.i_MOST_RING) okaNil)))))) (okOrW (okNotT (okT (okF d_is_within (hr.mono (by decide)) (fun z => by cases z) (takes_of rfl rfl rfl rfl) (okaCons (okVar (i := 0)) (okaCons okInt (okaCons (okVar (i := 1)) okaNil)))))) (okOr1W (okNotT (okT (okF d_is_within (hr.mono (by decide)) (fun z => by cases z) (takes_of rfl rfl rfl rfl) (okaCons (okVar (i := 2)) (okaCons okInt (okaCons (okVar (i := 0)) okaNil)))))))))) (oksOne (okRaise (k := 0) rfl (takes_of rfl rfl rfl rfl) T.r_NoNumber (hr.mono (by decide)) T.c_NoNumber)) oksNil) (oksCons (okSet (i := 3) sc.nd (okF d_even_spots (hr.mono (by decide)) (fun z => by cases z) (takes_of rfl rfl rfl rfl) (okaCons (okVar (i := 1)) (okaCons (okVar (i := 0)) (okaCons okInt okaNil))))) (oksOne (okRet (okCT fit_tuple T.n_tuple PyProof.Rows.Boot.«tuple» (okaCons (okCB (fit_sorted2 rfl) T.n_sorted PyProof.Rows.Boot.«sorted» (okaCons (okLc (own := [("at", 4)]) rfl sc.nd (okiSeq (okF d_even_spots (hr.mono (by decide)) (fun z => by cases z) (takes_of rfl rfl rfl rfl) (okaCons (okVar (i := 0)) (okaCons (okVar (i := 2)) (okaCons okInt okaNil))))) (blkOk_by (N := ["small", "great", "many", "middle", "at"]) (sc := defScope (top 16)) (by decide +kernel)) (fun s H C cl fp => (okgNm sc.nd)) (fun s H C cl fp => True.intro) (fun s H C cl fp => (okIx (okVar (i := 3)) (okVar (i := 4)))) (by simp [slots, slotsL])) okaNil)) okaNil))))))⟩

noncomputable def M__law_tape : MS := mSeq (sAsg (.nm 1) (mLc [2] (.nm 2) (iSeq (mSl (mVar 0) none (some (mC (.int 63))))) none (mCB FAbs (aCons (mCB FInt (aCons (mVar 2) (aNil))) (aNil))))) (sRet (mLstM (aCons (mVar 1) (aCons (mC (.int 0)) (aCons (mC (.int 0)) (aCons (mOp fAdd (mC (.int 31)) (mCB FLen (aCons (mVar 1) (aNil)))) (aCons (mC (.int 0)) (aNil))))))))
noncomputable def F__law_tape : MF := fnK 3 1 M__law_tape
theorem sc__law_tape : FnScope ["script", "cells", "cell"] ["script"] (defScope (top 18)) := ⟨rfl, rfl, rfl, by decide +kernel, rfl, by decide +kernel, by decide +kernel⟩
theorem ok__law_tape (T : Top P mg G)  {fd : FuncData} (FD : FunD G.K "_law_tape" "_law_tape" (defArgs (top 18)) (defBody (top 18)) (defScope (top 18)) [] [] (G.fa 10) fd) : FnO P w mg base G false 1 (G.fa 10) fd ["script"] F__law_tape :=
  have sc := sc__law_tape
  fnO_keep FD sc ⟨fun cdv A outer s H E hcd hr hg => (oksCons (okSetLc (i := 1) (own := [("cell", 2)]) rfl sc.nd (okiSeq (okSl (okVar (i := 0)) okoNone (okoSome okInt))) (blkOk_by (N := ["script", "cells", "cell"]) (sc := defScope (top 18)) (by decide +kernel)) (fun s H C cl fp => (okgNm sc.nd)) (fun s H C cl fp => True.intro) (fun s H C cl fp => (okCB fit_abs T.n_abs PyProof.Rows.Boot.«abs» (okaCons (okCT fit_int T.n_int PyProof.Rows.Boot.«int» (okaCons (okVar (i := 2)) okaNil)) okaNil))) (by simp [slots, slotsL]) (sw_true rfl rfl rfl rfl)) (oksOne (okRet (okLstM (okaCons (okVar (i := 1)) (okaCons okInt (okaCons okInt (okaCons (okOp fit_add okInt (okCB fit_len T.n_len PyProof.Rows.Boot.«len» (okaCons (okVar (i := 1)) okaNil))) (okaCons okInt okaNil)))))))))⟩

noncomputable def M__law_pick : MS := mSeq (sIf (mAnd (mOp fEq (mOp fIx (mVar 0) (mC (.int 2))) (mC (.int 0))) (mOp fLt (mOp fIx (mVar 0) (mC (.int 1))) (mCB FLen (aCons (mOp fIx (mVar 0) (mC (.int 0))) (aNil))))) (mSeq (sAsg (.nm 2) (mOp fIx (mOp fIx (mVar 0) (mC (.int 0))) (mOp fIx (mVar 0) (mC (.int 1))))) (mSeq (sSub (mVar 0) (mC (.int 1)) (mOp fAdd (mOp fIx (mVar 0) (mC (.int 1))) (mC (.int 1)))) (mSeq (sSub (mVar 0) (mC (.int 3)) (mOp fMod (mCB FInt (aCons (mOp fAdd (mOp fAdd (mOp fMul (mOp fIx (mVar 0) (mC (.int 3))) (mC (.int 69621))) (mVar 2)) (mC (.int 11))) (aNil))) (mC (.int 2147483629)))) (sIf (mOp fGe (mVar 2) (mOp fPow (mC (.int 10)) (mC (.int 18)))) (sSub (mVar 0) (mC (.int 2)) (mVar 2)) (mSkip))))) (mSkip)) (mSeq (sIf (mOp fGt (mOp fIx (mVar 0) (mC (.int 2))) (mC (.int 0))) (mSeq (sAsg (.nm 3) (mOp fMod (mCB FInt (aCons (mOp fIx (mVar 0) (mC (.int 2))) (aNil))) (mVar 1))) (mSeq (sSub (mVar 0) (mC (.int 2)) (mOp fDiv (mOp fIx (mVar 0) (mC (.int 2))) (mVar 1))) (sRet (mVar 3)))) (mSkip)) (mSeq (sSub (mVar 0) (mC (.int 4)) (mOp fAdd (mOp fIx (mVar 0) (mC (.int 4))) (mC (.int 1)))) (mSeq (sAsg (.nm 4) (mOp fMod (mCB FInt (aCons (mOp fMul (mCB FInt (aCons (mOp fAdd (mOp fIx (mVar 0) (mC (.int 3))) (mOp fMul (mC (.int 7919)) (mOp fIx (mVar 0) (mC (.int 4))))) (aNil))) (mC (.int 48271))) (aNil))) (mC (.int 2147483647)))) (mSeq (sAsg (.nm 4) (mOp fMod (mCB FInt (aCons (mOp fMul (mVar 4) (mOp fAdd (mOp fDiv (mVar 4) (mC (.int 1009))) (mC (.int 69621)))) (aNil))) (mC (.int 2147483647)))) (mSeq (sAsg (.nm 4) (mOp fMod (mCB FInt (aCons (mOp fMul (mVar 4) (mOp fAdd (mOp fDiv (mVar 4) (mC (.int 2003))) (mC (.int 40692)))) (aNil))) (mC (.int 2147483399)))) (sRet (mOp fMod (mCB FInt (aCons (mOp fDiv (mVar 4) (mC (.int 16))) (aNil))) (mVar 1))))))))
noncomputable def F__law_pick : MF := fnF 5 2 M__law_pick
theorem sc__law_pick : FnScope ["tape", "many", "cell", "digit", "number"] ["tape", "many"] (defScope (top 19)) := ⟨rfl, rfl, rfl, by decide +kernel, rfl, by decide +kernel, by decide +kernel⟩
theorem ok__law_pick (T : Top P mg G)  {fd : FuncData} (FD : FunD G.K "_law_pick" "_law_pick" (defArgs (top 19)) (defBody (top 19)) (defScope (top 19)) [] [] (G.fa 11) fd) : FnO P w mg base G false 1 (G.fa 11) fd ["tape", "many"] F__law_pick :=
  have sc := sc__law_pick
  fnO FD sc ⟨fun cdv A outer s H E hcd hr hg => (oksCons (okIfS (okWT (okAndW (okCmpT (fit_eq hr.units) (okIx (okVar (i := 0)) okInt) okInt) (okAnd1W (okCmpT (fit_lt hr.units0) (okIx (okVar (i := 0)) okInt) (okCB fit_len T.n_len PyProof.Rows.Boot.«len» (okaCons (okIx (okVar (i := 0)) okInt) okaNil)))))) (oksCons (okSet (i := 2) sc.nd (okIx (okIx (okVar (i := 0)) okInt) (okIx (okVar (i := 0)) okInt))) (oksCons (okSub (okVar (i := 0)) okInt (okOp fit_add (okIx (okVar (i := 0)) okInt) okInt)) (oksCons (okSub (okVar (i := 0)) okInt (okOp fit_mod (okCT fit_int T.n_int PyProof.Rows.Boot.«int» (okaCons (okOp fit_add (okOp fit_add (okOp fit_mul (okIx (okVar (i := 0)) okInt) okInt) (okVar (i := 2))) okInt) okaNil)) okInt)) (oksOne (okIfS (okCmpT fit_ge (okVar (i := 2)) (okOp fit_pow okInt okInt)) (oksOne (okSub (okVar (i := 0)) okInt (okVar (i := 2)))) oksNil))))) oksNil) (oksCons (okIfS (okCmpT fit_gt (okIx (okVar (i := 0)) okInt) okInt) (oksCons (okSet (i := 3) sc.nd (okOp fit_mod (okCT fit_int T.n_int PyProof.Rows.Boot.«int» (okaCons (okIx (okVar (i := 0)) okInt) okaNil)) (okVar (i := 1)))) (oksCons (okSub (okVar (i := 0)) okInt (okOp fit_div (okIx (okVar (i := 0)) okInt) (okVar (i := 1)))) (oksOne (okRet (okVar (i := 3)))))) oksNil) (oksCons (okSub (okVar (i := 0)) okInt (okOp fit_add (okIx (okVar (i := 0)) okInt) okInt)) (oksCons (okSet (i := 4) sc.nd (okOp fit_mod (okCT fit_int T.n_int PyProof.Rows.Boot.«int» (okaCons (okOp fit_mul (okCT fit_int T.n_int PyProof.Rows.Boot.«int» (okaCons (okOp fit_add (okIx (okVar (i := 0)) okInt) (okOp fit_mul okInt (okIx (okVar (i := 0)) okInt))) okaNil)) okInt) okaNil)) okInt)) (oksCons (okSet (i := 4) sc.nd (okOp fit_mod (okCT fit_int T.n_int PyProof.Rows.Boot.«int» (okaCons (okOp fit_mul (okVar (i := 4)) (okOp fit_add (okOp fit_div (okVar (i := 4)) okInt) okInt)) okaNil)) okInt)) (oksCons (okSet (i := 4) sc.nd (okOp fit_mod (okCT fit_int T.n_int PyProof.Rows.Boot.«int» (okaCons (okOp fit_mul (okVar (i := 4)) (okOp fit_add (okOp fit_div (okVar (i := 4)) okInt) okInt)) okaNil)) okInt)) (oksOne (okRet (okOp fit_mod (okCT fit_int T.n_int PyProof.Rows.Boot.«int» (okaCons (okOp fit_div (okVar (i := 4)) okInt) okaNil)) (okVar (i := 1)))))))))))⟩

noncomputable def M__law_any : MS := sRet (mOp fIx (mVar 1) (mCB F__law_pick (aCons (mVar 0) (aCons (mCB FLen (aCons (mVar 1) (aNil))) (aNil)))))
noncomputable def F__law_any : MF := fnF 2 2 M__law_any
theorem sc__law_any : FnScope ["tape", "things"] ["tape", "things"] (defScope (top 20)) := ⟨rfl, rfl, rfl, by decide +kernel, rfl, by decide +kernel, by decide +kernel⟩
theorem ok__law_any (T : Top P mg G) (d__law_pick : Dfn P w mg base G false 1 11 "_law_pick" ["tape", "many"] F__law_pick) {fd : FuncData} (FD : FunD G.K "_law_any" "_law_any" (defArgs (top 20)) (defBody (top 20)) (defScope (top 20)) [] [] (G.fa 12) fd) : FnO P w mg base G false 2 (G.fa 12) fd ["tape", "things"] F__law_any :=
  have sc := sc__law_any
  fnO FD sc ⟨fun cdv A outer s H E hcd hr hg => (oksOne (okRet (okIx (okVar (i := 1)) (okF d__law_pick (hr.mono (by decide)) (fun z => by cases z) (takes_of rfl rfl rfl rfl) (okaCons (okVar (i := 0)) (okaCons (okCB fit_len T.n_len PyProof.Rows.Boot.«len» (okaCons (okVar (i := 1)) okaNil)) okaNil))))))⟩

noncomputable def M__law_deep : MS := mSeq (sAsg (.nm 1) (mCB F__law_any (aCons (mVar 0) (aCons (mLst (aCons (mC .non) (aCons (mC (.str "?")) (aCons (mDict0) (aNil))))) (aNil))))) (mSeq (sFor [2] (.nm 2) (iRange1 (aCons (mCB F__law_any (aCons (mVar 0) (aCons (mLst (aCons (mC (.int 6)) (aCons (mC (.int 9)) (aCons (mC (.int 30)) (aNil))))) (aNil)))) (aNil))) (sAsg (.nm 1) (mCB F__law_any (aCons (mVar 0) (aCons (mLst (aCons (mTup (aCons (mVar 1) (aNil))) (aCons (mLst (aCons (mVar 1) (aNil))) (aNil)))) (aNil)))))) (sRet (mVar 1)))
noncomputable def F__law_deep : MF := fnF 3 1 M__law_deep
theorem sc__law_deep : FnScope ["tape", "thing", "step"] ["tape"] (defScope (top 21)) := ⟨rfl, rfl, rfl, by decide +kernel, rfl, by decide +kernel, by decide +kernel⟩
theorem ok__law_deep (T : Top P mg G) (d__law_any : Dfn P w mg base G false 2 12 "_law_any" ["tape", "things"] F__law_any) {fd : FuncData} (FD : FunD G.K "_law_deep" "_law_deep" (defArgs (top 21)) (defBody (top 21)) (defScope (top 21)) [] [] (G.fa 13) fd) : FnO P w mg base G false 3 (G.fa 13) fd ["tape"] F__law_deep :=
  have sc := sc__law_deep
  fnO FD sc ⟨fun cdv A outer s H E hcd hr hg => (oksCons (okSet (i := 1) sc.nd (okF d__law_any (hr.mono (by decide)) (fun z => by cases z) (takes_of rfl rfl rfl rfl) (okaCons (okVar (i := 0)) (okaCons (okLst (okaCons okNon (okaCons okStr (okaCons okDict0 okaNil)))) okaNil)))) (oksCons (okFor (ks := [2]) (passes_of rfl) rfl (okiRange1 T.n_range (okaCons (okF d__law_any (hr.mono (by decide)) (fun z => by cases z) (takes_of rfl rfl rfl rfl) (okaCons (okVar (i := 0)) (okaCons (okLst (okaCons okInt (okaCons okInt (okaCons okInt okaNil)))) okaNil))) okaNil)) (okgNm sc.nd) (oksOne (okSet (i := 1) sc.nd (okF d__law_any (hr.mono (by decide)) (fun z => by cases z) (takes_of rfl rfl rfl rfl) (okaCons (okVar (i := 0)) (okaCons (okLst (okaCons (okTup (okaCons (okVar (i := 1)) okaNil)) (okaCons (okLst (okaCons (okVar (i := 1)) okaNil)) okaNil))) okaNil)))))) (oksOne (okRet (okVar (i := 1))))))⟩

noncomputable def M__law_spots : MS := mSeq (sAsg (.nm 2) (mCB F__law_any (aCons (mVar 0) (aCons (mLst (aCons (mC (.int 2)) (aCons (mC (.int 2)) (aCons (mC (.int 3)) (aNil))))) (aNil))))) (sRet (mCB FTuple (aCons (mLc [3] (.nm 3) (iRange1 (aCons (mVar 1) (aNil))) (some (mOp fEq (mCB F__law_pick (aCons (mVar 0) (aCons (mVar 2) (aNil)))) (mC (.int 0)))) (mVar 3)) (aNil))))
noncomputable def F__law_spots : MF := fnF 4 2 M__law_spots
theorem sc__law_spots : FnScope ["tape", "ring", "often", "spot"] ["tape", "ring"] (defScope (top 22)) := ⟨rfl, rfl, rfl, by decide +kernel, rfl, by decide +kernel, by decide +kernel⟩
theorem ok__law_spots (T : Top P mg G) (d__law_any : Dfn P w mg base G false 2 12 "_law_any" ["tape", "things"] F__law_any) (d__law_pick : Dfn P w mg base G false 1 11 "_law_pick" ["tape", "many"] F__law_pick) {fd : FuncData} (FD : FunD G.K "_law_spots" "_law_spots" (defArgs (top 22)) (defBody (top 22)) (defScope (top 22)) [] [] (G.fa 14) fd) : FnO P w mg base G false 3 (G.fa 14) fd ["tape", "ring"] F__law_spots :=
  have sc := sc__law_spots
  fnO FD sc ⟨fun cdv A outer s H E hcd hr hg => (oksCons (okSet (i := 2) sc.nd (okF d__law_any (hr.mono (by decide)) (fun z => by cases z) (takes_of rfl rfl rfl rfl) (okaCons (okVar (i := 0)) (okaCons (okLst (okaCons okInt (okaCons okInt (okaCons okInt okaNil)))) okaNil)))) (oksOne (okRet (okCT fit_tuple T.n_tuple PyProof.Rows.Boot.«tuple» (okaCons (okLc (own := [("spot", 3)]) rfl sc.nd (okiRange1 T.n_range (okaCons (okVar (i := 1)) okaNil)) (blkOk_by (N := ["tape", "ring", "often", "spot"]) (sc := defScope (top 22)) (by decide +kernel)) (fun s H C cl fp => (okgNm sc.nd)) (fun s H C cl fp => (okCmpT (fit_eq hr.units) (okF d__law_pick (hr.mono (by decide)) (fun z => by cases z) LamX.takes0 (okaCons (okVar (i := 0)) (okaCons (okVar (i := 2)) okaNil))) okInt)) (fun s H C cl fp => (okVar (i := 3))) (by simp [slots, slotsL])) okaNil)))))⟩

noncomputable def M__law_no_ring : MS := sRet (mCB F__law_any (aCons (mVar 0) (aCons (mLst (aCons (mC (.int 0)) (aCons (mC (.int 25)) (aCons (mUn fNeg (mC (.int 1))) (aCons (mC .non) (aCons (mC (.bl true)) (aCons (mC (.str "2")) (aCons (mTup (aCons (mC (.int 2)) (aNil))) (aCons (mLst (aCons (mC (.int 2)) (aNil))) (aCons (mDict0) (aNil))))))))))) (aNil))))
noncomputable def F__law_no_ring : MF := fnF 1 1 M__law_no_ring
theorem sc__law_no_ring : FnScope ["tape"] ["tape"] (defScope (top 23)) := ⟨rfl, rfl, rfl, by decide +kernel, rfl, by decide +kernel, by decide +kernel⟩
theorem ok__law_no_ring (T : Top P mg G) (d__law_any : Dfn P w mg base G false 2 12 "_law_any" ["tape", "things"] F__law_any) {fd : FuncData} (FD : FunD G.K "_law_no_ring" "_law_no_ring" (defArgs (top 23)) (defBody (top 23)) (defScope (top 23)) [] [] (G.fa 15) fd) : FnO P w mg base G false 3 (G.fa 15) fd ["tape"] F__law_no_ring :=
  have sc := sc__law_no_ring
  fnO FD sc ⟨fun cdv A outer s H E hcd hr hg => (oksOne (okRet (okF d__law_any (hr.mono (by decide)) (fun z => by cases z) (takes_of rfl rfl rfl rfl) (okaCons (okVar (i := 0)) (okaCons (okLst (okaCons okInt (okaCons okInt (okaCons (okUn fit_neg okInt) (okaCons okNon (okaCons okBl (okaCons okStr (okaCons (okTup (okaCons okInt okaNil)) (okaCons (okLst (okaCons okInt okaNil)) (okaCons okDict0 okaNil)))))))))) okaNil)))))⟩

noncomputable def M__law_no_spots : MS := mSeq (sAsg (.nm 2) (mLst (aCons (mC .non) (aCons (mLst (aCons (mC (.int 0)) (aNil))) (aCons (mTup (aCons (mVar 1) (aNil))) (aCons (mTup (aCons (mC (.int 0)) (aCons (mC (.int 0)) (aNil)))) (aCons (mTup (aCons (mUn fNeg (mC (.int 1))) (aNil))) (aCons (mTup (aCons (mC (.bl true)) (aNil))) (aCons (mTup (aCons (mC (.str "0")) (aNil))) (aCons (mC (.int 0)) (aCons (mDict0) (aCons (mTup (aCons (mC .non) (aNil))) (aCons (mC (.str "spots")) (aCons (mTup (aCons (mTup (aCons (mC (.int 0)) (aNil))) (aNil))) (aCons (mTup (aCons (mC (.int 0)) (aCons (mVar 1) (aNil)))) (aNil)))))))))))))))) (sRet (mCB F__law_any (aCons (mVar 0) (aCons (mOp fAdd (mVar 2) (mLst (aCons (mCB F__law_deep (aCons (mVar 0) (aNil))) (aNil)))) (aNil)))))
noncomputable def F__law_no_spots : MF := fnF 3 2 M__law_no_spots
theorem sc__law_no_spots : FnScope ["tape", "ring", "some"] ["tape", "ring"] (defScope (top 24)) := ⟨rfl, rfl, rfl, by decide +kernel, rfl, by decide +kernel, by decide +kernel⟩
theorem ok__law_no_spots (T : Top P mg G) (d__law_any : Dfn P w mg base G false 2 12 "_law_any" ["tape", "things"] F__law_any) (d__law_deep : Dfn P w mg base G false 3 13 "_law_deep" ["tape"] F__law_deep) {fd : FuncData} (FD : FunD G.K "_law_no_spots" "_law_no_spots" (defArgs (top 24)) (defBody (top 24)) (defScope (top 24)) [] [] (G.fa 16) fd) : FnO P w mg base G false 4 (G.fa 16) fd ["tape", "ring"] F__law_no_spots :=
  have sc := sc__law_no_spots
  fnO FD sc ⟨fun cdv A outer s H E hcd hr hg => (oksCons (okSet (i := 2) sc.nd (okLst (okaCons okNon (okaCons (okLst (okaCons okInt okaNil)) (okaCons (okTup (okaCons (okVar (i := 1)) okaNil)) (okaCons (okTup (okaCons okInt (okaCons okInt okaNil))) (okaCons (okTup (okaCons (okUn fit_neg okInt) okaNil)) (okaCons (okTup (okaCons okBl okaNil)) (okaCons (okTup (okaCons okStr okaNil)) (okaCons okInt (okaCons okDict0 (okaCons (okTup (okaCons okNon okaNil)) (okaCons okStr (okaCons (okTup (okaCons (okTup (okaCons okInt okaNil)) okaNil)) (okaCons (okTup (okaCons okInt (okaCons (okVar (i := 1)) okaNil))) okaNil))))))))))))))) (oksOne (okRet (okF d__law_any (hr.mono (by decide)) (fun z => by cases z) (takes_of rfl rfl rfl rfl) (okaCons (okVar (i := 0)) (okaCons (okOp fit_add (okVar (i := 2)) (okLst (okaCons (okF d__law_deep (hr.mono (by decide)) (fun z => by cases z) (takes_of rfl rfl rfl rfl) (okaCons (okVar (i := 0)) okaNil)) okaNil))) okaNil))))))⟩

noncomputable def B__law_word (call : ME) : MS := mSeq (sAsg (.nm 1) (mC (.str "let"))) (mSeq (sTryC 5 2 cat call (mSeq (sAsg (.nm 3) (mLst (aCons (mIsE 2 kit (mC (.cls 1))) (aCons (mIsE 2 kit (mC (.cls 2))) (aNil))))) (mSeq (sAsg (.nm 4) (mLst (aCons (mC (.str "number")) (aCons (mC (.str "spots")) (aNil))))) (sAsg (.nm 1) (mIf (mAnd (mOp fEq (mMeth FCount (mVar 3) (aCons (mC (.bl true)) (aNil))) (mC (.int 1))) (mIsE 2 kit (mC (.ty "ValueError")))) (mOp fIx (mVar 4) (mMeth FIndex (mVar 3) (aCons (mC (.bl true)) (aNil)))) (mC (.str "other"))))))) (sRet (mVar 1)))
theorem sc__law_word : FnScope ["asked_one", "found", "e", "flags", "tags"] ["asked_one"] (defScope (top 25)) := ⟨rfl, rfl, rfl, by decide +kernel, rfl, by decide +kernel, by decide +kernel⟩
theorem ok__law_word (T : Top P mg G) : WordOk P w mg base G 1 (G.fa 17) "_law_word" "asked_one" (defScope (top 25)) ["asked_one", "found", "e", "flags", "tags"] (defBody (top 25)) B__law_word :=
  have sc := sc__law_word
  ⟨fun cdg A outer s H G1 f h0 r sg hx1 hr act => by
    have T : Top P mg G1 := T.re sg
    rw [← sg.K] at act ⊢
    exact (oksCons (okSet (i := 1) sc.nd okStr) (oksCons (okTryC (i := 2) (j := 0) rfl rfl sc.nd rfl rfl (names_of T.c_RoundError) LamX.takes0 act T.xm (by decide) (fun ae oe m pn hm hz hfl => have hex : (G1.wth (ae, m)).ex = [(ae, m)] ∨ ∃ b n, (G1.wth (ae, m)).ex = [(ae, m), (b, n)] ∧ ∀ d, kit n d = none := .inr ⟨f, 1000, by rw [← hx1]; rfl, kit1000⟩; (oksCons (okSet (i := 3) sc.nd (okLst (okaCons (okIsE (i := 2) (kit := kit) rfl hex (T.xc m hm) hz hfl (T.kt m hm) T.n_isinstance (okCls T.c_NoNumber)) (okaCons (okIsE (i := 2) (kit := kit) rfl hex (T.xc m hm) hz hfl (T.kt m hm) T.n_isinstance (okCls T.c_NoSpots)) okaNil)))) (oksCons (okSet (i := 4) sc.nd (okLst (okaCons okStr (okaCons okStr okaNil)))) (oksOne (okSet (i := 1) sc.nd (okIf (okWT (okAndW (okCmpT (fit_eq hr.units) (okMeth (fit_count hr.units) PySem.F.slot_list_count PySem.F.type_list_count (okVar (i := 3)) (okaCons okBl okaNil)) okInt) (okAnd1W (okT (okIsE (i := 2) (kit := kit) rfl hex (T.xc m hm) hz hfl (T.kt m hm) T.n_isinstance (okTy T.n_ValueError PyProof.Rows.Boot.«ValueError»)))))) (okIx (okVar (i := 4)) (okMeth (fit_index hr.units65) PySem.F.slot_list_index PySem.F.type_list_index (okVar (i := 3)) (okaCons okBl okaNil))) okStr))))))) (oksOne (okRet (okVar (i := 1))))))⟩

noncomputable def M__law_made : MS := sRet (mCB FTuple (aCons (mCB FSorted2 (aCons (mCB FDictP (aCons (mLc [3] (.nm 3) (iRange1 (aCons (mVar 2) (aNil))) none (mTup (aCons (mOp fMod (mCB FInt (aCons (mOp fMul (mVar 1) (mVar 3)) (aNil))) (mVar 0)) (aCons (mC (.bl true)) (aNil))))) (aNil))) (aNil))) (aNil)))
noncomputable def F__law_made : MF := fnF 4 3 M__law_made
theorem sc__law_made : FnScope ["ring", "step", "many", "number"] ["ring", "step", "many"] (defScope (top 26)) := ⟨rfl, rfl, rfl, by decide +kernel, rfl, by decide +kernel, by decide +kernel⟩
theorem ok__law_made (T : Top P mg G)  {fd : FuncData} (FD : FunD G.K "_law_made" "_law_made" (defArgs (top 26)) (defBody (top 26)) (defScope (top 26)) [] [] (G.fa 18) fd) : FnO P w mg base G false 1 (G.fa 18) fd ["ring", "step", "many"] F__law_made :=
  have sc := sc__law_made
  fnO FD sc ⟨fun cdv A outer s H E hcd hr hg => (oksOne (okRet (okCT fit_tuple T.n_tuple PyProof.Rows.Boot.«tuple» (okaCons (okCB (fit_sorted2 rfl) T.n_sorted PyProof.Rows.Boot.«sorted» (okaCons (okCT (fit_dictP rfl) T.n_dict PyProof.Rows.Boot.«dict» (okaCons (okLc (own := [("number", 3)]) rfl sc.nd (okiRange1 T.n_range (okaCons (okVar (i := 2)) okaNil)) (blkOk_by (N := ["ring", "step", "many", "number"]) (sc := defScope (top 26)) (by decide +kernel)) (fun s H C cl fp => (okgNm sc.nd)) (fun s H C cl fp => True.intro) (fun s H C cl fp => (okTup (okaCons (okOp fit_mod (okCT fit_int T.n_int PyProof.Rows.Boot.«int» (okaCons (okOp fit_mul (okVar (i := 1)) (okVar (i := 3))) okaNil)) (okVar (i := 0))) (okaCons okBl okaNil)))) (by simp [slots, slotsL])) okaNil)) okaNil)) okaNil))))⟩

noncomputable def M__law_steps : MS := mSeq (sAsg (.nm 2) (mLstM (aNil))) (mSeq (mFrz 2 (sFor [3, 4, 5] (.nm 3) (iRange2 (aCons (mC (.int 1)) (aCons (mVar 0) (aNil)))) (mSeq (sAsg (.nm 4) (mCB F__law_made (aCons (mVar 0) (aCons (mVar 3) (aCons (mCB FLen (aCons (mVar 1) (aNil))) (aNil)))))) (mSeq (sAsg (.nm 5) (mLc [6] (.nm 6) (iRange1 (aCons (mVar 0) (aNil))) none (mCB FTuple (aCons (mCB FSorted2 (aCons (mLc [7] (.nm 7) (iSeq (mVar 4)) none (mOp fMod (mCB FInt (aCons (mOp fAdd (mVar 7) (mVar 6)) (aNil))) (mVar 0))) (aNil))) (aNil))))) (sIf (mAnd (mOp fEq (mCB FLen (aCons (mVar 4) (aNil))) (mCB FLen (aCons (mVar 1) (aNil)))) (mOp (fIn false) (mVar 1) (mVar 5))) (sExpr (mMeth FAppend (mVar 2) (aCons (mVar 3) (aNil)))) (mSkip)))))) (sRet (mVar 2)))
noncomputable def F__law_steps : MF := fnF 8 2 M__law_steps
theorem sc__law_steps : FnScope ["ring", "spots", "found", "step", "made", "turns", "by", "spot"] ["ring", "spots"] (defScope (top 27)) := ⟨rfl, rfl, rfl, by decide +kernel, rfl, by decide +kernel, by decide +kernel⟩
theorem ok__law_steps (T : Top P mg G) (d__law_made : Dfn P w mg base G false 1 18 "_law_made" ["ring", "step", "many"] F__law_made) {fd : FuncData} (FD : FunD G.K "_law_steps" "_law_steps" (defArgs (top 27)) (defBody (top 27)) (defScope (top 27)) [] [] (G.fa 19) fd) : FnO P w mg base G false 2 (G.fa 19) fd ["ring", "spots"] F__law_steps :=
  have sc := sc__law_steps
  fnO FD sc ⟨fun cdv A outer s H E hcd hr hg => (oksCons (okSet (i := 2) sc.nd (okLstM okaNil)) (oksCons (okFrz (okFor (ks := [3, 4, 5]) (passes_of rfl) rfl (okiRange2 T.n_range (okaCons okInt (okaCons (okVar (i := 0)) okaNil))) (okgNm sc.nd) (oksCons (okSet (i := 4) sc.nd (okF d__law_made (hr.mono (by decide)) (fun z => by cases z) (takes_of rfl rfl rfl rfl) (okaCons (okVar (i := 0)) (okaCons (okVar (i := 3)) (okaCons (okCB fit_len T.n_len PyProof.Rows.Boot.«len» (okaCons (okVar (i := 1)) okaNil)) okaNil))))) (oksCons (okSetLc (i := 5) (own := [("by", 6)]) rfl sc.nd (okiRange1 T.n_range (okaCons (okVar (i := 0)) okaNil)) (blkOk_by (N := ["ring", "spots", "found", "step", "made", "turns", "by", "spot"]) (sc := defScope (top 27)) (by decide +kernel)) (fun s H C cl fp => (okgNm sc.nd)) (fun s H C cl fp => True.intro) (fun s H C cl fp => (okCT fit_tuple T.n_tuple PyProof.Rows.Boot.«tuple» (okaCons (okCB (fit_sorted2 rfl) T.n_sorted PyProof.Rows.Boot.«sorted» (okaCons (okLc (own := [("spot", 7)]) rfl sc.nd (okiSeq (okVar (i := 4))) (blkOk_by (by rfl)) (fun s H C cl fp => (okgNm sc.nd)) (fun s H C cl fp => True.intro) (fun s H C cl fp => (okOp fit_mod (okCT fit_int T.n_int PyProof.Rows.Boot.«int» (okaCons (okOp fit_add (okVar (i := 7)) (okVar (i := 6))) okaNil)) (okVar (i := 0)))) (by simp [slots, slotsL])) okaNil)) okaNil))) (by simp [slots, slotsL]) (sw_true rfl rfl rfl rfl)) (oksOne (okIfS (okWT (okAndW (okCmpT (fit_eq hr.units) (okCB fit_len T.n_len PyProof.Rows.Boot.«len» (okaCons (okVar (i := 4)) okaNil)) (okCB fit_len T.n_len PyProof.Rows.Boot.«len» (okaCons (okVar (i := 1)) okaNil))) (okAnd1W (okCmpT (fit_in hr.units) (okVar (i := 1)) (okVar (i := 5)))))) (oksOne (okExpr (okMeth fit_append PySem.F.slot_list_append PySem.F.type_list_append (okVar (i := 2)) (okaCons (okVar (i := 3)) okaNil)))) oksNil)))))) (oksOne (okRet (okVar (i := 2))))))⟩

noncomputable def M__law_is_right : MS := mSeq (sAsg (.nm 1) (mOp fAdd (mC (.int 2)) (mCB F__law_pick (aCons (mVar 0) (aCons (mC (.int 13)) (aNil)))))) (mSeq (sPar 2 3 (mOp fAdd (mC (.int 1)) (mCB F__law_pick (aCons (mVar 0) (aCons (mOp fSub (mVar 1) (mC (.int 1))) (aNil))))) (mOp fAdd (mC (.int 1)) (mCB F__law_pick (aCons (mVar 0) (aCons (mVar 1) (aNil)))))) (mSeq (sAsg (.nm 4) (mCB F__law_made (aCons (mVar 1) (aCons (mVar 2) (aCons (mVar 3) (aNil)))))) (mSeq (sIf (mAnd (mOp fEq (mCB FLen (aCons (mVar 4) (aNil))) (mVar 3)) (mOp fNe (mCB FRepr (aCons (mCB F_made_by (aCons (mVar 1) (aCons (mVar 2) (aCons (mVar 3) (aNil))))) (aNil))) (mCB FRepr (aCons (mVar 4) (aNil))))) (sRet (mC (.bl false))) (mSkip)) (mSeq (sAsg (.nm 5) (mCB F__law_spots (aCons (mVar 0) (aCons (mVar 1) (aNil))))) (mSeq (sFor [6] (.nm 6) (iSeq (mTup (aCons (mVar 5) (aCons (mCB F_turned (aCons (mVar 1) (aCons (mVar 4) (aCons (mCB F__law_pick (aCons (mVar 0) (aCons (mVar 1) (aNil)))) (aNil))))) (aNil))))) (sIf (mAnd (mOp fGt (mCB FLen (aCons (mVar 6) (aNil))) (mC (.int 1))) (mOp fNe (mCB FRepr (aCons (mCB FList (aCons (mCB F_steps_that_make (aCons (mVar 1) (aCons (mVar 6) (aNil)))) (aNil))) (aNil))) (mCB FRepr (aCons (mCB F__law_steps (aCons (mVar 1) (aCons (mVar 6) (aNil)))) (aNil))))) (sRet (mC (.bl false))) (mSkip))) (mSeq (sAsg (.nm 7) (mCB F_turned (aCons (mVar 1) (aCons (mVar 4) (aCons (mCB F__law_pick (aCons (mVar 0) (aCons (mVar 1) (aNil)))) (aNil)))))) (mSeq (sIf (mAnd (mOp fGt (mVar 3) (mC (.int 1))) (mAnd (mOp fEq (mCB FLen (aCons (mVar 4) (aNil))) (mVar 3)) (mOp (fIn true) (mVar 2) (mCB F_steps_that_make (aCons (mVar 1) (aCons (mVar 7) (aNil))))))) (sRet (mC (.bl false))) (mSkip)) (mSeq (sAsg (.nm 8) (mOp fAdd (mC (.int 1)) (mCB F__law_pick (aCons (mVar 0) (aCons (mVar 1) (aNil)))))) (mSeq (sAsg (.nm 9) (mOp fAdd (mC (.int 1)) (mCB F__law_pick (aCons (mVar 0) (aCons (mVar 8) (aNil)))))) (mSeq (sAsg (.tp [.nm 10, .nm 11]) (mTup (aCons (mCB F_even_spots (aCons (mVar 1) (aCons (mVar 8) (aCons (mC (.int 0)) (aNil))))) (aCons (mCB F_even_spots (aCons (mVar 8) (aCons (mVar 9) (aCons (mC (.int 0)) (aNil))))) (aNil))))) (sRet (mOp fEq (mCB FRepr (aCons (mCB F_two_rings (aCons (mVar 8) (aCons (mVar 1) (aCons (mVar 9) (aNil))))) (aNil))) (mCB FRepr (aCons (mCB FTuple (aCons (mLc [12] (.nm 12) (iSeq (mVar 11)) none (mOp fIx (mVar 10) (mVar 12))) (aNil))) (aNil)))))))))))))))
noncomputable def F__law_is_right : MF := fnF 13 1 M__law_is_right
theorem sc__law_is_right : FnScope ["tape", "ring", "step", "many", "made", "spots", "one", "there", "small", "few", "outer", "inner_spots", "at"] ["tape"] (defScope (top 28)) := ⟨rfl, rfl, rfl, by decide +kernel, rfl, by decide +kernel, by decide +kernel⟩
theorem ok__law_is_right (T : Top P mg G) (d__law_pick : Dfn P w mg base G false 1 11 "_law_pick" ["tape", "many"] F__law_pick) (d__law_made : Dfn P w mg base G false 1 18 "_law_made" ["ring", "step", "many"] F__law_made) (d_made_by : Dfn P w mg base G false 3 7 "made_by" ["ring", "step", "many"] F_made_by) (d__law_spots : Dfn P w mg base G false 3 14 "_law_spots" ["tape", "ring"] F__law_spots) (d_turned : Dfn P w mg base G false 5 6 "turned" ["ring", "spots", "by"] F_turned) (d_steps_that_make : Dfn P w mg base G false 6 8 "steps_that_make" ["ring", "spots"] F_steps_that_make) (d__law_steps : Dfn P w mg base G false 2 19 "_law_steps" ["ring", "spots"] F__law_steps) (d_even_spots : Dfn P w mg base G false 3 5 "even_spots" ["ring", "many", "begin"] F_even_spots) (d_two_rings : Dfn P w mg base G false 4 9 "two_rings" ["small", "great", "many"] F_two_rings) {fd : FuncData} (FD : FunD G.K "_law_is_right" "_law_is_right" (defArgs (top 28)) (defBody (top 28)) (defScope (top 28)) [] [] (G.fa 20) fd) : FnO P w mg base G true 7 (G.fa 20) fd ["tape"] F__law_is_right :=
  have sc := sc__law_is_right
  fnO FD sc ⟨fun cdv A outer s H E hcd hr hg => (oksCons (okSet (i := 1) sc.nd (okOp fit_add okInt (okF d__law_pick (hr.mono (by decide)) (fun z => by cases z) (takes_of rfl rfl rfl rfl) (okaCons (okVar (i := 0)) (okaCons okInt okaNil))))) (oksCons (okPar (i := 2) (j := 3) rfl sc.nd (okOp fit_add okInt (okF d__law_pick (hr.mono (by decide)) (fun z => by cases z) (takes_of rfl rfl rfl rfl) (okaCons (okVar (i := 0)) (okaCons (okOp fit_sub (okVar (i := 1)) okInt) okaNil)))) (okOp fit_add okInt (okF d__law_pick (hr.mono (by decide)) (fun z => by cases z) (takes_of rfl rfl rfl rfl) (okaCons (okVar (i := 0)) (okaCons (okVar (i := 1)) okaNil))))) (oksCons (okSet (i := 4) sc.nd (okF d__law_made (hr.mono (by decide)) (fun z => by cases z) (takes_of rfl rfl rfl rfl) (okaCons (okVar (i := 1)) (okaCons (okVar (i := 2)) (okaCons (okVar (i := 3)) okaNil))))) (oksCons (okIfS (okWT (okAndW (okCmpT (fit_eq hr.units) (okCB fit_len T.n_len PyProof.Rows.Boot.«len» (okaCons (okVar (i := 4)) okaNil)) (okVar (i := 3))) (okAnd1W (okCmpT (fit_ne hr.units) (okCB (fit_repr (hg rfl) hr.units) T.n_repr PyProof.Rows.Boot.«repr» (okaCons (okF d_made_by (hr.mono (by decide)) (fun z => by cases z) (takes_of rfl rfl rfl rfl) (okaCons (okVar (i := 1)) (okaCons (okVar (i := 2)) (okaCons (okVar (i := 3)) okaNil)))) okaNil)) (okCB (fit_repr (hg rfl) hr.units) T.n_repr PyProof.Rows.Boot.«repr» (okaCons (okVar (i := 4)) okaNil)))))) (oksOne (okRet okBl)) oksNil) (oksCons (okSet (i := 5) sc.nd (okF d__law_spots (hr.mono (by decide)) (fun z => by cases z) (takes_of rfl rfl rfl rfl) (okaCons (okVar (i := 0)) (okaCons (okVar (i := 1)) okaNil)))) (oksCons (okFor (ks := [6]) (passes_of rfl) rfl (okiSeq (okTup (okaCons (okVar (i := 5)) (okaCons (okF d_turned (hr.mono (by decide)) (fun z => by cases z) (takes_of rfl rfl rfl rfl) (okaCons (okVar (i := 1)) (okaCons (okVar (i := 4)) (okaCons (okF d__law_pick (hr.mono (by decide)) (fun z => by cases z) (takes_of rfl rfl rfl rfl) (okaCons (okVar (i := 0)) (okaCons (okVar (i := 1)) okaNil))) okaNil)))) okaNil)))) (okgNm sc.nd) (oksOne (okIfS (okWT (okAndW (okCmpT fit_gt (okCB fit_len T.n_len PyProof.Rows.Boot.«len» (okaCons (okVar (i := 6)) okaNil)) okInt) (okAnd1W (okCmpT (fit_ne hr.units) (okCB (fit_repr (hg rfl) hr.units) T.n_repr PyProof.Rows.Boot.«repr» (okaCons (okCT fit_list T.n_list PyProof.Rows.Boot.«list» (okaCons (okF d_steps_that_make (hr.mono (by decide)) (fun z => by cases z) (takes_of rfl rfl rfl rfl) (okaCons (okVar (i := 1)) (okaCons (okVar (i := 6)) okaNil))) okaNil)) okaNil)) (okCB (fit_repr (hg rfl) hr.units) T.n_repr PyProof.Rows.Boot.«repr» (okaCons (okF d__law_steps (hr.mono (by decide)) (fun z => by cases z) (takes_of rfl rfl rfl rfl) (okaCons (okVar (i := 1)) (okaCons (okVar (i := 6)) okaNil))) okaNil)))))) (oksOne (okRet okBl)) oksNil))) (oksCons (okSet (i := 7) sc.nd (okF d_turned (hr.mono (by decide)) (fun z => by cases z) (takes_of rfl rfl rfl rfl) (okaCons (okVar (i := 1)) (okaCons (okVar (i := 4)) (okaCons (okF d__law_pick (hr.mono (by decide)) (fun z => by cases z) (takes_of rfl rfl rfl rfl) (okaCons (okVar (i := 0)) (okaCons (okVar (i := 1)) okaNil))) okaNil))))) (oksCons (okIfS (okWT (okAndW (okCmpT fit_gt (okVar (i := 3)) okInt) (okAndW (okCmpT (fit_eq hr.units) (okCB fit_len T.n_len PyProof.Rows.Boot.«len» (okaCons (okVar (i := 4)) okaNil)) (okVar (i := 3))) (okAnd1W (okCmpT (fit_notIn hr.units) (okVar (i := 2)) (okF d_steps_that_make (hr.mono (by decide)) (fun z => by cases z) (takes_of rfl rfl rfl rfl) (okaCons (okVar (i := 1)) (okaCons (okVar (i := 7)) okaNil)))))))) (oksOne (okRet okBl)) oksNil) (oksCons (okSet (i := 8) sc.nd (okOp fit_add okInt (okF d__law_pick (hr.mono (by decide)) (fun z => by cases z) (takes_of rfl rfl rfl rfl) (okaCons (okVar (i := 0)) (okaCons (okVar (i := 1)) okaNil))))) (oksCons (okSet (i := 9) sc.nd (okOp fit_add okInt (okF d__law_pick (hr.mono (by decide)) (fun z => by cases z) (takes_of rfl rfl rfl rfl) (okaCons (okVar (i := 0)) (okaCons (okVar (i := 8)) okaNil))))) (oksCons (okAsg (okgTp rfl (okgsCons (okgNm sc.nd) (okgsCons (okgNm sc.nd) okgsNil))) (okTup (okaCons (okF d_even_spots (hr.mono (by decide)) (fun z => by cases z) (takes_of rfl rfl rfl rfl) (okaCons (okVar (i := 1)) (okaCons (okVar (i := 8)) (okaCons okInt okaNil)))) (okaCons (okF d_even_spots (hr.mono (by decide)) (fun z => by cases z) (takes_of rfl rfl rfl rfl) (okaCons (okVar (i := 8)) (okaCons (okVar (i := 9)) (okaCons okInt okaNil)))) okaNil)))) (oksOne (okRet (okCmp (fit_eq hr.units) (okCB (fit_repr (hg rfl) hr.units) T.n_repr PyProof.Rows.Boot.«repr» (okaCons (okF d_two_rings (hr.mono (by decide)) (fun z => by cases z) (takes_of rfl rfl rfl rfl) (okaCons (okVar (i := 8)) (okaCons (okVar (i := 1)) (okaCons (okVar (i := 9)) okaNil)))) okaNil)) (okCB (fit_repr (hg rfl) hr.units) T.n_repr PyProof.Rows.Boot.«repr» (okaCons (okCT fit_tuple T.n_tuple PyProof.Rows.Boot.«tuple» (okaCons (okLc (own := [("at", 12)]) rfl sc.nd (okiSeq (okVar (i := 11))) (blkOk_by (N := ["tape", "ring", "step", "many", "made", "spots", "one", "there", "small", "few", "outer", "inner_spots", "at"]) (sc := defScope (top 28)) (by decide +kernel)) (fun s H C cl fp => (okgNm sc.nd)) (fun s H C cl fp => True.intro) (fun s H C cl fp => (okIx (okVar (i := 10)) (okVar (i := 12)))) (by simp [slots, slotsL])) okaNil)) okaNil))))))))))))))))⟩

noncomputable def M__law_word_of : MS := sRet (mLam (List.length (["asked_one", "found", "e", "flags", "tags"] : List Str)) (mCB F_steps_that_make (aCons (mVar 0) (aCons (mVar 1) (aNil)))) B__law_word)
noncomputable def F__law_word_of : MF := fnF 2 2 M__law_word_of
theorem sc__law_word_of : FnScope ["ring", "spots"] ["ring", "spots"] (defScope (top 30)) := ⟨rfl, rfl, rfl, by decide +kernel, rfl, by decide +kernel, by decide +kernel⟩
theorem ok__law_word_of (T : Top P mg G) (d__law_word : Wrd P w mg base G 1 17 "_law_word" "asked_one" ["asked_one", "found", "e", "flags", "tags"] B__law_word) (d_steps_that_make : Dfn P w mg base G false 6 8 "steps_that_make" ["ring", "spots"] F_steps_that_make) {fd : FuncData} (FD : FunD G.K "_law_word_of" "_law_word_of" (defArgs (top 30)) (defBody (top 30)) (defScope (top 30)) [] [] (G.fa 22) fd) (mk : MkL mg base G (("_law_word_of" : Str) ++ ".<locals>." ++ "<lambda>") fd) : FnO P w mg base G false 9 (G.fa 22) fd ["ring", "spots"] F__law_word_of :=
  have sc := sc__law_word_of
  fnO FD sc ⟨fun cdv A outer s H E hcd hr hg => (oksOne (okRet (okL (k := 6) (d__law_word.mono (by decide)) mk hcd (hr.mono (by decide)) (LamX.lamS_by (sc := defScope (top 30)) (by decide +kernel)) rfl (fun _ _ _ _ _ => rfl) (fun A outer s H E f c' hr => (okF d_steps_that_make (hr.mono (by decide)) (fun z => by cases z) (takes_of rfl rfl rfl rfl) (okaCons (okVar (i := 0)) (okaCons (okVar (i := 1)) okaNil)))))))⟩

noncomputable def M__law_is_refused : MS := mSeq (sAsg (.tp [.nm 1, .nm 2]) (mTup (aCons (mCB F__law_no_ring (aCons (mVar 0) (aNil))) (aCons (mOp fAdd (mC (.int 2)) (mCB F__law_pick (aCons (mVar 0) (aCons (mC (.int 12)) (aNil))))) (aNil))))) (mSeq (sAsg (.nm 3) (mCB F__law_no_spots (aCons (mVar 0) (aCons (mVar 2) (aNil))))) (mSeq (sAsg (.nm 4) (mLstM (aCons (mCB F__law_word_of (aCons (mVar 1) (aCons (mVar 3) (aNil)))) (aCons (mCB F__law_word_of (aCons (mVar 2) (aCons (mVar 3) (aNil)))) (aNil))))) (mSeq (sExpr (mMeth FAppend (mVar 4) (aCons (mLam (List.length (["asked_one", "found", "e", "flags", "tags"] : List Str)) (mCB F_made_by (aCons (mVar 1) (aCons (mC (.int 1)) (aCons (mC (.int 1)) (aNil))))) B__law_word) (aNil)))) (mSeq (mFrz 4 (sExpr (mMeth FAppend (mVar 4) (aCons (mLam (List.length (["asked_one", "found", "e", "flags", "tags"] : List Str)) (mCB F_two_rings (aCons (mC (.int 1)) (aCons (mVar 1) (aCons (mC (.int 1)) (aNil))))) B__law_word) (aNil))))) (sRet (mOp fEq (mVar 4) (mLst (aCons (mC (.str "number")) (aCons (mC (.str "spots")) (aCons (mC (.str "number")) (aCons (mC (.str "number")) (aNil))))))))))))
noncomputable def F__law_is_refused : MF := fnF 5 1 M__law_is_refused
theorem sc__law_is_refused : FnScope ["tape", "none", "ring", "bad", "words"] ["tape"] (defScope (top 29)) := ⟨rfl, rfl, rfl, by decide +kernel, rfl, by decide +kernel, by decide +kernel⟩
theorem ok__law_is_refused (T : Top P mg G) (d__law_pick : Dfn P w mg base G false 1 11 "_law_pick" ["tape", "many"] F__law_pick) (d__law_no_ring : Dfn P w mg base G false 3 15 "_law_no_ring" ["tape"] F__law_no_ring) (d__law_no_spots : Dfn P w mg base G false 4 16 "_law_no_spots" ["tape", "ring"] F__law_no_spots) (d__law_word_of : Dfn P w mg base G false 9 22 "_law_word_of" ["ring", "spots"] F__law_word_of) (d__law_word : Wrd P w mg base G 1 17 "_law_word" "asked_one" ["asked_one", "found", "e", "flags", "tags"] B__law_word) (d_made_by : Dfn P w mg base G false 3 7 "made_by" ["ring", "step", "many"] F_made_by) (d_two_rings : Dfn P w mg base G false 4 9 "two_rings" ["small", "great", "many"] F_two_rings) {fd : FuncData} (FD : FunD G.K "_law_is_refused" "_law_is_refused" (defArgs (top 29)) (defBody (top 29)) (defScope (top 29)) [] [] (G.fa 21) fd) (mk : MkL mg base G (("_law_is_refused" : Str) ++ ".<locals>." ++ "<lambda>") fd) : FnO P w mg base G false 10 (G.fa 21) fd ["tape"] F__law_is_refused :=
  have sc := sc__law_is_refused
  fnO FD sc ⟨fun cdv A outer s H E hcd hr hg => (oksCons (okAsg (okgTp rfl (okgsCons (okgNm sc.nd) (okgsCons (okgNm sc.nd) okgsNil))) (okTup (okaCons (okF d__law_no_ring (hr.mono (by decide)) (fun z => by cases z) (takes_of rfl rfl rfl rfl) (okaCons (okVar (i := 0)) okaNil)) (okaCons (okOp fit_add okInt (okF d__law_pick (hr.mono (by decide)) (fun z => by cases z) (takes_of rfl rfl rfl rfl) (okaCons (okVar (i := 0)) (okaCons okInt okaNil)))) okaNil)))) (oksCons (okSet (i := 3) sc.nd (okF d__law_no_spots (hr.mono (by decide)) (fun z => by cases z) (takes_of rfl rfl rfl rfl) (okaCons (okVar (i := 0)) (okaCons (okVar (i := 2)) okaNil)))) (oksCons (okSet (i := 4) sc.nd (okLstM (okaCons (okF d__law_word_of (hr.mono (by decide)) (fun z => by cases z) (takes_of rfl rfl rfl rfl) (okaCons (okVar (i := 1)) (okaCons (okVar (i := 3)) okaNil))) (okaCons (okF d__law_word_of (hr.mono (by decide)) (fun z => by cases z) (takes_of rfl rfl rfl rfl) (okaCons (okVar (i := 2)) (okaCons (okVar (i := 3)) okaNil))) okaNil)))) (oksCons (okExpr (okMeth fit_append PySem.F.slot_list_append PySem.F.type_list_append (okVar (i := 4)) (okaCons (okL (k := 7) (d__law_word.mono (by decide)) mk hcd (hr.mono (by decide)) (LamX.lamS_by (sc := defScope (top 29)) (by decide +kernel)) rfl (fun _ _ _ _ _ => rfl) (fun A outer s H E f c' hr => (okF d_made_by (hr.mono (by decide)) (fun z => by cases z) (takes_of rfl rfl rfl rfl) (okaCons (okVar (i := 1)) (okaCons okInt (okaCons okInt okaNil)))))) okaNil))) (oksCons (okFrz (okExpr (okMeth fit_append PySem.F.slot_list_append PySem.F.type_list_append (okVar (i := 4)) (okaCons (okL (k := 7) (d__law_word.mono (by decide)) mk hcd (hr.mono (by decide)) (LamX.lamS_by (sc := defScope (top 29)) (by decide +kernel)) rfl (fun _ _ _ _ _ => rfl) (fun A outer s H E f c' hr => (okF d_two_rings (hr.mono (by decide)) (fun z => by cases z) (takes_of rfl rfl rfl rfl) (okaCons okInt (okaCons (okVar (i := 1)) (okaCons okInt okaNil)))))) okaNil)))) (oksOne (okRet (okCmp (fit_eq hr.units) (okVar (i := 4)) (okLst (okaCons okStr (okaCons okStr (okaCons okStr (okaCons okStr okaNil)))))))))))))⟩

noncomputable def M_law : MS := mSeq (sAsg (.nm 1) (mCB F__law_tape (aCons (mVar 0) (aNil)))) (mSeq (sIf (mOr (mOp fNe (mCB F_made_by (aCons (mC (.int 12)) (aCons (mC (.int 7)) (aCons (mC (.int 5)) (aNil))))) (mTup (aCons (mC (.int 0)) (aCons (mC (.int 2)) (aCons (mC (.int 4)) (aCons (mC (.int 7)) (aCons (mC (.int 9)) (aNil)))))))) (mOp fNe (mCB F_two_rings (aCons (mC (.int 7)) (aCons (mC (.int 12)) (aCons (mC (.int 3)) (aNil))))) (mTup (aCons (mC (.int 0)) (aCons (mC (.int 3)) (aCons (mC (.int 6)) (aNil))))))) (sRet (mC (.bl false))) (mSkip)) (mSeq (sIf (mOp fNe (mCB FList (aCons (mCB F_steps_that_make (aCons (mC (.int 12)) (aCons (mTup (aCons (mC (.int 0)) (aCons (mC (.int 2)) (aCons (mC (.int 4)) (aCons (mC (.int 7)) (aCons (mC (.int 9)) (aNil))))))) (aNil)))) (aNil))) (mLst (aCons (mC (.int 5)) (aCons (mC (.int 7)) (aNil))))) (sRet (mC (.bl false))) (mSkip)) (mSeq (sFor [2] (.nm 2) (iRange1 (aCons (mC (.int 5)) (aNil))) (sIf (mOr (mNot (mCB F__law_is_right (aCons (mVar 1) (aNil)))) (mNot (mCB F__law_is_refused (aCons (mVar 1) (aNil))))) (sRet (mC (.bl false))) (mSkip))) (sRet (mC (.bl true))))))
noncomputable def F_law : MF := fnF 3 1 M_law
theorem sc_law : FnScope ["script", "tape", "step"] ["script"] (defScope (top 31)) := ⟨rfl, rfl, rfl, by decide +kernel, rfl, by decide +kernel, by decide +kernel⟩
theorem ok_law (T : Top P mg G) (d__law_tape : Dfn P w mg base G false 1 10 "_law_tape" ["script"] F__law_tape) (d_made_by : Dfn P w mg base G false 3 7 "made_by" ["ring", "step", "many"] F_made_by) (d_two_rings : Dfn P w mg base G false 4 9 "two_rings" ["small", "great", "many"] F_two_rings) (d_steps_that_make : Dfn P w mg base G false 6 8 "steps_that_make" ["ring", "spots"] F_steps_that_make) (d__law_is_right : Dfn P w mg base G true 7 20 "_law_is_right" ["tape"] F__law_is_right) (d__law_is_refused : Dfn P w mg base G false 10 21 "_law_is_refused" ["tape"] F__law_is_refused) {fd : FuncData} (FD : FunD G.K "law" "law" (defArgs (top 31)) (defBody (top 31)) (defScope (top 31)) [] [] (G.fa 23) fd) : FnO P w mg base G true 11 (G.fa 23) fd ["script"] F_law :=
  have sc := sc_law
  fnO FD sc ⟨fun cdv A outer s H E hcd hr hg => (oksCons (okSet (i := 1) sc.nd (okF d__law_tape (hr.mono (by decide)) (fun z => by cases z) (takes_of rfl rfl rfl rfl) (okaCons (okVar (i := 0)) okaNil))) (oksCons (okIfS (okWT (okOrW (okCmpT (fit_ne hr.units) (okF d_made_by (hr.mono (by decide)) (fun z => by cases z) (takes_of rfl rfl rfl rfl) (okaCons okInt (okaCons okInt (okaCons okInt okaNil)))) (okTup (okaCons okInt (okaCons okInt (okaCons okInt (okaCons okInt (okaCons okInt okaNil))))))) (okOr1W (okCmpT (fit_ne hr.units) (okF d_two_rings (hr.mono (by decide)) (fun z => by cases z) (takes_of rfl rfl rfl rfl) (okaCons okInt (okaCons okInt (okaCons okInt okaNil)))) (okTup (okaCons okInt (okaCons okInt (okaCons okInt okaNil)))))))) (oksOne (okRet okBl)) oksNil) (oksCons (okIfS (okCmpT (fit_ne hr.units) (okCT fit_list T.n_list PyProof.Rows.Boot.«list» (okaCons (okF d_steps_that_make (hr.mono (by decide)) (fun z => by cases z) (takes_of rfl rfl rfl rfl) (okaCons okInt (okaCons (okTup (okaCons okInt (okaCons okInt (okaCons okInt (okaCons okInt (okaCons okInt okaNil)))))) okaNil))) okaNil)) (okLst (okaCons okInt (okaCons okInt okaNil)))) (oksOne (okRet okBl)) oksNil) (oksCons (okFor (ks := [2]) (passes_of rfl) rfl (okiRange1 T.n_range (okaCons okInt okaNil)) (okgNm sc.nd) (oksOne (okIfS (okWT (okOrW (okNotT (okT (okF d__law_is_right (hr.mono (by decide)) (fun _ => hg rfl) (takes_of rfl rfl rfl rfl) (okaCons (okVar (i := 1)) okaNil)))) (okOr1W (okNotT (okT (okF d__law_is_refused (hr.mono (by decide)) (fun z => by cases z) (takes_of rfl rfl rfl rfl) (okaCons (okVar (i := 1)) okaNil))))))) (oksOne (okRet okBl)) oksNil))) (oksOne (okRet okBl))))))⟩

end
abbrev GK (K : PySem.W.Frag) : Gc := { K := K, fa := fun i => He.ga K ((["is_integer", "is_within", "is_tuple", "is_spots", "check_spots", "even_spots", "turned", "made_by", "steps_that_make", "two_rings", "_law_tape", "_law_pick", "_law_any", "_law_deep", "_law_spots", "_law_no_ring", "_law_no_spots", "_law_word", "_law_made", "_law_steps", "_law_is_right", "_law_is_refused", "_law_word_of", "law"] : List Str).getD i ""), ca := fun i => He.ga K ((["RoundError", "NoNumber", "NoSpots"] : List Str).getD i ""), T := [((He.cT K ("_law_word_of", none)).2, ("_law_word_of" : Str) ++ ".<locals>." ++ "<lambda>"), ((He.cT K ("_law_is_refused", none)).2, ("_law_is_refused" : Str) ++ ".<locals>." ++ "<lambda>")] }
def ask : Ask := { file := "/claim/cut.py", fa := [.free "int", .free "isinstance", .free "bool", .free "tuple", .free "len", .free "all", .free "zip", .free "range", .free "sorted", .free "any", .free "abs", .free "ValueError", .free "dict", .free "repr", .free "list", .int "MOST_RING" 24, .glo "RoundError", .glo "NoNumber", .glo "NoSpots", .glo "is_integer", .glo "is_within", .glo "is_tuple", .glo "is_spots", .glo "check_spots", .glo "even_spots", .glo "turned", .glo "made_by", .glo "steps_that_make", .glo "two_rings", .glo "_law_tape", .glo "_law_pick", .glo "_law_any", .glo "_law_deep", .glo "_law_spots", .glo "_law_no_ring", .glo "_law_no_spots", .glo "_law_word", .glo "_law_made", .glo "_law_steps", .glo "_law_is_right", .glo "_law_is_refused", .glo "_law_word_of", .glo "law"], fn := [⟨("is_integer", none), "is_integer", "is_integer", defArgs (top 1), defBody (top 1), defScope (top 1), [], []⟩,
  ⟨("is_within", none), "is_within", "is_within", defArgs (top 2), defBody (top 2), defScope (top 2), [], []⟩,
  ⟨("is_tuple", none), "is_tuple", "is_tuple", defArgs (top 3), defBody (top 3), defScope (top 3), [], []⟩,
  ⟨("is_spots", none), "is_spots", "is_spots", defArgs (top 10), defBody (top 10), defScope (top 10), [], []⟩,
  ⟨("check_spots", none), "check_spots", "check_spots", defArgs (top 11), defBody (top 11), defScope (top 11), [], []⟩,
  ⟨("even_spots", none), "even_spots", "even_spots", defArgs (top 12), defBody (top 12), defScope (top 12), [], []⟩,
  ⟨("turned", none), "turned", "turned", defArgs (top 13), defBody (top 13), defScope (top 13), [], []⟩,
  ⟨("made_by", none), "made_by", "made_by", defArgs (top 14), defBody (top 14), defScope (top 14), [], []⟩,
  ⟨("steps_that_make", none), "steps_that_make", "steps_that_make", defArgs (top 15), defBody (top 15), defScope (top 15), [], []⟩,
  ⟨("two_rings", none), "two_rings", "two_rings", defArgs (top 16), defBody (top 16), defScope (top 16), [], []⟩,
  ⟨("_law_tape", none), "_law_tape", "_law_tape", defArgs (top 18), defBody (top 18), defScope (top 18), [], []⟩,
  ⟨("_law_pick", none), "_law_pick", "_law_pick", defArgs (top 19), defBody (top 19), defScope (top 19), [], []⟩,
  ⟨("_law_any", none), "_law_any", "_law_any", defArgs (top 20), defBody (top 20), defScope (top 20), [], []⟩,
  ⟨("_law_deep", none), "_law_deep", "_law_deep", defArgs (top 21), defBody (top 21), defScope (top 21), [], []⟩,
  ⟨("_law_spots", none), "_law_spots", "_law_spots", defArgs (top 22), defBody (top 22), defScope (top 22), [], []⟩,
  ⟨("_law_no_ring", none), "_law_no_ring", "_law_no_ring", defArgs (top 23), defBody (top 23), defScope (top 23), [], []⟩,
  ⟨("_law_no_spots", none), "_law_no_spots", "_law_no_spots", defArgs (top 24), defBody (top 24), defScope (top 24), [], []⟩,
  ⟨("_law_word", none), "_law_word", "_law_word", defArgs (top 25), defBody (top 25), defScope (top 25), [], []⟩,
  ⟨("_law_made", none), "_law_made", "_law_made", defArgs (top 26), defBody (top 26), defScope (top 26), [], []⟩,
  ⟨("_law_steps", none), "_law_steps", "_law_steps", defArgs (top 27), defBody (top 27), defScope (top 27), [], []⟩,
  ⟨("_law_is_right", none), "_law_is_right", "_law_is_right", defArgs (top 28), defBody (top 28), defScope (top 28), [], []⟩,
  ⟨("_law_word_of", none), "_law_word_of", "_law_word_of", defArgs (top 30), defBody (top 30), defScope (top 30), [], []⟩,
  ⟨("_law_is_refused", none), "_law_is_refused", "_law_is_refused", defArgs (top 29), defBody (top 29), defScope (top 29), [], []⟩,
  ⟨("law", none), "law", "law", defArgs (top 31), defBody (top 31), defScope (top 31), [], []⟩], xs := [⟨"NoNumber", "NoNumber", 0, ⟨13, 17, 13, 21⟩, ⟨14, 8, 14, 13⟩, ⟨14, 8, 14, 15⟩, ⟨14, 8, 14, 24⟩, ⟨14, 25, 14, 35⟩, ⟨14, 8, 14, 36⟩, ⟨14, 8, 14, 36⟩⟩, ⟨"NoSpots", "NoSpots", 0, ⟨17, 17, 17, 21⟩, ⟨18, 8, 18, 13⟩, ⟨18, 8, 18, 15⟩, ⟨18, 8, 18, 24⟩, ⟨18, 25, 18, 34⟩, ⟨18, 8, 18, 35⟩, ⟨18, 8, 18, 35⟩⟩], fx := [.sup (⟨"NoNumber", "NoNumber", 0, ⟨13, 17, 13, 21⟩, ⟨14, 8, 14, 13⟩, ⟨14, 8, 14, 15⟩, ⟨14, 8, 14, 24⟩, ⟨14, 25, 14, 35⟩, ⟨14, 8, 14, 36⟩, ⟨14, 8, 14, 36⟩⟩ : ExD), .sup (⟨"NoSpots", "NoSpots", 0, ⟨17, 17, 17, 21⟩, ⟨18, 8, 18, 13⟩, ⟨18, 8, 18, 15⟩, ⟨18, 8, 18, 24⟩, ⟨18, 25, 18, 34⟩, ⟨18, 8, 18, 35⟩, ⟨18, 8, 18, 35⟩⟩ : ExD), .exm "NoNumber" "RoundError", .exm "NoSpots" "RoundError", .exc "NoNumber", .exc "NoSpots", .kit "NoNumber" "NoNumber" true, .kit "NoNumber" "NoSpots" false, .kitT "NoNumber" "ValueError" true, .kit "NoSpots" "NoNumber" false, .kit "NoSpots" "NoSpots" true, .kitT "NoSpots" "ValueError" true], tf := [("_law_word_of", none), ("_law_is_refused", none)] }
theorem says {w : World} {mg : Str → Option Value} {fa : Addr} {h : Heap} (Y : ∃ K : PySem.W.Frag, K.In h ∧ Says ask h K) (Gn : h.Ns mainGlobals mg) (hfa : mg ("law" : Str) = some (.ref fa)) (hF : ∀ ns : List Int, ns.length ≤ 63 → (∀ z ∈ ns, Builtin.Int.intBits z ≤ 1048576) → ∃ h', F_law [.scr ns] [] = .ok (.bl true) h') :
    ∃ K : PySem.W.Frag, K.In h ∧ LawSays PySem.Challenge.rw_fairrounds_k53_whole_spots_made_by_steps w K 11 63 "script" mg fa h := by
  obtain ⟨K, KX, c⟩ := Y
  have T : Top PySem.Challenge.pw_fairrounds_k53_whole_spots_made_by_steps mg (GK K) := ⟨He.free_ok KX Gn (c.fact 0),
    He.free_ok KX Gn (c.fact 1),
    He.free_ok KX Gn (c.fact 2),
    He.free_ok KX Gn (c.fact 3),
    He.free_ok KX Gn (c.fact 4),
    He.free_ok KX Gn (c.fact 5),
    He.free_ok KX Gn (c.fact 6),
    He.free_ok KX Gn (c.fact 7),
    He.free_ok KX Gn (c.fact 8),
    He.free_ok KX Gn (c.fact 9),
    He.free_ok KX Gn (c.fact 10),
    He.free_ok KX Gn (c.fact 11),
    He.free_ok KX Gn (c.fact 12),
    He.free_ok KX Gn (c.fact 13),
    He.free_ok KX Gn (c.fact 14),
    He.int_ok KX Gn (c.fact 15),
    He.glo_ok KX Gn (c.fact 16),
    He.glo_ok KX Gn (c.fact 17),
    He.glo_ok KX Gn (c.fact 18),
    He.glo_ok KX Gn (c.fact 19),
    He.glo_ok KX Gn (c.fact 20),
    He.glo_ok KX Gn (c.fact 21),
    He.glo_ok KX Gn (c.fact 22),
    He.glo_ok KX Gn (c.fact 23),
    He.glo_ok KX Gn (c.fact 24),
    He.glo_ok KX Gn (c.fact 25),
    He.glo_ok KX Gn (c.fact 26),
    He.glo_ok KX Gn (c.fact 27),
    He.glo_ok KX Gn (c.fact 28),
    He.glo_ok KX Gn (c.fact 29),
    He.glo_ok KX Gn (c.fact 30),
    He.glo_ok KX Gn (c.fact 31),
    He.glo_ok KX Gn (c.fact 32),
    He.glo_ok KX Gn (c.fact 33),
    He.glo_ok KX Gn (c.fact 34),
    He.glo_ok KX Gn (c.fact 35),
    He.glo_ok KX Gn (c.fact 36),
    He.glo_ok KX Gn (c.fact 37),
    He.glo_ok KX Gn (c.fact 38),
    He.glo_ok KX Gn (c.fact 39),
    He.glo_ok KX Gn (c.fact 40),
    He.glo_ok KX Gn (c.fact 41),
    He.glo_ok KX Gn (c.fact 42),
    (let z := c.sup 0 0; supC (prog := PySem.Challenge.pw_fairrounds_k53_whole_spots_made_by_steps) (d := (⟨"NoNumber", "NoNumber", 0, ⟨13, 17, 13, 21⟩, ⟨14, 8, 14, 13⟩, ⟨14, 8, 14, 15⟩, ⟨14, 8, 14, 24⟩, ⟨14, 25, 14, 35⟩, ⟨14, 8, 14, 36⟩, ⟨14, 8, 14, 36⟩⟩ : ExD)) z.1 z.2 (by decide +kernel)),
    (let z := c.sup 1 1; supC (prog := PySem.Challenge.pw_fairrounds_k53_whole_spots_made_by_steps) (d := (⟨"NoSpots", "NoSpots", 0, ⟨17, 17, 17, 21⟩, ⟨18, 8, 18, 13⟩, ⟨18, 8, 18, 15⟩, ⟨18, 8, 18, 24⟩, ⟨18, 25, 18, 34⟩, ⟨18, 8, 18, 35⟩, ⟨18, 8, 18, 35⟩⟩ : ExD)) z.1 z.2 (by decide +kernel)),
    (by
    intro m hm
    have hm : m ∈ [1, 2] := of_decide_eq_true hm
    simp only [List.mem_cons, List.not_mem_nil, or_false] at hm
    rcases hm with rfl | rfl
    · exact of_decide_eq_true (c.more 2 (f := .exm "NoNumber" "RoundError"))
    · exact of_decide_eq_true (c.more 3 (f := .exm "NoSpots" "RoundError"))),
    (by
    intro m hm
    have hm : m ∈ [1, 2] := of_decide_eq_true hm
    simp only [List.mem_cons, List.not_mem_nil, or_false] at hm
    rcases hm with rfl | rfl
    · exact excC (x := "NoNumber") (c.more 4 (f := .exc "NoNumber"))
    · exact excC (x := "NoSpots") (c.more 5 (f := .exc "NoSpots"))),
    (by
    intro m hm
    have hm : m ∈ [1, 2] := of_decide_eq_true hm
    simp only [List.mem_cons, List.not_mem_nil, or_false] at hm
    rcases hm with rfl | rfl
    · intro d b e
      unfold kit at e
      rw [if_pos (by decide)] at e
      split at e
      · rename_i j
        split at e
        · rename_i hj
          have hj : j ∈ [1, 2] := of_decide_eq_true hj
          simp only [List.mem_cons, List.not_mem_nil, or_false] at hj
          rcases hj with rfl | rfl
          · cases e; exact ⟨_, rfl, of_decide_eq_true (c.more 6 (f := .kit "NoNumber" "NoNumber" true))⟩
          · cases e; exact ⟨_, rfl, of_decide_eq_true (c.more 7 (f := .kit "NoNumber" "NoSpots" false))⟩
        · cases e
      · split at e
        · rename_i en; subst en; cases e; exact ⟨_, rfl, of_decide_eq_true (c.more 8 (f := .kitT "NoNumber" "ValueError" true))⟩
        · cases e
      · cases e
    · intro d b e
      unfold kit at e
      rw [if_pos (by decide)] at e
      split at e
      · rename_i j
        split at e
        · rename_i hj
          have hj : j ∈ [1, 2] := of_decide_eq_true hj
          simp only [List.mem_cons, List.not_mem_nil, or_false] at hj
          rcases hj with rfl | rfl
          · cases e; exact ⟨_, rfl, of_decide_eq_true (c.more 9 (f := .kit "NoSpots" "NoNumber" false))⟩
          · cases e; exact ⟨_, rfl, of_decide_eq_true (c.more 10 (f := .kit "NoSpots" "NoSpots" true))⟩
        · cases e
      · split at e
        · rename_i en; subst en; cases e; exact ⟨_, rfl, of_decide_eq_true (c.more 11 (f := .kitT "NoSpots" "ValueError" true))⟩
        · cases e
      · cases e)⟩
  obtain ⟨fd_is_integer, FD_is_integer⟩ := c.fn 0
  have FD_is_integer : FunD (GK K).K "is_integer" "is_integer" (defArgs (top 1)) (defBody (top 1)) (defScope (top 1)) [] [] ((GK K).fa 0) fd_is_integer := FD_is_integer
  obtain ⟨fd_is_within, FD_is_within⟩ := c.fn 1
  have FD_is_within : FunD (GK K).K "is_within" "is_within" (defArgs (top 2)) (defBody (top 2)) (defScope (top 2)) [] [] ((GK K).fa 1) fd_is_within := FD_is_within
  obtain ⟨fd_is_tuple, FD_is_tuple⟩ := c.fn 2
  have FD_is_tuple : FunD (GK K).K "is_tuple" "is_tuple" (defArgs (top 3)) (defBody (top 3)) (defScope (top 3)) [] [] ((GK K).fa 2) fd_is_tuple := FD_is_tuple
  obtain ⟨fd_is_spots, FD_is_spots⟩ := c.fn 3
  have FD_is_spots : FunD (GK K).K "is_spots" "is_spots" (defArgs (top 10)) (defBody (top 10)) (defScope (top 10)) [] [] ((GK K).fa 3) fd_is_spots := FD_is_spots
  obtain ⟨fd_check_spots, FD_check_spots⟩ := c.fn 4
  have FD_check_spots : FunD (GK K).K "check_spots" "check_spots" (defArgs (top 11)) (defBody (top 11)) (defScope (top 11)) [] [] ((GK K).fa 4) fd_check_spots := FD_check_spots
  obtain ⟨fd_even_spots, FD_even_spots⟩ := c.fn 5
  have FD_even_spots : FunD (GK K).K "even_spots" "even_spots" (defArgs (top 12)) (defBody (top 12)) (defScope (top 12)) [] [] ((GK K).fa 5) fd_even_spots := FD_even_spots
  obtain ⟨fd_turned, FD_turned⟩ := c.fn 6
  have FD_turned : FunD (GK K).K "turned" "turned" (defArgs (top 13)) (defBody (top 13)) (defScope (top 13)) [] [] ((GK K).fa 6) fd_turned := FD_turned
  obtain ⟨fd_made_by, FD_made_by⟩ := c.fn 7
  have FD_made_by : FunD (GK K).K "made_by" "made_by" (defArgs (top 14)) (defBody (top 14)) (defScope (top 14)) [] [] ((GK K).fa 7) fd_made_by := FD_made_by
  obtain ⟨fd_steps_that_make, FD_steps_that_make⟩ := c.fn 8
  have FD_steps_that_make : FunD (GK K).K "steps_that_make" "steps_that_make" (defArgs (top 15)) (defBody (top 15)) (defScope (top 15)) [] [] ((GK K).fa 8) fd_steps_that_make := FD_steps_that_make
  obtain ⟨fd_two_rings, FD_two_rings⟩ := c.fn 9
  have FD_two_rings : FunD (GK K).K "two_rings" "two_rings" (defArgs (top 16)) (defBody (top 16)) (defScope (top 16)) [] [] ((GK K).fa 9) fd_two_rings := FD_two_rings
  obtain ⟨fd__law_tape, FD__law_tape⟩ := c.fn 10
  have FD__law_tape : FunD (GK K).K "_law_tape" "_law_tape" (defArgs (top 18)) (defBody (top 18)) (defScope (top 18)) [] [] ((GK K).fa 10) fd__law_tape := FD__law_tape
  obtain ⟨fd__law_pick, FD__law_pick⟩ := c.fn 11
  have FD__law_pick : FunD (GK K).K "_law_pick" "_law_pick" (defArgs (top 19)) (defBody (top 19)) (defScope (top 19)) [] [] ((GK K).fa 11) fd__law_pick := FD__law_pick
  obtain ⟨fd__law_any, FD__law_any⟩ := c.fn 12
  have FD__law_any : FunD (GK K).K "_law_any" "_law_any" (defArgs (top 20)) (defBody (top 20)) (defScope (top 20)) [] [] ((GK K).fa 12) fd__law_any := FD__law_any
  obtain ⟨fd__law_deep, FD__law_deep⟩ := c.fn 13
  have FD__law_deep : FunD (GK K).K "_law_deep" "_law_deep" (defArgs (top 21)) (defBody (top 21)) (defScope (top 21)) [] [] ((GK K).fa 13) fd__law_deep := FD__law_deep
  obtain ⟨fd__law_spots, FD__law_spots⟩ := c.fn 14
  have FD__law_spots : FunD (GK K).K "_law_spots" "_law_spots" (defArgs (top 22)) (defBody (top 22)) (defScope (top 22)) [] [] ((GK K).fa 14) fd__law_spots := FD__law_spots
  obtain ⟨fd__law_no_ring, FD__law_no_ring⟩ := c.fn 15
  have FD__law_no_ring : FunD (GK K).K "_law_no_ring" "_law_no_ring" (defArgs (top 23)) (defBody (top 23)) (defScope (top 23)) [] [] ((GK K).fa 15) fd__law_no_ring := FD__law_no_ring
  obtain ⟨fd__law_no_spots, FD__law_no_spots⟩ := c.fn 16
  have FD__law_no_spots : FunD (GK K).K "_law_no_spots" "_law_no_spots" (defArgs (top 24)) (defBody (top 24)) (defScope (top 24)) [] [] ((GK K).fa 16) fd__law_no_spots := FD__law_no_spots
  obtain ⟨fd__law_word, FD__law_word⟩ := c.fn 17
  have FD__law_word : FunD (GK K).K "_law_word" "_law_word" (defArgs (top 25)) (defBody (top 25)) (defScope (top 25)) [] [] ((GK K).fa 17) fd__law_word := FD__law_word
  obtain ⟨fd__law_made, FD__law_made⟩ := c.fn 18
  have FD__law_made : FunD (GK K).K "_law_made" "_law_made" (defArgs (top 26)) (defBody (top 26)) (defScope (top 26)) [] [] ((GK K).fa 18) fd__law_made := FD__law_made
  obtain ⟨fd__law_steps, FD__law_steps⟩ := c.fn 19
  have FD__law_steps : FunD (GK K).K "_law_steps" "_law_steps" (defArgs (top 27)) (defBody (top 27)) (defScope (top 27)) [] [] ((GK K).fa 19) fd__law_steps := FD__law_steps
  obtain ⟨fd__law_is_right, FD__law_is_right⟩ := c.fn 20
  have FD__law_is_right : FunD (GK K).K "_law_is_right" "_law_is_right" (defArgs (top 28)) (defBody (top 28)) (defScope (top 28)) [] [] ((GK K).fa 20) fd__law_is_right := FD__law_is_right
  obtain ⟨fd__law_word_of, FD__law_word_of⟩ := c.fn 21
  have FD__law_word_of : FunD (GK K).K "_law_word_of" "_law_word_of" (defArgs (top 30)) (defBody (top 30)) (defScope (top 30)) [] [] ((GK K).fa 22) fd__law_word_of := FD__law_word_of
  obtain ⟨fd__law_is_refused, FD__law_is_refused⟩ := c.fn 22
  have FD__law_is_refused : FunD (GK K).K "_law_is_refused" "_law_is_refused" (defArgs (top 29)) (defBody (top 29)) (defScope (top 29)) [] [] ((GK K).fa 21) fd__law_is_refused := FD__law_is_refused
  obtain ⟨fd_law, FD_law⟩ := c.fn 23
  have FD_law : FunD (GK K).K "law" "law" (defArgs (top 31)) (defBody (top 31)) (defScope (top 31)) [] [] ((GK K).fa 23) fd_law := FD_law
  have e := hfa.symm.trans (He.glo_ok KX Gn (c.fact 42))
  cases e
  refine ⟨K, KX, GK K, fd_law, [He.cT K ("_law_word_of", none), He.cT K ("_law_is_refused", none)], F_law, rfl, ?_, fun _ _ => trivial, ?_, ?_, ?_, ?_, hF, fun base kb gb TB => ?_⟩
  · intro z hz; simp only [List.map_cons, List.map_nil]; revert z hz; simp
  · intro p hp; simp only [List.mem_cons, List.not_mem_nil, or_false] at hp; rcases hp with rfl | rfl
    · exact c.empty ("_law_word_of", none) (by simp [ask])
    · exact c.empty ("_law_is_refused", none) (by simp [ask])
  · intro p hp; simp only [List.mem_cons, List.not_mem_nil, or_false] at hp; rcases hp with rfl | rfl
    · exact c.out ("_law_word_of", none) (by simp [ask])
    · exact c.out ("_law_is_refused", none) (by simp [ask])
  · intro p hp; simp only [List.mem_cons, List.not_mem_nil, or_false] at hp; rcases hp with rfl | rfl
    · exact codeHd_of KX (c.hd ("_law_word_of", none) (by simp [ask]))
    · exact codeHd_of KX (c.hd ("_law_is_refused", none) (by simp [ask]))
  · have b := FunD.bindsA (ps := ["script"]) FD_law fun _ _ _ _ _ _ us hl => match us, hl with | [_], _ => rfl
    exact fun s v => b s [v] rfl
  have d_is_integer : Dfn PySem.Challenge.pw_fairrounds_k53_whole_spots_made_by_steps w mg base (GK K) false 1 0 "is_integer" ["thing"] F_is_integer := ⟨He.glo_ok KX Gn (c.fact 19), fd_is_integer, ok_is_integer T  FD_is_integer, (FD_is_integer.bindsN fun _ _ _ _ _ _ us hl => match us, hl with | [_], _ => rfl), FD_is_integer.kp⟩
  have d_is_within : Dfn PySem.Challenge.pw_fairrounds_k53_whole_spots_made_by_steps w mg base (GK K) false 2 1 "is_within" ["thing", "least", "most"] F_is_within := ⟨He.glo_ok KX Gn (c.fact 20), fd_is_within, ok_is_within T d_is_integer FD_is_within, (FD_is_within.bindsN fun _ _ _ _ _ _ us hl => match us, hl with | [_, _, _], _ => rfl), FD_is_within.kp⟩
  have d_is_tuple : Dfn PySem.Challenge.pw_fairrounds_k53_whole_spots_made_by_steps w mg base (GK K) false 1 2 "is_tuple" ["thing", "least", "most"] F_is_tuple := ⟨He.glo_ok KX Gn (c.fact 21), fd_is_tuple, ok_is_tuple T  FD_is_tuple, (FD_is_tuple.bindsN fun _ _ _ _ _ _ us hl => match us, hl with | [_, _, _], _ => rfl), FD_is_tuple.kp⟩
  have d_is_spots : Dfn PySem.Challenge.pw_fairrounds_k53_whole_spots_made_by_steps w mg base (GK K) false 3 3 "is_spots" ["ring", "thing"] F_is_spots := ⟨He.glo_ok KX Gn (c.fact 22), fd_is_spots, ok_is_spots T d_is_within d_is_tuple FD_is_spots, (FD_is_spots.bindsN fun _ _ _ _ _ _ us hl => match us, hl with | [_, _], _ => rfl), FD_is_spots.kp⟩
  have d_check_spots : Dfn PySem.Challenge.pw_fairrounds_k53_whole_spots_made_by_steps w mg base (GK K) false 4 4 "check_spots" ["ring", "thing"] F_check_spots := ⟨He.glo_ok KX Gn (c.fact 23), fd_check_spots, ok_check_spots T d_is_within d_is_spots FD_check_spots, (FD_check_spots.bindsN fun _ _ _ _ _ _ us hl => match us, hl with | [_, _], _ => rfl), FD_check_spots.kp⟩
  have d_even_spots : Dfn PySem.Challenge.pw_fairrounds_k53_whole_spots_made_by_steps w mg base (GK K) false 3 5 "even_spots" ["ring", "many", "begin"] F_even_spots := ⟨He.glo_ok KX Gn (c.fact 24), fd_even_spots, ok_even_spots T d_is_within FD_even_spots, (FD_even_spots.bindsN fun _ _ _ _ _ _ us hl => match us, hl with | [_, _, _], _ => rfl), FD_even_spots.kp⟩
  have d_turned : Dfn PySem.Challenge.pw_fairrounds_k53_whole_spots_made_by_steps w mg base (GK K) false 5 6 "turned" ["ring", "spots", "by"] F_turned := ⟨He.glo_ok KX Gn (c.fact 25), fd_turned, ok_turned T d_check_spots d_is_within FD_turned, (FD_turned.bindsN fun _ _ _ _ _ _ us hl => match us, hl with | [_, _, _], _ => rfl), FD_turned.kp⟩
  have d_made_by : Dfn PySem.Challenge.pw_fairrounds_k53_whole_spots_made_by_steps w mg base (GK K) false 3 7 "made_by" ["ring", "step", "many"] F_made_by := ⟨He.glo_ok KX Gn (c.fact 26), fd_made_by, ok_made_by T d_is_within FD_made_by, (FD_made_by.bindsN fun _ _ _ _ _ _ us hl => match us, hl with | [_, _, _], _ => rfl), FD_made_by.kp⟩
  have d_steps_that_make : Dfn PySem.Challenge.pw_fairrounds_k53_whole_spots_made_by_steps w mg base (GK K) false 6 8 "steps_that_make" ["ring", "spots"] F_steps_that_make := ⟨He.glo_ok KX Gn (c.fact 27), fd_steps_that_make, ok_steps_that_make T d_check_spots d_made_by d_turned FD_steps_that_make, (FD_steps_that_make.bindsN fun _ _ _ _ _ _ us hl => match us, hl with | [_, _], _ => rfl), FD_steps_that_make.kp⟩
  have d_two_rings : Dfn PySem.Challenge.pw_fairrounds_k53_whole_spots_made_by_steps w mg base (GK K) false 4 9 "two_rings" ["small", "great", "many"] F_two_rings := ⟨He.glo_ok KX Gn (c.fact 28), fd_two_rings, ok_two_rings T d_is_within d_even_spots FD_two_rings, (FD_two_rings.bindsN fun _ _ _ _ _ _ us hl => match us, hl with | [_, _, _], _ => rfl), FD_two_rings.kp⟩
  have d__law_tape : Dfn PySem.Challenge.pw_fairrounds_k53_whole_spots_made_by_steps w mg base (GK K) false 1 10 "_law_tape" ["script"] F__law_tape := ⟨He.glo_ok KX Gn (c.fact 29), fd__law_tape, ok__law_tape T  FD__law_tape, (FD__law_tape.bindsN fun _ _ _ _ _ _ us hl => match us, hl with | [_], _ => rfl), FD__law_tape.kp⟩
  have d__law_pick : Dfn PySem.Challenge.pw_fairrounds_k53_whole_spots_made_by_steps w mg base (GK K) false 1 11 "_law_pick" ["tape", "many"] F__law_pick := ⟨He.glo_ok KX Gn (c.fact 30), fd__law_pick, ok__law_pick T  FD__law_pick, (FD__law_pick.bindsN fun _ _ _ _ _ _ us hl => match us, hl with | [_, _], _ => rfl), FD__law_pick.kp⟩
  have d__law_any : Dfn PySem.Challenge.pw_fairrounds_k53_whole_spots_made_by_steps w mg base (GK K) false 2 12 "_law_any" ["tape", "things"] F__law_any := ⟨He.glo_ok KX Gn (c.fact 31), fd__law_any, ok__law_any T d__law_pick FD__law_any, (FD__law_any.bindsN fun _ _ _ _ _ _ us hl => match us, hl with | [_, _], _ => rfl), FD__law_any.kp⟩
  have d__law_deep : Dfn PySem.Challenge.pw_fairrounds_k53_whole_spots_made_by_steps w mg base (GK K) false 3 13 "_law_deep" ["tape"] F__law_deep := ⟨He.glo_ok KX Gn (c.fact 32), fd__law_deep, ok__law_deep T d__law_any FD__law_deep, (FD__law_deep.bindsN fun _ _ _ _ _ _ us hl => match us, hl with | [_], _ => rfl), FD__law_deep.kp⟩
  have d__law_spots : Dfn PySem.Challenge.pw_fairrounds_k53_whole_spots_made_by_steps w mg base (GK K) false 3 14 "_law_spots" ["tape", "ring"] F__law_spots := ⟨He.glo_ok KX Gn (c.fact 33), fd__law_spots, ok__law_spots T d__law_any d__law_pick FD__law_spots, (FD__law_spots.bindsN fun _ _ _ _ _ _ us hl => match us, hl with | [_, _], _ => rfl), FD__law_spots.kp⟩
  have d__law_no_ring : Dfn PySem.Challenge.pw_fairrounds_k53_whole_spots_made_by_steps w mg base (GK K) false 3 15 "_law_no_ring" ["tape"] F__law_no_ring := ⟨He.glo_ok KX Gn (c.fact 34), fd__law_no_ring, ok__law_no_ring T d__law_any FD__law_no_ring, (FD__law_no_ring.bindsN fun _ _ _ _ _ _ us hl => match us, hl with | [_], _ => rfl), FD__law_no_ring.kp⟩
  have d__law_no_spots : Dfn PySem.Challenge.pw_fairrounds_k53_whole_spots_made_by_steps w mg base (GK K) false 4 16 "_law_no_spots" ["tape", "ring"] F__law_no_spots := ⟨He.glo_ok KX Gn (c.fact 35), fd__law_no_spots, ok__law_no_spots T d__law_any d__law_deep FD__law_no_spots, (FD__law_no_spots.bindsN fun _ _ _ _ _ _ us hl => match us, hl with | [_, _], _ => rfl), FD__law_no_spots.kp⟩
  have d__law_word : Wrd PySem.Challenge.pw_fairrounds_k53_whole_spots_made_by_steps w mg base (GK K) 1 17 "_law_word" "asked_one" ["asked_one", "found", "e", "flags", "tags"] B__law_word := ⟨He.glo_ok KX Gn (c.fact 36), _, _, _, fd__law_word, FD__law_word, (FD__law_word.bindsN fun _ _ _ _ _ _ us hl => match us, hl with | [_], _ => rfl), sc__law_word, rfl, .inl rfl, ok__law_word T⟩
  have d__law_made : Dfn PySem.Challenge.pw_fairrounds_k53_whole_spots_made_by_steps w mg base (GK K) false 1 18 "_law_made" ["ring", "step", "many"] F__law_made := ⟨He.glo_ok KX Gn (c.fact 37), fd__law_made, ok__law_made T  FD__law_made, (FD__law_made.bindsN fun _ _ _ _ _ _ us hl => match us, hl with | [_, _, _], _ => rfl), FD__law_made.kp⟩
  have d__law_steps : Dfn PySem.Challenge.pw_fairrounds_k53_whole_spots_made_by_steps w mg base (GK K) false 2 19 "_law_steps" ["ring", "spots"] F__law_steps := ⟨He.glo_ok KX Gn (c.fact 38), fd__law_steps, ok__law_steps T d__law_made FD__law_steps, (FD__law_steps.bindsN fun _ _ _ _ _ _ us hl => match us, hl with | [_, _], _ => rfl), FD__law_steps.kp⟩
  have d__law_is_right : Dfn PySem.Challenge.pw_fairrounds_k53_whole_spots_made_by_steps w mg base (GK K) true 7 20 "_law_is_right" ["tape"] F__law_is_right := ⟨He.glo_ok KX Gn (c.fact 39), fd__law_is_right, ok__law_is_right T d__law_pick d__law_made d_made_by d__law_spots d_turned d_steps_that_make d__law_steps d_even_spots d_two_rings FD__law_is_right, (FD__law_is_right.bindsN fun _ _ _ _ _ _ us hl => match us, hl with | [_], _ => rfl), FD__law_is_right.kp⟩
  have mk__law_word_of : MkL mg base (GK K) (("_law_word_of" : Str) ++ ".<locals>." ++ "<lambda>") fd__law_word_of := ⟨_, _, code_of FD__law_word_of, TB (He.cT K ("_law_word_of", none)) (by simp), by simp [GK], uniq_of (show ((GK K).T.map (·.1)).Nodup from c.nd) (by simp [GK])⟩
  have d__law_word_of : Dfn PySem.Challenge.pw_fairrounds_k53_whole_spots_made_by_steps w mg base (GK K) false 9 22 "_law_word_of" ["ring", "spots"] F__law_word_of := ⟨He.glo_ok KX Gn (c.fact 41), fd__law_word_of, ok__law_word_of T d__law_word d_steps_that_make FD__law_word_of mk__law_word_of, (FD__law_word_of.bindsN fun _ _ _ _ _ _ us hl => match us, hl with | [_, _], _ => rfl), FD__law_word_of.kp⟩
  have mk__law_is_refused : MkL mg base (GK K) (("_law_is_refused" : Str) ++ ".<locals>." ++ "<lambda>") fd__law_is_refused := ⟨_, _, code_of FD__law_is_refused, TB (He.cT K ("_law_is_refused", none)) (by simp), by simp [GK], uniq_of (show ((GK K).T.map (·.1)).Nodup from c.nd) (by simp [GK])⟩
  have d__law_is_refused : Dfn PySem.Challenge.pw_fairrounds_k53_whole_spots_made_by_steps w mg base (GK K) false 10 21 "_law_is_refused" ["tape"] F__law_is_refused := ⟨He.glo_ok KX Gn (c.fact 40), fd__law_is_refused, ok__law_is_refused T d__law_pick d__law_no_ring d__law_no_spots d__law_word_of d__law_word d_made_by d_two_rings FD__law_is_refused mk__law_is_refused, (FD__law_is_refused.bindsN fun _ _ _ _ _ _ us hl => match us, hl with | [_], _ => rfl), FD__law_is_refused.kp⟩
  exact (ok_law T d__law_tape d_made_by d_two_rings d_steps_that_make d__law_is_right d__law_is_refused FD_law)
abbrev R : PySem.W.OpenRow := PySem.W.OpenLaw.row PySem.Challenge.rw_fairrounds_k53_whole_spots_made_by_steps
abbrev hk : PySem.W.Hook := hookR 7 ask
def ob (s : PySem.W.SharedT) : AlR := obsR 7 ask (HandSHeadRun.getT s)
theorem ob_eq (s : PySem.W.SharedT) : ob s = hk.obs s.abs := obsR_eq (HandSHeadRun.getT_eq s)
def loose : List Str := ["is_integer", "is_within", "is_tuple", "RoundError", "NoNumber", "NoSpots", "MOST_RING", "is_spots", "check_spots", "even_spots", "turned", "made_by", "steps_that_make", "two_rings", "_law_tape", "_law_pick", "_law_any", "_law_deep", "_law_spots", "_law_no_ring", "_law_no_spots", "_law_word", "_law_made", "_law_steps", "_law_is_right", "_law_is_refused", "_law_word_of"]
theorem run (w : World) : HandSHeadRun.RunEq R (PySem.W.view R.prog [31]) hk ob 4000 loose w := by
  intro os
  kernel_rfl
end L53

set_option Elab.async false
set_option linter.all false
set_option maxRecDepth 100000
set_option maxHeartbeats 4000000
namespace L53
open PySem PySem.Spec PyProof.Rows L2 RX
/-! ### the shared defs -/
theorem e_int : F_is_integer = Q_is_integer := rfl
theorem e_win : F_is_within = Q_is_within := rfl
theorem e_tup : F_is_tuple = Q_is_tuple := rfl
theorem e_pick : F__law_pick = Q_pick := rfl
theorem e_any : F__law_any = Q_any := rfl
theorem e_deep : F__law_deep = Q_deep := rfl
theorem e_tape : F__law_tape = Q_tape := rfl
theorem win {h : Hd} {d : D} {lo hi : Int} (hd : hasHd h d) : F_is_within [d, .int lo, .int hi] h = .ok (.bl (wI d lo hi)) h := is_within_eq hd
@[simp] theorem winI {h : Hd} {i lo hi : Int} : F_is_within [.int i, .int lo, .int hi] h = .ok (.bl (decide (lo ≤ i) && decide (i ≤ hi))) h := is_within_eq hasHd_int
theorem tupl {h : Hd} {d : D} {lo hi : Int} (hd : hasHd h d) : F_is_tuple [d, .int lo, .int hi] h = .ok (.bl (tI d lo hi)) h := is_tuple_eq hd
/-! ### spots -/
/-- spots of a ring of n -/
def Spots (n : Nat) (ss : List Int) : Prop := ss.Pairwise (· < ·) ∧ ∀ x ∈ ss, 0 ≤ x ∧ x < (n : Int)
def Ring (n : Nat) : Prop := 1 ≤ n ∧ n ≤ 24
theorem Spots.len {n : Nat} {ss : List Int} (s : Spots n ss) : ss.length ≤ n := lt_length s.1 s.2
theorem szR {n : Nat} (h : n ≤ 24) : n ≤ sizeLine := sz_small (by omega)
/-- neighbours -/
def nbs (xs : List D) : List D := List.zipWith (fun x y => D.tup [x, y]) xs (xs.drop 1)
theorem nbs_all : ∀ ss : List Int, ss.Pairwise (· < ·) → ∀ d ∈ nbs (ss.map D.int), ∃ a b : Int, d = .tup [.int a, .int b] ∧ a < b
  | [], _, d, hd => by simp [nbs] at hd
  | [a], _, d, hd => by simp [nbs] at hd
  | a :: b :: ss, h, d, hd => by
    have e : nbs ((a :: b :: ss).map D.int) = .tup [.int a, .int b] :: nbs ((b :: ss).map D.int) := by simp [nbs]
    rw [e] at hd
    rcases List.mem_cons.mp hd with rfl | hd
    · exact ⟨a, b, rfl, (List.pairwise_cons.mp h).1 b List.mem_cons_self⟩
    · exact nbs_all (b :: ss) (List.pairwise_cons.mp h).2 d hd
theorem map_const {α β : Type} {f : α → β} {b : β} : ∀ {l : List α}, (∀ a ∈ l, f a = b) → l.map f = List.replicate l.length b
  | [], _ => rfl
  | a :: l, h => by rw [List.map_cons, h a List.mem_cons_self, map_const fun a ha => h a (List.mem_cons_of_mem _ ha)]; rfl
theorem is_spots_ok {n : Nat} {ss : List Int} {h : Hd} (R : Ring n) (s : Spots n ss) : F_is_spots [.int n, ti ss] h = .ok (.bl true) h := by
  refine fnF_rt rfl ?_ rfl
  have hl := s.len
  have z1 : ss.length ≤ sizeLine := Nat.le_trans hl (szR R.2)
  have c1 : ∀ (s : Sl), compL [4] (.nm 4) none (mCB F_is_within (aCons (mVar 4) (aCons (mC (.int 0)) (aCons (mOp fSub (mVar 0) (mC (.int 1))) (aNil))))) (ss.map D.int) [] [some (.int n), some (ti ss), none, none, none] h = .ok ((List.replicate ss.length true).map D.bl) h := fun _ => by
    rw [compL_map (fun _ => .bl true)]
    · rw [List.nil_append, List.map_replicate, map_const (fun _ _ => rfl), List.length_map]
    · intro d hd
      obtain ⟨i, hi, rfl⟩ := List.mem_map.mp hd
      have := s.2 i hi
      exact ⟨_, bindT_nm, by simp; omega⟩
  have c2 : compL [2, 3] (.tp [.nm 2, .nm 3]) none (mOp fLt (mVar 2) (mVar 3)) (nbs (ss.map D.int)) [] [some (.int n), some (ti ss), none, none, none] h = .ok ((List.replicate (nbs (ss.map D.int)).length true).map D.bl) h := by
    rw [compL_map (fun _ => .bl true)]
    · rw [List.nil_append, List.map_replicate, map_const fun _ _ => rfl]
    · intro d hd
      obtain ⟨a, b, rfl, hab⟩ := nbs_all ss s.1 d hd
      exact ⟨[some (.int n), some (ti ss), some (.int a), some (.int b), none], by simp, by simp [hab]⟩
  have z2 : (nbs (ss.map D.int)).length ≤ sizeLine := Nat.le_trans (by unfold nbs; rw [List.length_zipWith, List.length_map]; exact Nat.min_le_left _ _) z1
  have ec : fSl (ti ss) (some 1) none h = .ok (.tup ((ss.map D.int).drop 1)) h := by
    show Res.ok (D.tup (cutD (ss.map D.int) (some 1) none)) h = _
    rw [cut_back (by omega)]; rfl
  have ez : zipD [ti ss, .tup ((ss.map D.int).drop 1)] h = .ok (nbs (ss.map D.int)) h := rfl
  have et : F_is_tuple [ti ss, .int 0, .int n] h = .ok (.bl true) h := by
    rw [tupl hasHd_tup]
    simp [tI]; omega
  have hR := R.1
  have hR2 := R.2
  have r1 : decide ((1 : Int) ≤ n) = true := by simp; omega
  have r2 : decide ((n : Int) ≤ 24) = true := by simp; omega
  have a1 : ∀ k, FAll [.arr ((List.replicate k true).map D.bl)] h = .ok (.bl true) h := fun k => by rw [FAll_bl]; simp
  simp only [startS_eq, List.map_cons, List.map_nil, List.length_cons, List.length_nil, List.replicate, List.cons_append, List.nil_append, Nat.reduceAdd, Nat.reduceSub, Nat.zero_add, Nat.sub_self]
  simp only [M_is_spots, mSeq_ap, sIf_ap, mOr_ap, mNot_ap, mCB_ap, aCons_ap, aNil_ap, mC_ap, mVar_zero, mVar_succ, isX_int, isX_tup, bind_ok, winI, r1, r2, Bool.and_self, Bool.not_true, et, thn_ok, mSkip_ap, mLc_ap, iSeq_ap, List.length_map, z1, if_true, c1 [], noX_ok, a1, iZip_ap, mSl_ap, optM_some, optM_none, ec, ez, z2, c2, sRet_ap]
/-- not a tuple, or too long -/
theorem is_spots_no {n : Nat} {d : D} {h : Hd} (R : Ring n) (hd : hasHd h d) (e : tI d 0 n = false) : F_is_spots [.int n, d] h = .ok (.bl false) h := by
  refine fnF_rt rfl ?_ rfl
  have r1 : decide ((1 : Int) ≤ n) = true := by have := R.1; simp; omega
  have r2 : decide ((n : Int) ≤ 24) = true := by have := R.2; simp; omega
  have et : F_is_tuple [d, .int 0, .int n] h = .ok (.bl false) h := by rw [tupl hd, e]
  simp only [startS_eq, List.map_cons, List.map_nil, List.length_cons, List.length_nil, List.replicate, List.cons_append, List.nil_append, Nat.reduceAdd, Nat.reduceSub, Nat.zero_add, Nat.sub_self]
  simp only [M_is_spots, mSeq_ap, sIf_ap, mOr_ap, mNot_ap, mCB_ap, aCons_ap, aNil_ap, mC_ap, mVar_zero, mVar_succ, isX_int, hd.2, bind_ok, winI, r1, r2, Bool.and_self, Bool.not_true, Bool.not_false, et, thn_ok, mSkip_ap, sRet_ap]
/-- one of the things is no place -/
theorem is_spots_out {n : Nat} {xs : List D} {h : Hd} (R : Ring n) (hx : ∀ x ∈ xs, hasHd h x) (e : (xs.all fun x => wI x 0 (n - 1)) = false) : F_is_spots [.int n, .tup xs] h = .ok (.bl false) h := by
  by_cases hl : xs.length ≤ n
  case neg => exact is_spots_no R hasHd_tup (by simp [tI]; omega)
  refine fnF_rt rfl ?_ rfl
  have z1 : xs.length ≤ sizeLine := Nat.le_trans hl (szR R.2)
  have r1 : decide ((1 : Int) ≤ n) = true := by have := R.1; simp; omega
  have r2 : decide ((n : Int) ≤ 24) = true := by have := R.2; simp; omega
  have et : F_is_tuple [.tup xs, .int 0, .int n] h = .ok (.bl true) h := by
    rw [tupl hasHd_tup]
    simp [tI]; omega
  have c1 : compL [4] (.nm 4) none (mCB F_is_within (aCons (mVar 4) (aCons (mC (.int 0)) (aCons (mOp fSub (mVar 0) (mC (.int 1))) (aNil))))) xs [] [some (.int n), some (.tup xs), none, none, none] h = .ok ((xs.map fun x => wI x 0 (n - 1)).map D.bl) h := by
    rw [compL_map (fun x => .bl (wI x 0 (n - 1)))]
    · rw [List.nil_append, List.map_map]; rfl
    · intro d hd
      have := hx d hd
      exact ⟨_, bindT_nm, by simp [this.2, win this]⟩
  have a1 : FAll [.arr ((xs.map fun x => wI x 0 (n - 1)).map D.bl)] h = .ok (.bl false) h := by
    rw [FAll_bl, List.all_map]
    have : (xs.all (id ∘ fun x => wI x 0 (n - 1))) = false := e
    rw [this]
  simp only [startS_eq, List.map_cons, List.map_nil, List.length_cons, List.length_nil, List.replicate, List.cons_append, List.nil_append, Nat.reduceAdd, Nat.reduceSub, Nat.zero_add, Nat.sub_self]
  simp only [M_is_spots, mSeq_ap, sIf_ap, mOr_ap, mNot_ap, mCB_ap, aCons_ap, aNil_ap, mC_ap, mVar_zero, mVar_succ, isX_int, isX_tup, bind_ok, winI, r1, r2, Bool.and_self, Bool.not_true, Bool.not_false, et, thn_ok, mSkip_ap, mLc_ap, iSeq_ap, z1, if_true, c1, noX_ok, a1, sRet_ap]
theorem is_spots_00 {n : Nat} {h : Hd} (R : Ring n) (h2 : 2 ≤ n) : F_is_spots [.int n, ti [0, 0]] h = .ok (.bl false) h := by
  refine fnF_rt rfl ?_ rfl
  have r1 : decide ((1 : Int) ≤ n) = true := by have := R.1; simp; omega
  have r2 : decide ((n : Int) ≤ 24) = true := by have := R.2; simp; omega
  have z2 : 2 ≤ sizeLine := sz_small (by omega)
  have z1 : 1 ≤ sizeLine := sz_small (by omega)
  have et : F_is_tuple [ti [0, 0], .int 0, .int n] h = .ok (.bl true) h := by
    rw [tupl hasHd_tup]
    simp [tI]; omega
  have rn : (0 : Int) ≤ n - 1 := by omega
  have c1 : compL [4] (.nm 4) none (mCB F_is_within (aCons (mVar 4) (aCons (mC (.int 0)) (aCons (mOp fSub (mVar 0) (mC (.int 1))) (aNil))))) [.int 0, .int 0] [] [some (.int n), some (ti [0, 0]), none, none, none] h = .ok ([true, true].map D.bl) h := by
    rw [compL_map (fun _ => .bl true)]
    · rfl
    · intro d hd
      have : d = .int 0 := by simpa using hd
      subst this
      exact ⟨_, bindT_nm, by simp; omega⟩
  have c2 : compL [2, 3] (.tp [.nm 2, .nm 3]) none (mOp fLt (mVar 2) (mVar 3)) [.tup [.int 0, .int 0]] [] [some (.int n), some (ti [0, 0]), none, none, none] h = .ok ([false].map D.bl) h := by
    rw [compL_map (fun _ => .bl false)]
    · rfl
    · intro d hd
      have : d = .tup [.int 0, .int 0] := by simpa using hd
      subst this
      exact ⟨[some (.int n), some (ti [0, 0]), some (.int 0), some (.int 0), none], by simp, by simp⟩
  have ec : fSl (ti [0, 0]) (some 1) none h = .ok (.tup [.int 0]) h := rfl
  have ez : zipD [ti [0, 0], .tup [.int 0]] h = .ok [.tup [.int 0, .int 0]] h := rfl
  have a1 : FAll [.arr ([true, true].map D.bl)] h = .ok (.bl true) h := by rw [FAll_bl]; rfl
  have a2 : FAll [.arr ([false].map D.bl)] h = .ok (.bl false) h := by rw [FAll_bl]; rfl
  show M_is_spots [some (.int n), some (.tup [.int 0, .int 0]), none, none, none] h = _
  have c1' : compL [4] (.nm 4) none (mCB F_is_within (aCons (mVar 4) (aCons (mC (.int 0)) (aCons (mOp fSub (mVar 0) (mC (.int 1))) (aNil))))) [.int 0, .int 0] [] [some (.int n), some (.tup [.int 0, .int 0]), none, none, none] h = .ok [.bl true, .bl true] h := c1
  have c2' : compL [2, 3] (.tp [.nm 2, .nm 3]) none (mOp fLt (mVar 2) (mVar 3)) [.tup [.int 0, .int 0]] [] [some (.int n), some (.tup [.int 0, .int 0]), none, none, none] h = .ok [.bl false] h := c2
  have a1' : FAll [.arr [.bl true, .bl true]] h = .ok (.bl true) h := a1
  have a2' : FAll [.arr [.bl false]] h = .ok (.bl false) h := a2
  have et' : F_is_tuple [.tup [.int 0, .int 0], .int 0, .int n] h = .ok (.bl true) h := et
  have ec' : fSl (.tup [.int 0, .int 0]) (some 1) none h = .ok (.tup [.int 0]) h := rfl
  have ez' : zipD [.tup [.int 0, .int 0], .tup [.int 0]] h = .ok [.tup [.int 0, .int 0]] h := rfl
  simp only [M_is_spots, mSeq_ap, sIf_ap, mOr_ap, mNot_ap, mCB_ap, aCons_ap, aNil_ap, mC_ap, mVar_zero, mVar_succ, isX_int, isX_tup, bind_ok, winI, r1, r2, Bool.and_self, Bool.not_true, et', thn_ok, mSkip_ap, mLc_ap, iSeq_ap, noX_ok, iZip_ap, mSl_ap, optM_some, optM_none, sRet_ap, List.length_cons, List.length_nil, Nat.zero_add, Nat.reduceAdd, z1, z2, if_true, c1', ec', ez', c2', a1', a2']
theorem check_ok {n : Nat} {ss : List Int} {h : Hd} (R : Ring n) (s : Spots n ss) : F_check_spots [.int n, ti ss] h = .ok .non h := by
  have r1 : decide ((1 : Int) ≤ n) = true := by have := R.1; simp; omega
  have r2 : decide ((n : Int) ≤ 24) = true := by have := R.2; simp; omega
  refine fnF_nx (s := [some (.int n), some (ti ss)]) rfl ?_ rfl
  simp only [startS_eq, List.map_cons, List.map_nil, List.length_cons, List.length_nil, List.replicate, List.cons_append, List.nil_append, Nat.reduceAdd, Nat.reduceSub, Nat.zero_add, Nat.sub_self]
  simp only [M_check_spots, mSeq_ap, sIf_ap, mNot_ap, mCB_ap, aCons_ap, aNil_ap, mC_ap, mVar_zero, mVar_succ, isX_int, isX_tup, bind_ok, winI, r1, r2, Bool.and_self, Bool.not_true, thn_ok, mSkip_ap, is_spots_ok R s]
theorem check_bad {n : Nat} {d : D} {h : Hd} (R : Ring n) (hx : d.isX = false) (e : F_is_spots [.int n, d] h = .ok (.bl false) h) : F_check_spots [.int n, d] h = .exc 2 h := by
  have r1 : decide ((1 : Int) ≤ n) = true := by have := R.1; simp; omega
  have r2 : decide ((n : Int) ≤ 24) = true := by have := R.2; simp; omega
  refine fnF_exc (s := [some (.int n), some d]) rfl ?_ rfl
  simp only [startS_eq, List.map_cons, List.map_nil, List.length_cons, List.length_nil, List.replicate, List.cons_append, List.nil_append, Nat.reduceAdd, Nat.reduceSub, Nat.zero_add, Nat.sub_self]
  simp only [M_check_spots, mSeq_ap, sIf_ap, mNot_ap, mCB_ap, aCons_ap, aNil_ap, mC_ap, mVar_zero, mVar_succ, isX_int, hx, bind_ok, winI, r1, r2, Bool.and_self, Bool.not_true, Bool.not_false, thn_ok, mSkip_ap, e, sRaise_ap]
theorem check_noring {d e : D} {h : Hd} (hd : hasHd h d) (w : wI d 1 24 = false) : F_check_spots [d, e] h = .exc 1 h := by
  refine fnF_exc (s := [some d, some e]) rfl ?_ rfl
  simp only [startS_eq, List.map_cons, List.map_nil, List.length_cons, List.length_nil, List.replicate, List.cons_append, List.nil_append, Nat.reduceAdd, Nat.reduceSub, Nat.zero_add, Nat.sub_self]
  simp only [M_check_spots, mSeq_ap, sIf_ap, mNot_ap, mCB_ap, aCons_ap, aNil_ap, mC_ap, mVar_zero, hd.2, bind_ok, win hd, w, Bool.not_false, thn_ok, sRaise_ap]
/-! ### made by steps -/
def madeL (n : Nat) (step : Int) (many : Nat) : List Int := setI n fun x => decide (x ∈ (upN many).map fun i => step * i % n)
theorem made_spots {n : Nat} {step : Int} {many : Nat} : Spots n (madeL n step many) := by
  unfold madeL
  exact ⟨setI_lt, fun x hx => (mem_setI.mp hx).1⟩
theorem small_mul {i j : Int} {h : Hd} (h0 : -1000 ≤ i) (h1 : i ≤ 1000) : fMul (.int i) (.int j) h = .ok (.int (i * j)) h := fMul_int (.inl (s64_lit (by omega) (by omega)))
theorem range_ok {n : Nat} {h : Hd} (h1 : n ≤ 1000) : iRg1 [.int n] h = .ok ((upN n).map D.int) h := by
  rw [iRg1_ok (by omega) (by omega), Int.toNat_natCast, rgD_upN]
theorem upN_length {n : Nat} : (upN n).length = n := by unfold upN; rw [List.length_map, List.length_range]
theorem made_in {n : Nat} {step : Int} {many : Nat} (hn : 1 ≤ n) : ∀ x ∈ (upN many).map (fun i => step * i % n), 0 ≤ x ∧ x < (n : Int) := fun x hx => by
  obtain ⟨i, _, rfl⟩ := List.mem_map.mp hx
  exact ⟨Int.emod_nonneg _ (by omega), Int.emod_lt_of_pos _ (by omega)⟩
theorem made_by_ok {n many : Nat} {step : Int} {h : Hd} (R : Ring n) (h0 : 0 ≤ step) (h1 : step ≤ n - 1) (hm : many ≤ n) : F_made_by [.int n, .int step, .int many] h = .ok (ti (madeL n step many)) h := by
  refine fnF_rt rfl ?_ rfl
  have R1 := R.1
  have R2 := R.2
  have r1 : decide ((1 : Int) ≤ n) = true := by simp; omega
  have r2 : decide ((n : Int) ≤ 24) = true := by simp; omega
  have r3 : decide (0 ≤ step) = true := by simp; omega
  have r4 : decide (step ≤ (n : Int) - 1) = true := by simp; omega
  have r5 : decide ((0 : Int) ≤ many) = true := by simp
  have r6 : decide ((many : Int) ≤ n) = true := by simp; omega
  have z1 : many ≤ sizeLine := sz_small (by omega)
  have c1 : dcL [3] (.nm 3) none (mOp fMod (mOp fMul (mVar 1) (mVar 3)) (mVar 0)) (mC (.bl true)) ((upN many).map D.int) [] [some (.int n), some (.int step), some (.int many), none] h = .ok (dictI ((upN many).map fun i => step * i % n) (.bl true)) h := by
    rw [dcL_map (fun d => match d with | .int i => (.inl (step * i % n), .bl true) | _ => (.inl 0, .non))]
    · show Res.ok (mergeD [] _) h = Res.ok (mergeD [] _) h
      rw [List.map_map, List.map_map]
      rfl
    · intro d hd
      obtain ⟨i, hi, rfl⟩ := List.mem_map.mp hd
      refine ⟨_, .int (step * i % n), bindT_nm, ?_, rfl, rfl⟩
      simp [small_mul (by omega : -1000 ≤ step) (by omega), fMod_int (show (0 : Int) < n by omega)]
  have sd := sorted_dict (d := .bl true) (h := h) (made_in (step := step) (many := many) R1) (by omega : n < 64)
  simp only [startS_eq, List.map_cons, List.map_nil, List.length_cons, List.length_nil, List.replicate, List.cons_append, List.nil_append, Nat.reduceAdd, Nat.reduceSub, Nat.zero_add, Nat.sub_self]
  simp only [M_made_by, mSeq_ap, sIf_ap, mOr_ap, mNot_ap, mCB_ap, aCons_ap, aNil_ap, mC_ap, mOp_ap, mVar_zero, mVar_succ, isX_int, bind_ok, winI, fSub_int, r1, r2, r3, r4, r5, r6, Bool.and_self, Bool.not_true, thn_ok, mSkip_ap, sRet_ap, mDc_ap, iRange1_ap, range_ok (show many ≤ 1000 by omega), List.length_map, upN_length, z1, if_true, c1, noX_ok, sd, FTuple_arr]
  rfl
theorem made_by_no {d : D} {h : Hd} (hd : hasHd h d) (w : wI d 1 24 = false) : F_made_by [d, .int 1, .int 1] h = .exc 1 h := by
  refine fnF_exc (s := [some d, some (.int 1), some (.int 1), none]) rfl ?_ rfl
  simp only [startS_eq, List.map_cons, List.map_nil, List.length_cons, List.length_nil, List.replicate, List.cons_append, List.nil_append, Nat.reduceAdd, Nat.reduceSub, Nat.zero_add, Nat.sub_self]
  simp only [M_made_by, mSeq_ap, sIf_ap, mOr_ap, mNot_ap, mCB_ap, aCons_ap, aNil_ap, mC_ap, mVar_zero, hd.2, bind_ok, win hd, w, Bool.not_false, thn_ok, sRaise_ap]
theorem two_rings_no {d : D} {h : Hd} (hd : hasHd h d) (w : wI d 1 24 = false) : F_two_rings [.int 1, d, .int 1] h = .exc 1 h := by
  refine fnF_exc (s := [some (.int 1), some d, some (.int 1), none, none]) rfl ?_ rfl
  simp only [startS_eq, List.map_cons, List.map_nil, List.length_cons, List.length_nil, List.replicate, List.cons_append, List.nil_append, Nat.reduceAdd, Nat.reduceSub, Nat.zero_add, Nat.sub_self]
  simp only [M_two_rings, mSeq_ap, sIf_ap, mOr_ap, mNot_ap, mCB_ap, aCons_ap, aNil_ap, mC_ap, mVar_zero, mVar_succ, hd.2, bind_ok, win hd, w, Bool.not_false, thn_ok, sRaise_ap]
theorem law_made_ok {n many : Nat} {step : Int} {h : Hd} (R : Ring n) (h0 : 0 ≤ step) (h1 : step ≤ 1000) (hm : many ≤ 1000) : F__law_made [.int n, .int step, .int many] h = .ok (ti (madeL n step many)) h := by
  refine fnF_rt rfl ?_ rfl
  have R1 := R.1
  have R2 := R.2
  have z1 : many ≤ sizeLine := sz_small (by omega)
  have z2 : 2 ≤ sizeLine := sz_small (by omega)
  have c1 : compL [3] (.nm 3) none (mTup (aCons (mOp fMod (mCB FInt (aCons (mOp fMul (mVar 1) (mVar 3)) (aNil))) (mVar 0)) (aCons (mC (.bl true)) (aNil)))) ((upN many).map D.int) [] [some (.int n), some (.int step), some (.int many), none] h = .ok (((upN many).map fun i => step * i % n).map fun i => .tup [.int i, .bl true]) h := by
    rw [compL_map (fun d => match d with | .int i => .tup [.int (step * i % n), .bl true] | d => d)]
    · rw [List.nil_append, List.map_map, List.map_map]; rfl
    · intro d hd
      obtain ⟨i, hi, rfl⟩ := List.mem_map.mp hd
      refine ⟨_, bindT_nm, ?_⟩
      simp [small_mul (by omega : -1000 ≤ step) (by omega), fMod_int (show (0 : Int) < n by omega), z2]
  have pk : ∀ ns : List Int, RX.pairsOf (ns.map fun i => D.tup [.int i, .bl true]) = some (ns.map fun i => (Sum.inl i, .bl true)) := fun ns => by
    induction ns with
    | nil => rfl
    | cons i ns ih => rw [List.map_cons, List.map_cons, RX.pairsOf, ih]; rfl
  have fd : FDictP [.arr (((upN many).map fun i => step * i % n).map fun i => .tup [.int i, .bl true])] h = .ok (.dk (dictI ((upN many).map fun i => step * i % n) (.bl true))) h := by
    unfold FDictP
    simp only [lstOf_arr, Option.bind_some, pk]
    rfl
  have sd := sorted_dict (d := .bl true) (h := h) (made_in (step := step) (many := many) R1) (by omega : n < 64)
  simp only [startS_eq, List.map_cons, List.map_nil, List.length_cons, List.length_nil, List.replicate, List.cons_append, List.nil_append, Nat.reduceAdd, Nat.reduceSub, Nat.zero_add, Nat.sub_self]
  simp only [M__law_made, mSeq_ap, mCB_ap, aCons_ap, aNil_ap, mVar_zero, mVar_succ, isX_int, bind_ok, thn_ok, sRet_ap, mLc_ap, iRange1_ap, range_ok hm, List.length_map, upN_length, z1, if_true, c1, noX_ok, fd, sd, FTuple_arr]
  rfl
/-! ### turned -/
def turnL (n : Nat) (ss : List Int) (by_ : Int) : List Int := sortI (ss.map fun x => (x + by_) % n)
theorem turn_nodup {n : Nat} {ss : List Int} {b : Int} (s : Spots n ss) : (ss.map fun x => (x + b) % n).Nodup := by
  unfold List.Nodup
  rw [List.pairwise_map]
  refine s.1.imp_of_mem fun {x y} hx hy hxy e => ?_
  have := s.2 x hx
  have := s.2 y hy
  have h1 : ((y + b) - (x + b)) % (n : Int) = 0 := by rw [Int.sub_emod, e, Int.sub_self]; exact Int.zero_emod _
  have h2 : (y + b) - (x + b) = y - x := by omega
  rw [h2, Int.emod_eq_of_lt (by omega) (by omega)] at h1
  omega
theorem turn_in {n : Nat} {ss : List Int} {b : Int} (hn : 1 ≤ n) : ∀ x ∈ ss.map (fun x => (x + b) % n), 0 ≤ x ∧ x < (n : Int) := fun x hx => by
  obtain ⟨i, _, rfl⟩ := List.mem_map.mp hx
  exact ⟨Int.emod_nonneg _ (by omega), Int.emod_lt_of_pos _ (by omega)⟩
theorem turn_spots {n : Nat} {ss : List Int} {b : Int} (hn : 1 ≤ n) (s : Spots n ss) : Spots n (turnL n ss b) := ⟨sortI_lt (turn_nodup s), fun x hx => turn_in hn x (sortI_mem.mp hx)⟩
theorem turn_length {n : Nat} {ss : List Int} {b : Int} : (turnL n ss b).length = ss.length := by unfold turnL; rw [sortI_length, List.length_map]
theorem turned_ok {n : Nat} {ss : List Int} {b : Int} {h : Hd} (R : Ring n) (s : Spots n ss) (h0 : -1000 ≤ b) (h1 : b ≤ 1000) : F_turned [.int n, ti ss, .int b] h = .ok (ti (turnL n ss b)) h := by
  refine fnF_rt rfl ?_ rfl
  have R1 := R.1
  have r1 : decide (-1000 ≤ b) = true := by simp; omega
  have r2 : decide (b ≤ 1000) = true := by simp; omega
  have z1 : ss.length ≤ sizeLine := Nat.le_trans s.len (szR R.2)
  have c1 : compL [3] (.nm 3) none (mOp fMod (mOp fAdd (mVar 3) (mVar 2)) (mVar 0)) (ss.map D.int) [] [some (.int n), some (ti ss), some (.int b), none] h = .ok ((ss.map fun x => (x + b) % n).map D.int) h := by
    rw [compL_map (fun d => match d with | .int x => .int ((x + b) % n) | d => d)]
    · rw [List.nil_append, List.map_map, List.map_map]; rfl
    · intro d hd
      obtain ⟨i, hi, rfl⟩ := List.mem_map.mp hd
      exact ⟨_, bindT_nm, by simp [fMod_int (show (0 : Int) < n by omega)]⟩
  simp only [startS_eq, List.map_cons, List.map_nil, List.length_cons, List.length_nil, List.replicate, List.cons_append, List.nil_append, Nat.reduceAdd, Nat.reduceSub, Nat.zero_add, Nat.sub_self]
  simp only [M_turned, mSeq_ap, sIf_ap, sExpr_ap, mNot_ap, mUn_ap, mCB_ap, aCons_ap, aNil_ap, mC_ap, fNeg_int, mVar_zero, mVar_succ, isX_int, isX_tup, bind_ok, check_ok R s, winI, r1, r2, Bool.and_self, Bool.not_true, thn_ok, mSkip_ap, sRet_ap, mLc_ap, iSeq_ap, List.length_map, z1, if_true, c1, noX_ok, FSorted2_li, FTuple_arr]
  rfl
end L53

set_option Elab.async false
set_option linter.all false
set_option maxRecDepth 100000
set_option maxHeartbeats 4000000
namespace L53
open PySem PySem.Spec PyProof.Rows L2 RX
/-! ### the steps -/
theorem made_length {n : Nat} {step : Int} {many : Nat} : (madeL n step many).length ≤ n := made_spots.len
def hits (n : Nat) (ss : List Int) (step : Int) : Bool := (upN n).any fun b => decide (turnL n (madeL n step ss.length) b = ss)
def stepsL (n : Nat) (ss : List Int) : List Int := (upN n).filter (hits n ss)
theorem steps_ok {n : Nat} {ss : List Int} {h : Hd} (R : Ring n) (s : Spots n ss) : F_steps_that_make [.int n, ti ss] h = .ok (li (stepsL n ss)) h := by
  have R1 := R.1
  have R2 := R.2
  have sl := s.len
  have z0 : 0 ≤ sizeLine := Nat.zero_le _
  have z1 : n ≤ sizeLine := szR R2
  let p : D → Bool := fun d => match d with
    | .int i => hits n ss i
    | _ => false
  have lp : forL [3, 4] (.nm 3) (mSeq (sAsg (.nm 4) (mCB F_made_by (aCons (mVar 0) (aCons (mVar 3) (aCons (mCB FLen (aCons (mVar 1) (aNil))) (aNil)))))) (sIf (mCB FAny (aCons (mLc [5] (.nm 5) (iRange1 (aCons (mVar 0) (aNil))) none (mOp fEq (mCB F_turned (aCons (mVar 0) (aCons (mVar 4) (aCons (mVar 5) (aNil))))) (mVar 1))) (aNil))) (sExpr (mMeth FAppend (mVar 2) (aCons (mVar 3) (aNil)))) (mSkip))) ((upN n).map D.int) [some (.int n), some (ti ss), some (.ref h.length), none, none, none] (h ++ [.lst []]) = .nx [some (.int n), some (ti ss), some (.ref h.length), none, none, none] (h ++ [.lst ([] ++ ((upN n).map D.int).filter p)]) := by
    refine forL_filter p _ _ (by simp [upN_length]; exact z1) fun d hd acc hacc => ?_
    obtain ⟨step, hstep, rfl⟩ := List.mem_map.mp hd
    obtain ⟨h0, h1⟩ := mem_upN.mp hstep
    let H := h ++ [MO.lst acc]
    let mk := madeL n step ss.length
    have c1 : compL [5] (.nm 5) none (mOp fEq (mCB F_turned (aCons (mVar 0) (aCons (mVar 4) (aCons (mVar 5) (aNil))))) (mVar 1)) ((upN n).map D.int) [] [some (.int n), some (ti ss), some (.ref h.length), some (.int step), some (ti mk), none] H = .ok (((upN n).map fun b => decide (turnL n mk b = ss)).map D.bl) H := by
      rw [compL_map (fun d => match d with | .int b => .bl (decide (turnL n mk b = ss)) | d => d)]
      · rw [List.nil_append, List.map_map, List.map_map]; rfl
      · intro d hd
        obtain ⟨b, hb, rfl⟩ := List.mem_map.mp hd
        obtain ⟨b0, b1⟩ := mem_upN.mp hb
        refine ⟨_, bindT_nm, ?_⟩
        have e := turned_ok (h := H) (b := b) R (made_spots (step := step) (many := ss.length)) (by omega) (by omega)
        simp [e, mk]
    have a1 : FAny [.arr (((upN n).map fun b => decide (turnL n mk b = ss)).map D.bl)] H = .ok (.bl (hits n ss step)) H := by
      rw [FAny_bl, List.any_map]; rfl
    have m1 : F_made_by [.int n, .int step, .int ss.length] H = .ok (ti mk) H := made_by_ok R h0 (by omega) sl
    refine ⟨[some (.int n), some (ti ss), some (.ref h.length), some (.int step), none, none], [some (.int n), some (ti ss), some (.ref h.length), some (.int step), some (ti mk), none], rfl, ?_, rfl⟩
    show (mSeq _ _) _ H = _
    have ap : FAppend (.ref h.length) [.int step] H = .ok .non (h ++ [.lst (acc ++ [.int step])]) := FAppend_end hacc
    have al : lstOf H (.ref h.length) = some acc := lstOf_end
    have rg : iRg1 [.int n] H = .ok ((upN n).map D.int) H := range_ok (by omega)
    have ln : FLen [ti ss] H = .ok (.int ss.length) H := by rw [FLen_tup, List.length_map]
    have ep : p (.int step) = hits n ss step := rfl
    simp only [mSeq_ap, sAsg_nm, mCB_ap, aCons_ap, aNil_ap, mVar_zero, mVar_succ, isX_int, isX_tup, isX_ref, bind_ok, ln, m1, thn_ok, List.set_cons_succ, List.set_cons_zero, sIf_ap, mLc_ap, iRange1_ap, rg, List.length_map, upN_length, z1, if_true, c1, noX_ok, a1]
    by_cases e : hits n ss step = true
    · rw [ep, e]
      simp only [sExpr_ap, mMeth_ap, mVar_zero, mVar_succ, isX_ref, isX_int, bind_ok, al, aCons_ap, aNil_ap, ap, thn_ok, if_true]
    · rw [Bool.not_eq_true] at e
      rw [ep, e]
      rfl
  rw [List.nil_append, filter_int] at lp
  have fz : frz 2 [some (.int n), some (ti ss), some (.ref h.length), none, none, none] (h ++ [.lst ((stepsL n ss).map D.int)]) = .nx [some (.int n), some (ti ss), some (li (stepsL n ss)), none, none, none] (h ++ [.dead]) := frz_end rfl
  refine fnF_cut (more := [.dead]) rfl ?_ clean_li
  have ck := check_ok (h := h) R s
  have rg : ∀ h : Hd, iRg1 [.int n] h = .ok ((upN n).map D.int) h := fun h => range_ok (by omega)
  show M_steps_that_make [some (.int n), some (ti ss), none, none, none, none] h = _
  have lp' : forL [3, 4] (.nm 3) (mSeq (sAsg (.nm 4) (mCB F_made_by (aCons (mVar 0) (aCons (mVar 3) (aCons (mCB FLen (aCons (mVar 1) (aNil))) (aNil)))))) (sIf (mCB FAny (aCons (mLc [5] (.nm 5) (iRange1 (aCons (mVar 0) (aNil))) none (mOp fEq (mCB F_turned (aCons (mVar 0) (aCons (mVar 4) (aCons (mVar 5) (aNil))))) (mVar 1))) (aNil))) (sExpr (mMeth FAppend (mVar 2) (aCons (mVar 3) (aNil)))) (mSkip))) ((upN n).map D.int) (kill [some (.int n), some (ti ss), some (.ref h.length), none, none, none] [3, 4]) (h ++ [.lst []]) = .nx [some (.int n), some (ti ss), some (.ref h.length), none, none, none] (h ++ [.lst ((stepsL n ss).map D.int)]) := lp
  simp only [M_steps_that_make, mSeq_ap, sExpr_ap, mCB_ap, aCons_ap, aNil_ap, mVar_zero, mVar_succ, isX_int, isX_tup, bind_ok, ck, thn_ok, sAsg_nm, mLstM_ap, List.length_nil, z0, if_true, List.set_cons_succ, List.set_cons_zero, mFrz_ap, sFor_ap, iRange1_ap, rg, lp', fz, sRet_ap, isX_arr]
theorem hits_eq {n : Nat} {ss : List Int} {step : Int} : hits n ss step = (decide ((madeL n step ss.length).length = ss.length) && hits n ss step) := by
  cases e : hits n ss step with
  | false => simp
  | true =>
    unfold hits at e
    rw [List.any_eq_true] at e
    obtain ⟨b, _, hb⟩ := e
    have hb := of_decide_eq_true hb
    have : (madeL n step ss.length).length = ss.length := by
      have := turn_length (n := n) (ss := madeL n step ss.length) (b := b)
      rw [hb] at this
      exact this.symm
    simp [this]
theorem hits0 {n : Nat} {ss : List Int} (h2 : 1 < ss.length) : hits n ss 0 = false := by
  rw [hits_eq]
  have h1 : (madeL n 0 ss.length).length ≤ 1 := by
    have : ∀ x ∈ madeL n 0 ss.length, 0 ≤ x ∧ x < ((1 : Nat) : Int) := fun x hx => by
      have := (mem_setI.mp hx).2
      simp only [decide_eq_true_eq] at this
      obtain ⟨i, _, e⟩ := List.mem_map.mp this
      simp at e
      omega
    exact lt_length (made_spots).1 this
  have : decide ((madeL n 0 ss.length).length = ss.length) = false := by simp; omega
  rw [this]; rfl
theorem law_steps_ok {n : Nat} {ss : List Int} {h : Hd} (R : Ring n) (s : Spots n ss) (h2 : 1 < ss.length) : F__law_steps [.int n, ti ss] h = .ok (li (stepsL n ss)) h := by
  have R1 := R.1
  have R2 := R.2
  have sl := s.len
  have z0 : 0 ≤ sizeLine := Nat.zero_le _
  have z1 : n ≤ sizeLine := szR R2
  let p : D → Bool := fun d => match d with
    | .int i => hits n ss i
    | _ => false
  let bd : MS := (mSeq (sAsg (.nm 4) (mCB F__law_made (aCons (mVar 0) (aCons (mVar 3) (aCons (mCB FLen (aCons (mVar 1) (aNil))) (aNil)))))) (mSeq (sAsg (.nm 5) (mLc [6] (.nm 6) (iRange1 (aCons (mVar 0) (aNil))) none (mCB FTuple (aCons (mCB FSorted2 (aCons (mLc [7] (.nm 7) (iSeq (mVar 4)) none (mOp fMod (mCB FInt (aCons (mOp fAdd (mVar 7) (mVar 6)) (aNil))) (mVar 0))) (aNil))) (aNil))))) (sIf (mAnd (mOp fEq (mCB FLen (aCons (mVar 4) (aNil))) (mCB FLen (aCons (mVar 1) (aNil)))) (mOp (fIn false) (mVar 1) (mVar 5))) (sExpr (mMeth FAppend (mVar 2) (aCons (mVar 3) (aNil)))) (mSkip))))
  have lp : forL [3, 4, 5] (.nm 3) bd (rgD 1 (n - 1)) [some (.int n), some (ti ss), some (.ref h.length), none, none, none, none, none] (h ++ [.lst []]) = .nx [some (.int n), some (ti ss), some (.ref h.length), none, none, none, none, none] (h ++ [.lst ([] ++ (rgD 1 (n - 1)).filter p)]) := by
    refine forL_filter p _ _ (by simp [rgD_length]; omega) fun d hd acc hacc => ?_
    rw [rgD_one, List.map_map] at hd
    obtain ⟨st, hstep, rfl⟩ := List.mem_map.mp hd
    obtain ⟨h0, h1⟩ := mem_upN.mp hstep
    let step := 1 + st
    let H := h ++ [MO.lst acc]
    let mk := madeL n step ss.length
    have ml : mk.length ≤ n := made_length
    have c2 : ∀ b : Int, compL [7] (.nm 7) none (mOp fMod (mCB FInt (aCons (mOp fAdd (mVar 7) (mVar 6)) (aNil))) (mVar 0)) (mk.map D.int) [] [some (.int n), some (ti ss), some (.ref h.length), some (.int step), some (ti mk), none, some (.int b), none] H = .ok ((mk.map fun x => (x + b) % n).map D.int) H := fun b => by
      rw [compL_map (fun d => match d with | .int x => .int ((x + b) % n) | d => d)]
      · rw [List.nil_append, List.map_map, List.map_map]; rfl
      · intro d hd
        obtain ⟨i, hi, rfl⟩ := List.mem_map.mp hd
        exact ⟨_, bindT_nm, by simp [fMod_int (show (0 : Int) < n by omega)]⟩
    have zm : mk.length ≤ sizeLine := by omega
    have c1 : compL [6] (.nm 6) none (mCB FTuple (aCons (mCB FSorted2 (aCons (mLc [7] (.nm 7) (iSeq (mVar 4)) none (mOp fMod (mCB FInt (aCons (mOp fAdd (mVar 7) (mVar 6)) (aNil))) (mVar 0))) (aNil))) (aNil))) ((upN n).map D.int) [] [some (.int n), some (ti ss), some (.ref h.length), some (.int step), some (ti mk), none, none, none] H = .ok (((upN n).map fun b => turnL n mk b).map ti) H := by
      rw [compL_map (fun d => match d with | .int b => ti (turnL n mk b) | d => d)]
      · rw [List.nil_append, List.map_map, List.map_map]; rfl
      · intro d hd
        obtain ⟨b, hb, rfl⟩ := List.mem_map.mp hd
        refine ⟨_, bindT_nm, ?_⟩
        simp only [mCB_ap, aCons_ap, aNil_ap, mLc_ap, iSeq_ap, mVar_zero, mVar_succ, isX_tup, bind_ok, List.length_map, zm, if_true, kill_cons, kill_nil, List.set_cons_succ, List.set_cons_zero, c2 b, noX_ok, FSorted2_li, FTuple_arr]
        rfl
    have m1 : F__law_made [.int n, .int step, .int ss.length] H = .ok (ti mk) H := law_made_ok R (by omega) (by omega) (by omega)
    refine ⟨[some (.int n), some (ti ss), some (.ref h.length), some (.int step), none, none, none, none], [some (.int n), some (ti ss), some (.ref h.length), some (.int step), some (ti mk), some (.arr (((upN n).map fun b => turnL n mk b).map ti)), none, none], rfl, ?_, rfl⟩
    show (mSeq _ _) _ H = _
    have ap : FAppend (.ref h.length) [.int step] H = .ok .non (h ++ [.lst (acc ++ [.int step])]) := FAppend_end hacc
    have al : lstOf H (.ref h.length) = some acc := lstOf_end
    have rg : iRg1 [.int n] H = .ok ((upN n).map D.int) H := range_ok (by omega)
    have ln : FLen [ti ss] H = .ok (.int ss.length) H := by rw [FLen_tup, List.length_map]
    have lm : FLen [ti mk] H = .ok (.int mk.length) H := by rw [FLen_tup, List.length_map]
    have ep : p ((D.int ∘ fun x => 1 + x) st) = (decide ((mk.length : Int) = ss.length) && hits n ss step) := by
      have : decide ((mk.length : Int) = ss.length) = decide (mk.length = ss.length) := by apply Bool.eq_iff_iff.mpr; simp only [decide_eq_true_eq]; omega
      rw [this]; exact hits_eq
    have fi : fIn false (ti ss) (.arr (((upN n).map fun b => turnL n mk b).map ti)) H = .ok (.bl (hits n ss step)) H := by
      rw [fIn_ti, List.any_map]; rfl
    simp only [mSeq_ap, sAsg_nm, mCB_ap, aCons_ap, aNil_ap, mVar_zero, mVar_succ, isX_int, isX_tup, isX_ref, isX_arr, bind_ok, ln, lm, m1, thn_ok, List.set_cons_succ, List.set_cons_zero, sIf_ap, mLc_ap, iRange1_ap, rg, List.length_map, upN_length, z1, if_true, c1, noX_ok, mAnd_ap, mOp_ap, fEq_int]
    rw [ep]
    by_cases e1 : (mk.length : Int) = ss.length
    · by_cases e : hits n ss step = true
      · rw [e] at fi ⊢
        simp only [e1, decide_true, fi, thn_ok, sExpr_ap, mMeth_ap, mVar_zero, mVar_succ, isX_ref, isX_int, isX_tup, isX_arr, bind_ok, al, aCons_ap, aNil_ap, ap, Bool.and_self, if_true]
        rfl
      · rw [Bool.not_eq_true] at e
        rw [e] at fi ⊢
        simp only [e1, decide_true, fi, thn_ok, mVar_zero, mVar_succ, isX_tup, isX_arr, bind_ok, mSkip_ap, Bool.and_false, H]
        rfl
    · simp only [e1, decide_false, thn_ok, mSkip_ap, Bool.false_and, H]
      rfl
  rw [List.nil_append, rgD_one, filter_int] at lp
  have es : ((upN (n - 1)).map (1 + ·)).filter (fun i => p (.int i)) = stepsL n ss := by
    unfold stepsL
    have : upN n = 0 :: (upN (n - 1)).map (1 + ·) := by rw [← upN_succ]; congr 1; omega
    rw [this, List.filter_cons, hits0 h2]
    rfl
  rw [es] at lp
  have fz : frz 2 [some (.int n), some (ti ss), some (.ref h.length), none, none, none, none, none] (h ++ [.lst ((stepsL n ss).map D.int)]) = .nx [some (.int n), some (ti ss), some (li (stepsL n ss)), none, none, none, none, none] (h ++ [.dead]) := frz_end rfl
  refine fnF_cut (more := [.dead]) rfl ?_ clean_li
  have rg : ∀ h : Hd, iRg2 [.int 1, .int n] h = .ok (((upN (n - 1)).map (1 + ·)).map D.int) h := fun h => by
    unfold iRg2
    simp only
    rw [if_pos (by simp; omega), ← rgD_one]
    congr 2
    omega
  show M__law_steps [some (.int n), some (ti ss), none, none, none, none, none, none] h = _
  have lp' : forL [3, 4, 5] (.nm 3) bd (((upN (n - 1)).map (1 + ·)).map D.int) (kill [some (.int n), some (ti ss), some (.ref h.length), none, none, none, none, none] [3, 4, 5]) (h ++ [.lst []]) = .nx [some (.int n), some (ti ss), some (.ref h.length), none, none, none, none, none] (h ++ [.lst ((stepsL n ss).map D.int)]) := lp
  simp only [bd] at lp'
  simp only [M__law_steps, mSeq_ap, mCB_ap, aCons_ap, aNil_ap, mC_ap, mVar_zero, mVar_succ, isX_int, isX_tup, bind_ok, thn_ok, sAsg_nm, mLstM_ap, List.length_nil, z0, if_true, List.set_cons_succ, List.set_cons_zero, mFrz_ap, sFor_ap, iRange2_ap, rg, lp', fz, sRet_ap, isX_arr]
end L53

set_option Elab.async false
set_option linter.all false
set_option maxRecDepth 100000
set_option maxHeartbeats 4000000
namespace L53
open PySem PySem.Spec PyProof.Rows L2 RX
/-! ### even spots, two rings -/
theorem fDiv_small {i j : Int} {h : Hd} (h0 : 0 < j) (h1 : j ≤ 1000) : fDiv (.int i) (.int j) h = .ok (.int (i / j)) h := fDiv_int h0 (Int.lt_of_le_of_lt h1 (by decide))
def evenL (n m : Nat) : List Int := (upN m).map fun i => ((n : Int) * i + 0) / m
theorem even_ok {n m : Nat} {h : Hd} (R : Ring n) (m0 : 1 ≤ m) (m1 : m ≤ n) : F_even_spots [.int n, .int m, .int 0] h = .ok (ti (evenL n m)) h := by
  refine fnF_rt rfl ?_ rfl
  have R1 := R.1
  have R2 := R.2
  have r1 : decide ((1 : Int) ≤ n) = true := by simp; omega
  have r2 : decide ((n : Int) ≤ 24) = true := by simp; omega
  have r3 : decide ((1 : Int) ≤ m) = true := by simp; omega
  have r4 : decide ((m : Int) ≤ n) = true := by simp; omega
  have r5 : decide ((0 : Int) ≤ 0) = true := by simp
  have r6 : decide ((0 : Int) ≤ m - 1) = true := by simp; omega
  have z1 : m ≤ sizeLine := sz_small (by omega)
  have dv : ∀ i : Int, fDiv (.int i) (.int m) h = .ok (.int (i / m)) h := fun i => fDiv_small (by omega) (by omega)
  have ml : ∀ i : Int, fMul (.int n) (.int i) h = .ok (.int (n * i)) h := fun i => small_mul (by omega) (by omega)
  have c1 : compL [3] (.nm 3) none (mOp fDiv (mOp fAdd (mOp fMul (mVar 0) (mVar 3)) (mVar 2)) (mVar 1)) ((upN m).map D.int) [] [some (.int n), some (.int m), some (.int 0), none] h = .ok ((evenL n m).map D.int) h := by
    rw [compL_map (fun d => match d with | .int i => .int (((n : Int) * i + 0) / m) | d => d)]
    · rw [List.nil_append, List.map_map, evenL, List.map_map]; rfl
    · intro d hd
      obtain ⟨i, hi, rfl⟩ := List.mem_map.mp hd
      refine ⟨_, bindT_nm, ?_⟩
      simp only [mOp_ap, mVar_zero, mVar_succ, isX_int, bind_ok, List.set_cons_succ, List.set_cons_zero, kill_cons, kill_nil, ml, fAdd_int, dv]
  show M_even_spots [some (.int n), some (.int m), some (.int 0), none] h = _
  simp only [M_even_spots, mSeq_ap, sIf_ap, mOr_ap, mNot_ap, mCB_ap, aCons_ap, aNil_ap, mC_ap, mOp_ap, mVar_zero, mVar_succ, isX_int, bind_ok, winI, fSub_int, r1, r2, r3, r4, r5, r6, Bool.and_self, Bool.not_true, thn_ok, mSkip_ap, sRet_ap, mLc_ap, iRange1_ap, range_ok (show m ≤ 1000 by omega), List.length_map, upN_length, z1, if_true, c1, noX_ok, FTuple_arr]
def twoL (s n f : Nat) : List Int := (evenL s f).map fun j => ((n : Int) * j + 0) / s
theorem even_in {n m : Nat} (m0 : 1 ≤ m) : ∀ x ∈ evenL n m, 0 ≤ x ∧ (1 ≤ n → x < n) := fun x hx => by
  obtain ⟨i, hi, rfl⟩ := List.mem_map.mp hx
  obtain ⟨i0, i1⟩ := mem_upN.mp hi
  have : 0 ≤ (n : Int) * i := Int.mul_nonneg (by omega) i0
  refine ⟨Int.ediv_nonneg (by omega) (by omega), fun n1 => ?_⟩
  refine Int.ediv_lt_of_lt_mul (by omega) ?_
  have := Int.mul_lt_mul_of_pos_left i1 (show (0 : Int) < n by omega)
  omega
theorem even_mono {n m : Nat} : (evenL n m).Pairwise (· ≤ ·) := by
  unfold evenL
  rw [List.pairwise_map]
  refine (upN_lt m).imp fun {a b} hab => ?_
  by_cases z : m = 0
  · subst z; simp
  · refine Int.ediv_le_ediv (by omega) ?_
    have := Int.mul_le_mul_of_nonneg_left (show a ≤ b by omega) (show (0 : Int) ≤ n by omega)
    omega
theorem two_mono {s n f : Nat} : (twoL s n f).Pairwise (· ≤ ·) := by
  unfold twoL
  rw [List.pairwise_map]
  refine even_mono.imp fun {a b} hab => ?_
  by_cases z : s = 0
  · subst z; simp
  · refine Int.ediv_le_ediv (by omega) ?_
    have := Int.mul_le_mul_of_nonneg_left hab (show (0 : Int) ≤ n by omega)
    omega
theorem even_length {n m : Nat} : (evenL n m).length = m := by unfold evenL; rw [List.length_map, upN_length]
/-- outer[at] for at in inner -/
theorem two_comp {s n f i j : Nat} {h : Hd} {sl : Sl} (s0 : 1 ≤ s) (f0 : 1 ≤ f) (hb : ∀ x : Int, mVar i (sl.set j (some (.int x))) h = .ok (ti (evenL n s)) h) (hj : j < sl.length) (hk : sl.set j none = sl) : compL [j] (.nm j) none (mOp fIx (mVar i) (mVar j)) ((evenL s f).map D.int) [] sl h = .ok ((twoL s n f).map D.int) h := by
  rw [compL_map (fun d => match d with | .int x => .int (((n : Int) * x + 0) / s) | d => d)]
  · rw [List.nil_append, List.map_map, twoL, List.map_map]; rfl
  · intro d hd
    obtain ⟨x, hx, rfl⟩ := List.mem_map.mp hd
    obtain ⟨x0, x1⟩ := even_in f0 x hx
    refine ⟨_, bindT_nm, ?_⟩
    rw [kill_cons, kill_nil, hk]
    have e1 : mVar j (sl.set j (some (.int x))) h = .ok (.int x) h := mVar_at (List.getElem?_set_self hj) rfl
    rw [mOp_ap, hb, bind_ok, e1, bind_ok]
    exact fIx_upN x0 (x1 s0)
theorem two_ok {s n f : Nat} {h : Hd} (R : Ring n) (s0 : 1 ≤ s) (s1 : s ≤ n) (f0 : 1 ≤ f) (f1 : f ≤ s) : F_two_rings [.int s, .int n, .int f] h = .ok (ti (twoL s n f)) h := by
  refine fnF_rt rfl ?_ rfl
  have R1 := R.1
  have R2 := R.2
  have r1 : decide ((1 : Int) ≤ n) = true := by simp; omega
  have r2 : decide ((n : Int) ≤ 24) = true := by simp; omega
  have r3 : decide ((1 : Int) ≤ s) = true := by simp; omega
  have r4 : decide ((s : Int) ≤ n) = true := by simp; omega
  have r5 : decide ((1 : Int) ≤ f) = true := by simp; omega
  have r6 : decide ((f : Int) ≤ s) = true := by simp; omega
  have z1 : f ≤ sizeLine := sz_small (by omega)
  have e1 := even_ok (h := h) R s0 s1
  have e2 := even_ok (h := h) (n := s) (m := f) ⟨s0, by omega⟩ f0 f1
  have c1 := two_comp (n := n) (i := 3) (j := 4) (h := h) (sl := [some (.int s), some (.int n), some (.int f), some (ti (evenL n s)), none]) s0 f0 (fun x => rfl) (by simp) rfl
  have sr : FSorted2 [.arr ((twoL s n f).map D.int)] h = .ok (li (twoL s n f)) h := by
    rw [FSorted2_li, sort_same two_mono]
  show M_two_rings [some (.int s), some (.int n), some (.int f), none, none] h = _
  simp only [M_two_rings, mSeq_ap, sIf_ap, mOr_ap, mNot_ap, mCB_ap, aCons_ap, aNil_ap, mC_ap, mVar_zero, mVar_succ, isX_int, isX_tup, bind_ok, winI, r1, r2, r3, r4, r5, r6, Bool.and_self, Bool.not_true, thn_ok, mSkip_ap, sAsg_nm, e1, e2, List.set_cons_succ, List.set_cons_zero, sRet_ap, mLc_ap, iSeq_ap, List.length_map, even_length, z1, if_true, c1, noX_ok, sr, FTuple_arr]
/-! ### spots drawn -/
theorem all2_eq : ∀ {xs ys : List D}, All2 (fun d x => x = d) xs ys → ys = xs
  | _, _, .nil => rfl
  | _, _, .cons e r => by rw [e, all2_eq r]
theorem spots_ok {n : Nat} {h : Hd} (R : Ring n) (T : Tp h) : ∃ ss h', F__law_spots [.ref 0, .int n] h = .ok (ti ss) h' ∧ Tp h' ∧ Spots n ss := by
  obtain ⟨d, h1, e1, m1, T1⟩ := any_ok (xs := [.int 2, .int 2, .int 3]) T (by simp) (by simp)
  have R2 := R.2
  have hd : ∃ o : Int, d = .int o ∧ 1 ≤ o ∧ o < 2 ^ 64 := by
    simp at m1
    rcases m1 with rfl | rfl
    · exact ⟨2, rfl, by decide, by decide⟩
    · exact ⟨3, rfl, by decide, by decide⟩
  obtain ⟨o, rfl, o1, o2⟩ := hd
  obtain ⟨es, xs, h', e2, T2, sl, al⟩ := compL_inv (vs := [3]) (t := .nm 3) (test := some (mOp fEq (mCB F__law_pick (aCons (mVar 0) (aCons (mVar 2) (aNil)))) (mC (.int 0)))) (elt := mVar 3) (s := [some (.ref 0), some (.int n), some (.int o), none]) Tp (fun d x => x = d) ((upN n).map D.int) [] h1 T1 (by
    intro d hd h Th
    obtain ⟨i, hi, rfl⟩ := List.mem_map.mp hd
    obtain ⟨k, h2, e3, k0, k1, T3⟩ := pick_ok (m := o) Th o1 o2
    refine ⟨_, decide (k = 0), h2, bindT_nm, ?_, fun _ => T3, fun _ => ⟨.int i, h2, rfl, T3, rfl⟩⟩
    simp only [testR]
    simp [e_pick, e3])
  obtain rfl := all2_eq al
  obtain ⟨ss, sl', rfl⟩ := List.sublist_map_iff.mp sl
  have z1 : n ≤ sizeLine := szR R2
  have z3 : 3 ≤ sizeLine := sz_small (by omega)
  rw [List.nil_append] at e2
  refine ⟨ss, h', fnF_rt rfl ?_ (by rw [T2.len, T.len]), T2, (upN_lt n).sublist sl', fun x hx => mem_upN.mp (sl'.subset hx)⟩
  show M__law_spots [some (.ref 0), some (.int n), none, none] h = _
  simp only [M__law_spots, e_any, mSeq_ap, mCB_ap, aCons_ap, aNil_ap, mC_ap, mVar_zero, mVar_succ, isX_int, isX_ref, bind_ok, mLst_ap, List.length_cons, List.length_nil, Nat.zero_add, Nat.reduceAdd, z3, if_true, e1, thn_ok, sAsg_nm, List.set_cons_succ, List.set_cons_zero, sRet_ap, mLc_ap, iRange1_ap, range_ok (show n ≤ 1000 by omega), List.length_map, upN_length, z1, e2, noX_ok, FTuple_arr]
end L53

set_option Elab.async false
set_option linter.all false
set_option maxRecDepth 100000
set_option maxHeartbeats 4000000
namespace L53
open PySem PySem.Spec PyProof.Rows L2 RX
/-! ### the menus -/
theorem no_ring_ok {h : Hd} (T : Tp h) : ∃ d h', F__law_no_ring [.ref 0] h = .ok d h' ∧ Tp h' ∧ (∀ h, hasHd h d) ∧ wI d 1 24 = false := by
  obtain ⟨d, h1, e1, m1, T1⟩ := any_ok (xs := [.int 0, .int 25, .int (-1), .non, .bl true, .str "2", .tup [.int 2], .arr [.int 2], .dk []]) T (by simp) (by simp)
  have z9 : 9 ≤ sizeLine := sz_small (by omega)
  have z1 : 1 ≤ sizeLine := sz_small (by omega)
  refine ⟨d, h1, fnF_rt rfl ?_ (by rw [T1.len, T.len]), T1, ?_⟩
  · show M__law_no_ring [some (.ref 0)] h = _
    simp only [M__law_no_ring, e_any, sRet_ap, mCB_ap, aCons_ap, aNil_ap, mC_ap, mUn_ap, fNeg_int, mVar_zero, isX_ref, bind_ok, mLst_ap, mTup_ap, mDict0_ap, List.length_cons, List.length_nil, Nat.zero_add, Nat.reduceAdd, z9, z1, if_true, e1, thn_ok]
  · simp only [List.mem_cons, List.not_mem_nil, or_false] at m1
    rcases m1 with rfl | rfl | rfl | rfl | rfl | rfl | rfl | rfl | rfl <;> exact ⟨fun h => ⟨rfl, rfl⟩, rfl⟩
theorem fAdd_arr {xs ys : List D} {h : Hd} (hl : xs.length + ys.length ≤ sizeLine) : fAdd (.arr xs) (.arr ys) h = .ok (.arr (xs ++ ys)) h := by
  show (if xs.length + ys.length ≤ sizeLine then Res.ok (D.arr (xs ++ ys)) h else .stuck) = _
  rw [if_pos hl]
theorem Deep.notI {d : D} {k : Nat} (p : Deep d k) : ∀ a b, wI d a b = false := by cases p <;> (intros; rfl)
theorem deep_spots {n k : Nat} {d : D} {h : Hd} (R : Ring n) (p : Deep d k) (hk : 1 ≤ k) : F_is_spots [.int n, d] h = .ok (.bl false) h := by
  cases p with
  | non => omega
  | q => omega
  | dk => omega
  | tup p =>
    refine is_spots_out R (fun x hx => ?_) ?_
    · have : x = _ := List.mem_singleton.mp hx
      subst this; exact p.hd
    · simp [Deep.notI p]
  | arr p => exact is_spots_no R (hasHd_arr) rfl
theorem no_spots_ok {n : Nat} {h : Hd} (R : Ring n) (h2 : 2 ≤ n) (T : Tp h) : ∃ d h', F__law_no_spots [.ref 0, .int n] h = .ok d h' ∧ Tp h' ∧ d.isX = false ∧ ∀ h, F_is_spots [.int n, d] h = .ok (.bl false) h := by
  obtain ⟨d0, h0, k, e0, p0, k1, k2, T0⟩ := deep_ok T
  obtain ⟨d, h1, e1, m1, T1⟩ := any_ok (xs := [.non, .arr [.int 0], .tup [.int n], .tup [.int 0, .int 0], .tup [.int (-1)], .tup [.bl true], .tup [.str "0"], .int 0, .dk [], .tup [.non], .str "spots", .tup [.tup [.int 0]], .tup [.int 0, .int n]] ++ [d0]) T0 (by simp) (by simp)
  have z14 : 14 ≤ sizeLine := sz_small (by omega)
  have z13 : 13 ≤ sizeLine := sz_small (by omega)
  have z2 : 2 ≤ sizeLine := sz_small (by omega)
  have z1 : 1 ≤ sizeLine := sz_small (by omega)
  refine ⟨d, h1, fnF_rt rfl ?_ (by rw [T1.len, T.len]), T1, ?_⟩
  · have ea : fAdd (.arr [.non, .arr [.int 0], .tup [.int n], .tup [.int 0, .int 0], .tup [.int (-1)], .tup [.bl true], .tup [.str "0"], .int 0, .dk [], .tup [.non], .str "spots", .tup [.tup [.int 0]], .tup [.int 0, .int n]]) (.arr [d0]) h0 = _ := fAdd_arr z14
    show M__law_no_spots [some (.ref 0), some (.int n), none] h = _
    simp only [M__law_no_spots, e_any, e_deep, mSeq_ap, sAsg_nm, sRet_ap, mCB_ap, aCons_ap, aNil_ap, mC_ap, mUn_ap, mOp_ap, fNeg_int, mVar_zero, mVar_succ, isX_ref, isX_int, isX_arr, bind_ok, mLst_ap, mTup_ap, mDict0_ap, List.length_cons, List.length_nil, Nat.zero_add, Nat.reduceAdd, z13, z1, z2, if_true, thn_ok, List.set_cons_succ, List.set_cons_zero, e0, ea, e1]
  · simp only [List.cons_append, List.nil_append, List.mem_cons, List.not_mem_nil, or_false] at m1
    have hn : wI (.int n) 0 (n - 1) = false := by simp [wI]; omega
    have out1 : ∀ x : D, (∀ h, hasHd h x) → wI x 0 (n - 1) = false → (D.tup [x]).isX = false ∧ ∀ h, F_is_spots [.int n, .tup [x]] h = .ok (.bl false) h := fun x hx w => ⟨rfl, fun h => is_spots_out R (fun y hy => by have : y = x := List.mem_singleton.mp hy; subst this; exact hx h) (by simp [w])⟩
    have no1 : ∀ x : D, (∀ h, hasHd h x) → tI x 0 n = false → x.isX = false ∧ ∀ h, F_is_spots [.int n, x] h = .ok (.bl false) h := fun x hx w => ⟨(hx []).2, fun h => is_spots_no R (hx h) w⟩
    rcases m1 with rfl | rfl | rfl | rfl | rfl | rfl | rfl | rfl | rfl | rfl | rfl | rfl | rfl | rfl
    · exact no1 _ (fun h => ⟨rfl, rfl⟩) rfl
    · exact no1 _ (fun h => ⟨rfl, rfl⟩) rfl
    · exact out1 _ (fun h => ⟨rfl, rfl⟩) hn
    · exact ⟨rfl, fun h => is_spots_00 R h2⟩
    · exact out1 _ (fun h => ⟨rfl, rfl⟩) rfl
    · exact out1 _ (fun h => ⟨rfl, rfl⟩) rfl
    · exact out1 _ (fun h => ⟨rfl, rfl⟩) rfl
    · exact no1 _ (fun h => ⟨rfl, rfl⟩) rfl
    · exact no1 _ (fun h => ⟨rfl, rfl⟩) rfl
    · exact out1 _ (fun h => ⟨rfl, rfl⟩) rfl
    · exact no1 _ (fun h => ⟨rfl, rfl⟩) rfl
    · exact out1 _ (fun h => ⟨rfl, rfl⟩) rfl
    · refine ⟨rfl, fun h => is_spots_out R (fun y hy => ?_) ?_⟩
      · simp at hy
        rcases hy with rfl | rfl <;> exact ⟨rfl, rfl⟩
      · simp [hn]
    · exact ⟨p0.isX, fun h => deep_spots R p0 (by omega)⟩
/-! ### words -/
theorem kit_1 : kit 1 (.cls 1) = some true ∧ kit 1 (.cls 2) = some false ∧ kit 1 (.ty "ValueError") = some true := ⟨by rfl, by rfl, by rfl⟩
theorem kit_2 : kit 2 (.cls 1) = some false ∧ kit 2 (.cls 2) = some true ∧ kit 2 (.ty "ValueError") = some true := ⟨by rfl, by rfl, by rfl⟩
theorem cat_1 : cat 1 = true := by rfl
theorem cat_2 : cat 2 = true := by rfl
theorem lstOf_arr' {h : Hd} {xs : List D} : lstOf h (.arr xs) = some xs := rfl
theorem word1 {s : Sl} {h : Hd} {m : ME} (e : m s h = .exc 1 h) : mLam 5 m B__law_word s h = .ok (.str "number") h := by
  refine mLam_exc e ?_
  have z2 : 2 ≤ sizeLine := sz_small (by omega)
  have ea : actM 0 1000 h (.exc 1 h) [some (.exc 1000), some (.str "let"), none, none, none] h = .exc 1 h := actM_at rfl
  have ec : FCount (.arr [.bl true, .bl false]) [.bl true] h = .ok (.int 1) h := by rfl
  have ei : FIndex (.arr [.bl true, .bl false]) [.bl true] h = .ok (.int 0) h := by rfl
  have ex : fIx (.arr [.str "number", .str "spots"]) (.int 0) h = .ok (.str "number") h := by rfl
  have er : B__law_word (actM 0 1000 h (.exc 1 h)) [some (.exc 1000), none, none, none, none] h = .rt (.str "number") h := by
    simp only [B__law_word, mSeq_ap, sAsg_nm, mC_ap, thn_ok, List.set_cons_succ, List.set_cons_zero, sTryC_ap, ea, cat_1, if_true, List.replicate, mLst_ap, aCons_ap, aNil_ap, mIsE_ap, List.getElem?_cons_succ, List.getElem?_cons_zero, bind_ok, kit_1.1, kit_1.2.1, kit_1.2.2, List.length_cons, List.length_nil, Nat.zero_add, Nat.reduceAdd, z2, mIf_ap, mAnd_ap, mOp_ap, mMeth_ap, mVar_zero, mVar_succ, isX_arr, isX_bl, lstOf_arr', ec, ei, ex, fEq_int, decide_true, unX, dropX, List.map_cons, List.map_nil]
    rfl
  show exitR h (B__law_word (actM 0 1000 h (.exc 1 h)) [some (.exc 1000), none, none, none, none] h) = _
  rw [er]
  exact exit_same rfl
theorem word2 {s : Sl} {h : Hd} {m : ME} (e : m s h = .exc 2 h) : mLam 5 m B__law_word s h = .ok (.str "spots") h := by
  refine mLam_exc e ?_
  have z2 : 2 ≤ sizeLine := sz_small (by omega)
  have ea : actM 0 1000 h (.exc 2 h) [some (.exc 1000), some (.str "let"), none, none, none] h = .exc 2 h := actM_at rfl
  have ec : FCount (.arr [.bl false, .bl true]) [.bl true] h = .ok (.int 1) h := by rfl
  have ei : FIndex (.arr [.bl false, .bl true]) [.bl true] h = .ok (.int 1) h := by rfl
  have ex : fIx (.arr [.str "number", .str "spots"]) (.int 1) h = .ok (.str "spots") h := by rfl
  have er : B__law_word (actM 0 1000 h (.exc 2 h)) [some (.exc 1000), none, none, none, none] h = .rt (.str "spots") h := by
    simp only [B__law_word, mSeq_ap, sAsg_nm, mC_ap, thn_ok, List.set_cons_succ, List.set_cons_zero, sTryC_ap, ea, cat_2, if_true, List.replicate, mLst_ap, aCons_ap, aNil_ap, mIsE_ap, List.getElem?_cons_succ, List.getElem?_cons_zero, bind_ok, kit_2.1, kit_2.2.1, kit_2.2.2, List.length_cons, List.length_nil, Nat.zero_add, Nat.reduceAdd, z2, mIf_ap, mAnd_ap, mOp_ap, mMeth_ap, mVar_zero, mVar_succ, isX_arr, isX_bl, lstOf_arr', ec, ei, ex, fEq_int, decide_true, unX, dropX, List.map_cons, List.map_nil]
    rfl
  show exitR h (B__law_word (actM 0 1000 h (.exc 2 h)) [some (.exc 1000), none, none, none, none] h) = _
  rw [er]
  exact exit_same rfl
theorem steps_exc {c : Nat} {d e : D} {h : Hd} (hd : d.isX = false) (he : e.isX = false) (x : F_check_spots [d, e] h = .exc c h) : F_steps_that_make [d, e] h = .exc c h := by
  refine fnF_exc (s := [some d, some e, none, none, none, none]) rfl ?_ rfl
  show M_steps_that_make [some d, some e, none, none, none, none] h = _
  simp only [M_steps_that_make, mSeq_ap, sExpr_ap, mCB_ap, aCons_ap, aNil_ap, mVar_zero, mVar_succ, hd, he, bind_ok, x, thn_exc]
theorem word_of1 {d e : D} {h : Hd} (hd : hasHd h d) (he : e.isX = false) (w : wI d 1 24 = false) : F__law_word_of [d, e] h = .ok (.str "number") h := by
  refine fnF_rt rfl ?_ rfl
  show M__law_word_of [some d, some e] h = _
  have x := steps_exc hd.2 he (check_noring (e := e) hd w)
  have := word1 (s := [some d, some e]) (h := h) (m := mCB F_steps_that_make (aCons (mVar 0) (aCons (mVar 1) aNil))) (by simp only [mCB_ap, aCons_ap, aNil_ap, mVar_zero, mVar_succ, hd.2, he, bind_ok, x])
  simp only [M__law_word_of, sRet_ap, List.length_cons, List.length_nil, Nat.zero_add, Nat.reduceAdd, this, thn_ok]
theorem word_of2 {n : Nat} {e : D} {h : Hd} (R : Ring n) (he : e.isX = false) (w : F_is_spots [.int n, e] h = .ok (.bl false) h) : F__law_word_of [.int n, e] h = .ok (.str "spots") h := by
  refine fnF_rt rfl ?_ rfl
  show M__law_word_of [some (.int n), some e] h = _
  have x := steps_exc isX_int he (check_bad R he w)
  have := word2 (s := [some (.int n), some e]) (h := h) (m := mCB F_steps_that_make (aCons (mVar 0) (aCons (mVar 1) aNil))) (by simp only [mCB_ap, aCons_ap, aNil_ap, mVar_zero, mVar_succ, isX_int, he, bind_ok, x])
  simp only [M__law_word_of, sRet_ap, List.length_cons, List.length_nil, Nat.zero_add, Nat.reduceAdd, this, thn_ok]
theorem eq_words {h : Hd} : fEq (.arr [.str "number", .str "spots", .str "number", .str "number"]) (.arr [.str "number", .str "spots", .str "number", .str "number"]) h = .ok (.bl true) h := by
  rfl
theorem refused_ok {h : Hd} (T : Tp h) : ∃ h', F__law_is_refused [.ref 0] h = .ok (.bl true) h' ∧ Tp h' := by
  obtain ⟨d, h1, e1, T1, hd, w⟩ := no_ring_ok T
  obtain ⟨k, h2, e2, k0, k1, T2⟩ := pick_ok (m := 12) T1 (by decide) (by decide)
  obtain ⟨n, rfl⟩ := Int.eq_ofNat_of_zero_le k0
  have R : Ring (2 + n) := ⟨by omega, by omega⟩
  obtain ⟨e, h3, e3, T3, ex, es⟩ := no_spots_ok R (by omega) T2
  have cst : (2 : Int) + (n : Int) = ((2 + n : Nat) : Int) := by omega
  have z4 : 4 ≤ sizeLine := sz_small (by omega)
  have z2 : 2 ≤ sizeLine := sz_small (by omega)
  have zl : ∀ k, k ≤ 3 → k < sizeLine := fun k hk => Nat.lt_of_lt_of_le (by omega : k < 4) z4
  have w1 := word_of1 (h := h3) (hd h3) ex w
  have w2 := word_of2 (h := h3) R ex (es h3)
  have l3 := T3.len
  let H1 := h3 ++ [MO.lst [.str "number", .str "spots"]]
  let H2 := h3 ++ [MO.lst [.str "number", .str "spots", .str "number"]]
  let H3 := h3 ++ [MO.lst [.str "number", .str "spots", .str "number", .str "number"]]
  let s : Sl := [some (.ref 0), some d, some (.int (2 + n : Nat)), some e, some (.ref h3.length)]
  have b1 : mLam 5 (mCB F_made_by (aCons (mVar 1) (aCons (mC (.int 1)) (aCons (mC (.int 1)) (aNil))))) B__law_word s H1 = .ok (.str "number") H1 :=
    word1 (by simp only [s, mCB_ap, aCons_ap, aNil_ap, mC_ap, mVar_zero, mVar_succ, (hd H1).2, bind_ok, made_by_no (hd H1) w])
  have b2 : mLam 5 (mCB F_two_rings (aCons (mC (.int 1)) (aCons (mVar 1) (aCons (mC (.int 1)) (aNil))))) B__law_word s H2 = .ok (.str "number") H2 :=
    word1 (by simp only [s, mCB_ap, aCons_ap, aNil_ap, mC_ap, mVar_zero, mVar_succ, (hd H1).2, bind_ok, two_rings_no (hd H2) w])
  have a1 : FAppend (.ref h3.length) [.str "number"] H1 = .ok .non H2 := FAppend_end (zl 2 (by omega))
  have a2 : FAppend (.ref h3.length) [.str "number"] H2 = .ok .non H3 := FAppend_end (zl 3 (by omega))
  have o1 : lstOf H1 (.ref h3.length) = some [.str "number", .str "spots"] := lstOf_end
  have o2 : lstOf H2 (.ref h3.length) = some [.str "number", .str "spots", .str "number"] := lstOf_end
  have fz : frz 4 s H3 = .nx [some (.ref 0), some d, some (.int (2 + n : Nat)), some e, some (.arr [.str "number", .str "spots", .str "number", .str "number"])] (h3 ++ [.dead]) := frz_end rfl
  refine ⟨h3, ?_, T3⟩
  have main : M__law_is_refused [some (.ref 0), none, none, none, none] h = .rt (.bl true) (h3 ++ [.dead]) := by
    have d2 := (hd h).2
    simp only [s, H1, H2, H3] at b1 b2 a1 a2 o1 o2 fz
    simp only [M__law_is_refused, e_pick, mSeq_ap, sAsg_ap, bindT_tp, bindTs_cons, bindTs_nil, bindT_nm, Option.bind_some, mTup_ap, aCons_ap, aNil_ap, mCB_ap, mOp_ap, mC_ap, mVar_zero, mVar_succ, isX_ref, isX_int, isX_str, d2, ex, bind_ok, e1, e2, fAdd_int, cst, List.length_cons, List.length_nil, Nat.zero_add, Nat.reduceAdd, z2, z4, if_true, thn_ok, List.set_cons_succ, List.set_cons_zero, e3, mLstM_ap, w1, w2, sExpr_ap, mMeth_ap, o1, o2, b1, b2, a1, a2, mFrz_ap, fz, sRet_ap, mLst_ap, isX_arr, eq_words]
  exact fnF_tape rfl main T T3 rfl
end L53

set_option Elab.async false
set_option linter.all false
set_option maxRecDepth 100000
set_option maxHeartbeats 4000000
namespace L53
open PySem PySem.Spec PyProof.Rows L2 RX
/-! ### right -/
theorem small_set {n : Nat} {ns : List Int} (hl : ns.length ≤ 100000) (hn : n ≤ 24) (hb : ∀ x ∈ ns, 0 ≤ x ∧ x < (n : Int)) : Small ns := ⟨hl, fun x hx => by have := hb x hx; omega⟩
theorem steps_in {n : Nat} {ss : List Int} : ∀ x ∈ stepsL n ss, 0 ≤ x ∧ x < (n : Int) := fun x hx => mem_upN.mp (List.mem_filter.mp hx).1
theorem steps_length {n : Nat} {ss : List Int} : (stepsL n ss).length ≤ n := by
  refine Nat.le_trans (List.length_filter_le _ _) ?_
  rw [upN_length]; exact Nat.le_refl _
theorem two_in {s n f : Nat} (R : Ring n) (s0 : 1 ≤ s) (f0 : 1 ≤ f) : ∀ x ∈ twoL s n f, 0 ≤ x ∧ x < (n : Int) := fun x hx => by
  obtain ⟨j, hj, rfl⟩ := List.mem_map.mp hx
  obtain ⟨j0, j1⟩ := even_in f0 j hj
  have := even_in (n := n) (m := s) s0 (((n : Int) * j + 0) / s) (List.mem_map.mpr ⟨j, mem_upN.mpr ⟨j0, j1 s0⟩, rfl⟩)
  exact ⟨this.1, this.2 R.1⟩
theorem two_length {s n f : Nat} : (twoL s n f).length = f := by unfold twoL; rw [List.length_map, even_length]
theorem fNe_self {x : Str} {h : Hd} : fNe (.str x) (.str x) h = .ok (.bl false) h := by rw [fNe_str]; simp
theorem fEq_self {x : Str} {h : Hd} : fEq (.str x) (.str x) h = .ok (.bl true) h := by rw [fEq_str]; simp
/-- the step is found -/
theorem turn_back {n : Nat} {ss : List Int} {b : Int} (hn : 1 ≤ n) (s : Spots n ss) {step : Int} {many : Nat} (hs : 0 ≤ step ∧ step < n) (e : ss = turnL n (madeL n step many) b) (hm : (madeL n step many).length = many) (b0 : 0 ≤ b) (b1 : b < n) : step ∈ stepsL n ss := by
  unfold stepsL
  rw [List.mem_filter]
  refine ⟨mem_upN.mpr hs, ?_⟩
  have : ss.length = many := by rw [e, turn_length, hm]
  unfold hits
  rw [List.any_eq_true]
  exact ⟨b, mem_upN.mpr ⟨b0, b1⟩, by rw [this, ← e]; simp⟩
theorem right_ok {h : Hd} (T : Tp h) : ∃ h', F__law_is_right [.ref 0] h = .ok (.bl true) h' ∧ Tp h' := by
  obtain ⟨k1, h1, e1, k10, k11, T1⟩ := pick_ok (m := 13) T (by decide) (by decide)
  obtain ⟨n', rfl⟩ := Int.eq_ofNat_of_zero_le k10
  obtain ⟨n, hn⟩ : ∃ n : Nat, n = 2 + n' := ⟨_, rfl⟩
  have cn : (2 : Int) + (n' : Int) = (n : Int) := by omega
  have R : Ring n := ⟨by omega, by omega⟩
  have R2 := R.2
  have lim : (n : Int) < 2 ^ 64 := Int.lt_of_le_of_lt (show (n : Int) ≤ 24 by omega) (by decide)
  obtain ⟨k2, h2, e2, k20, k21, T2⟩ := pick_ok (m := (n : Int) - 1) T1 (by omega) (Int.lt_of_le_of_lt (show (n : Int) - 1 ≤ 24 by omega) (by decide))
  obtain ⟨k3, h3, e3, k30, k31, T3⟩ := pick_ok (m := n) T2 (by omega) lim
  obtain ⟨many', rfl⟩ := Int.eq_ofNat_of_zero_le k30
  obtain ⟨many, hmany⟩ : ∃ m : Nat, m = 1 + many' := ⟨_, rfl⟩
  have cm : (1 : Int) + (many' : Int) = (many : Int) := by omega
  obtain ⟨step, hstep⟩ : ∃ s : Int, s = 1 + k2 := ⟨_, rfl⟩
  have m0 := made_spots (n := n) (step := step) (many := many)
  have ml : (madeL n step many).length ≤ n := made_length
  have eL := law_made_ok (h := h3) (step := step) (many := many) R (by omega) (by omega) (by omega)
  have eM := made_by_ok (h := h3) (step := step) (many := many) R (by omega) (by omega) (by omega)
  have sm : Small (madeL n step many) := small_set (by omega) R2 m0.2
  have rM := FRepr_ti (h := h3) sm
  obtain ⟨ss, h4, e4, T4, sp⟩ := spots_ok R T3
  obtain ⟨k5, h5, e5, k50, k51, T5⟩ := pick_ok (m := n) T4 (by omega) lim
  have tu := turned_ok (h := h5) (b := k5) R m0 (by omega) (by omega)
  have ts := turn_spots (b := k5) R.1 m0
  let bd : MS := (sIf (mAnd (mOp fGt (mCB FLen (aCons (mVar 6) (aNil))) (mC (.int 1))) (mOp fNe (mCB FRepr (aCons (mCB FList (aCons (mCB F_steps_that_make (aCons (mVar 1) (aCons (mVar 6) (aNil)))) (aNil))) (aNil))) (mCB FRepr (aCons (mCB F__law_steps (aCons (mVar 1) (aCons (mVar 6) (aNil)))) (aNil))))) (sRet (mC (.bl false))) (mSkip))
  let s0 : Sl := [some (.ref 0), some (.int n), some (.int step), some (.int many), some (ti (madeL n step many)), some (ti ss), none, none, none, none, none, none, none]
  have lp : forL [6] (.nm 6) bd [ti ss, ti (turnL n (madeL n step many) k5)] s0 h5 = .nx s0 h5 := by
    have := forL_fold (ks := [6]) (t := .nm 6) (body := bd) (fun _ : Unit => (s0, h5)) (fun _ _ => ()) [ti ss, ti (turnL n (madeL n step many) k5)] () (by
      intro d hd _
      have : ∃ ws, d = ti ws ∧ Spots n ws := by
        rcases List.mem_cons.mp hd with rfl | hd
        · exact ⟨_, rfl, sp⟩
        · rw [List.mem_singleton.mp hd]; exact ⟨_, rfl, ts⟩
      obtain ⟨ws, rfl, wp⟩ := this
      refine ⟨s0.set 6 (some (ti ws)), s0.set 6 (some (ti ws)), bindT_nm, .inl ?_, rfl⟩
      show bd [some (.ref 0), some (.int n), some (.int step), some (.int many), some (ti (madeL n step many)), some (ti ss), some (ti ws), none, none, none, none, none, none] h5 = _
      have f1 := steps_ok (h := h5) R wp
      have rS := FRepr_li (h := h5) (small_set (ns := stepsL n ws) (by have := steps_length (n := n) (ss := ws); omega) R2 steps_in)
      by_cases g : 1 < ws.length
      · have f2 := law_steps_ok (h := h5) R wp g
        have g' : decide ((ws.length : Int) > 1) = true := by simp; omega
        simp only [bd, sIf_ap, mAnd_ap, mOp_ap, mCB_ap, aCons_ap, aNil_ap, mC_ap, mVar_zero, mVar_succ, isX_int, isX_tup, bind_ok, FLen_tup, List.length_map, fGt_int, g', f1, f2, FList_arr, rS, fNe_self, thn_ok, mSkip_ap]
        rfl
      · have g' : decide ((ws.length : Int) > 1) = false := by simp; omega
        simp only [bd, sIf_ap, mAnd_ap, mOp_ap, mCB_ap, aCons_ap, aNil_ap, mC_ap, mVar_zero, mVar_succ, isX_int, isX_tup, bind_ok, FLen_tup, List.length_map, fGt_int, g', thn_ok, mSkip_ap]
        rfl)
    exact this
  obtain ⟨k6, h6, e6, k60, k61, T6⟩ := pick_ok (m := n) T5 (by omega) lim
  have tv := turned_ok (h := h6) (b := k6) R m0 (by omega) (by omega)
  have tsv := turn_spots (b := k6) R.1 m0
  have f6 := steps_ok (h := h6) R tsv
  have i6 : many > 1 → (madeL n step many).length = many → fIn true (.int step) (li (stepsL n (turnL n (madeL n step many) k6))) h6 = .ok (.bl false) h6 := fun _ q => by
    rw [fIn_int]
    have t := turn_back R.1 tsv (step := step) (many := many) ⟨by omega, by omega⟩ rfl q k60 k61
    simp only [if_true, t, decide_true, Bool.not_true]
  obtain ⟨k7, h7, e7, k70, k71, T7⟩ := pick_ok (m := n) T6 (by omega) lim
  obtain ⟨sm', rfl⟩ := Int.eq_ofNat_of_zero_le k70
  obtain ⟨sml, hsml⟩ : ∃ m : Nat, m = 1 + sm' := ⟨_, rfl⟩
  have csm : (1 : Int) + (sm' : Int) = (sml : Int) := by omega
  obtain ⟨k8, h8, e8, k80, k81, T8⟩ := pick_ok (m := sml) T7 (by omega) (Int.lt_of_le_of_lt (show (sml : Int) ≤ 24 by omega) (by decide))
  obtain ⟨fw', rfl⟩ := Int.eq_ofNat_of_zero_le k80
  obtain ⟨fw, hfw⟩ : ∃ m : Nat, m = 1 + fw' := ⟨_, rfl⟩
  have cfw : (1 : Int) + (fw' : Int) = (fw : Int) := by omega
  have v1 := even_ok (h := h8) R (show 1 ≤ sml by omega) (show sml ≤ n by omega)
  have v2 := even_ok (h := h8) (n := sml) (m := fw) ⟨by omega, by omega⟩ (by omega) (by omega)
  have v3 := two_ok (h := h8) (f := fw) R (show 1 ≤ sml by omega) (show sml ≤ n by omega) (by omega) (by omega)
  have rT := FRepr_ti (h := h8) (small_set (ns := twoL sml n fw) (by rw [two_length]; omega) R2 (two_in R (by omega) (by omega)))
  have zf : fw ≤ sizeLine := sz_small (by omega)
  have z2 : 2 ≤ sizeLine := sz_small (by omega)
  let s9 : Sl := [some (.ref 0), some (.int n), some (.int step), some (.int many), some (ti (madeL n step many)), some (ti ss), none, some (ti (turnL n (madeL n step many) k6)), some (.int sml), some (.int fw), some (ti (evenL n sml)), some (ti (evenL sml fw)), none]
  have c9 := two_comp (s := sml) (n := n) (f := fw) (i := 10) (j := 12) (h := h8) (sl := s9) (by omega) (by omega) (fun x => rfl) (by simp [s9]) rfl
  refine ⟨h8, fnF_rt rfl ?_ (by rw [T8.len, T.len]), T8⟩
  show M__law_is_right [some (.ref 0), none, none, none, none, none, none, none, none, none, none, none, none] h = _
  have cmL : decide (((many : Nat) : Int) > 1) = decide (many > 1) := by apply Bool.eq_iff_iff.mpr; simp; omega
  have lpk : forL [6] (.nm 6) bd [ti ss, ti (turnL n (madeL n step many) k5)] (kill [some (.ref 0), some (.int n), some (.int step), some (.int many), some (ti (madeL n step many)), some (ti ss), none, none, none, none, none, none, none] [6]) h5 = .nx s0 h5 := lp
  have i1 : (mAnd (mOp fEq (mCB FLen (aCons (mVar 4) (aNil))) (mVar 3)) (mOp fNe (mCB FRepr (aCons (mCB F_made_by (aCons (mVar 1) (aCons (mVar 2) (aCons (mVar 3) (aNil))))) (aNil))) (mCB FRepr (aCons (mVar 4) (aNil))))) [some (.ref 0), some (.int n), some (.int step), some (.int many), some (ti (madeL n step many)), none, none, none, none, none, none, none, none] h3 = .ok (.bl false) h3 := by
    simp only [mAnd_ap, mOp_ap, mCB_ap, aCons_ap, aNil_ap, mC_ap, mVar_zero, mVar_succ, isX_int, isX_tup, bind_ok, FLen_tup, List.length_map, fEq_int, eM, rM, fNe_self]
    by_cases g : ((madeL n step many).length : Int) = many
    · simp only [g, decide_true, bind_ok, mVar_succ, mVar_zero, isX_int, isX_tup, eM, rM, fNe_self]
    · simp only [g, decide_false]
  have i2 : (mAnd (mOp fGt (mVar 3) (mC (.int 1))) (mAnd (mOp fEq (mCB FLen (aCons (mVar 4) (aNil))) (mVar 3)) (mOp (fIn true) (mVar 2) (mCB F_steps_that_make (aCons (mVar 1) (aCons (mVar 7) (aNil))))))) [some (.ref 0), some (.int n), some (.int step), some (.int many), some (ti (madeL n step many)), some (ti ss), none, some (ti (turnL n (madeL n step many) k6)), none, none, none, none, none] h6 = .ok (.bl false) h6 := by
    simp only [mAnd_ap, mOp_ap, mCB_ap, aCons_ap, aNil_ap, mC_ap, mVar_zero, mVar_succ, isX_int, isX_tup, bind_ok, FLen_tup, List.length_map, fEq_int, fGt_int, cmL]
    by_cases g1 : many > 1
    · by_cases g : ((madeL n step many).length : Int) = many
      · have := i6 g1 (by omega)
        simp only [g1, g, decide_true, bind_ok, mVar_succ, mVar_zero, isX_int, isX_tup, f6, this]
      · simp only [g1, g, decide_true, decide_false]
    · simp only [g1, decide_false]
  simp only [bd] at lpk
  simp only [s9] at c9
  simp only [M__law_is_right, e_pick, mSeq_ap, sAsg_nm, sPar_ap, mOp_ap, mCB_ap, aCons_ap, aNil_ap, mC_ap, mVar_zero, mVar_succ, isX_int, isX_ref, isX_tup, bind_ok, thn_ok, List.set_cons_succ, List.set_cons_zero, e1, fAdd_int, cn, fSub_int, e2, e3, cm, ← hstep, eL, sIf_ap, i1, mSkip_ap, e4, sFor_ap, iSeq_ap, mTup_ap, e5, tu, List.length_cons, List.length_nil, Nat.zero_add, Nat.reduceAdd, z2, if_true, lpk, s0, e6, tv, i2, e7, csm, e8, cfw, sAsg_ap, v1, v2, bindT_tp, bindTs_cons, bindTs_nil, bindT_nm, Option.bind_some, sRet_ap, v3, rT, mLc_ap, List.length_map, even_length, zf, c9, noX_ok, FTuple_arr, fEq_self]
/-! ### the law -/
theorem c_made : madeL 12 7 5 = [0, 2, 4, 7, 9] := by decide +kernel
theorem c_two : twoL 7 12 3 = [0, 3, 6] := by decide +kernel
theorem steps_set {n : Nat} {ss : List Int} (hn : 1 ≤ n) : stepsL n ss = (upN n).filter fun step => (upN n).any fun b => decide ((setI n fun x => decide (x ∈ (madeL n step ss.length).map fun y => (y + b) % n)) = ss) := by
  unfold stepsL
  congr 1
  funext step
  unfold hits
  congr 1
  funext b
  unfold turnL
  rw [sort_set (turn_nodup made_spots) (turn_in hn)]
theorem c_steps : stepsL 12 [0, 2, 4, 7, 9] = [5, 7] := by
  rw [steps_set (by decide)]
  decide +kernel
theorem law_true : ∀ ns : List Int, ns.length ≤ 63 → (∀ z ∈ ns, Builtin.Int.intBits z ≤ 1048576) → ∃ h', F_law [.scr ns] [] = .ok (.bl true) h' := fun ns hl _ => by
  obtain ⟨h1, e1, T1⟩ := tape_ok (ns := ns) (by omega)
  have R12 : Ring 12 := ⟨by omega, by omega⟩
  have s12 : Spots 12 [0, 2, 4, 7, 9] := by rw [← c_made]; exact made_spots
  have a1 : F_made_by [.int 12, .int 7, .int 5] h1 = .ok (.tup [.int 0, .int 2, .int 4, .int 7, .int 9]) h1 := by
    have := made_by_ok (h := h1) (step := 7) (many := 5) R12 (by decide) (by decide) (by decide)
    rw [c_made] at this
    exact this
  have a2 : F_two_rings [.int 7, .int 12, .int 3] h1 = .ok (.tup [.int 0, .int 3, .int 6]) h1 := by
    have := two_ok (h := h1) (s := 7) (f := 3) R12 (by decide) (by decide) (by decide) (by decide)
    rw [c_two] at this
    exact this
  have a3 : F_steps_that_make [.int 12, .tup [.int 0, .int 2, .int 4, .int 7, .int 9]] h1 = .ok (.arr [.int 5, .int 7]) h1 := by
    have := steps_ok (h := h1) R12 s12
    rw [c_steps] at this
    exact this
  have q1 : fNe (.tup [.int 0, .int 2, .int 4, .int 7, .int 9]) (.tup [.int 0, .int 2, .int 4, .int 7, .int 9]) h1 = .ok (.bl false) h1 := fNe_ti (ns := [0, 2, 4, 7, 9]) (ms := [0, 2, 4, 7, 9])
  have q2 : fNe (.tup [.int 0, .int 3, .int 6]) (.tup [.int 0, .int 3, .int 6]) h1 = .ok (.bl false) h1 := fNe_ti (ns := [0, 3, 6]) (ms := [0, 3, 6])
  have q3 : fNe (.arr [.int 5, .int 7]) (.arr [.int 5, .int 7]) h1 = .ok (.bl false) h1 := fNe_li (ns := [5, 7]) (ms := [5, 7])
  have z5 : 5 ≤ sizeLine := sz_small (by omega)
  have z3 : 3 ≤ sizeLine := sz_small (by omega)
  have z2 : 2 ≤ sizeLine := sz_small (by omega)
  have rg : iRg1 [.int 5] h1 = .ok ((upN 5).map D.int) h1 := range_ok (n := 5) (by omega)
  let bd : MS := (sIf (mOr (mNot (mCB F__law_is_right (aCons (mVar 1) (aNil)))) (mNot (mCB F__law_is_refused (aCons (mVar 1) (aNil))))) (sRet (mC (.bl false))) (mSkip))
  obtain ⟨s', h', e2, T2, d2, rfl⟩ := forL_inv (ks := [2]) (t := .nm 2) (body := bd) (fun _ s h => Tp h ∧ ∃ d, s = [some (.scr ns), some (.ref 0), d]) ((upN 5).map D.int) [some (.scr ns), some (.ref 0), none] h1 ⟨T1, none, rfl⟩ (by
    rintro d ds s h ⟨Th, x, rfl⟩
    obtain ⟨h2, f1, T2⟩ := right_ok Th
    obtain ⟨h3, f2, T3⟩ := refused_ok T2
    refine ⟨[some (.scr ns), some (.ref 0), some d], [some (.scr ns), some (.ref 0), some d], h3, bindT_nm, .inl ?_, T3, none, rfl⟩
    simp only [bd, sIf_ap, mOr_ap, mNot_ap, mCB_ap, aCons_ap, aNil_ap, mVar_zero, mVar_succ, isX_ref, bind_ok, f1, f2, Bool.not_true, thn_ok, mSkip_ap])
  simp only [bd] at e2
  have main : M_law [some (.scr ns), none, none] [] = .rt (.bl true) h' := by
    have e2' : forL [2] (.nm 2) _ ((upN 5).map D.int) (kill [some (.scr ns), some (.ref 0), none] [2]) h1 = _ := e2
    simp only [M_law, e_tape, mSeq_ap, sAsg_nm, mCB_ap, aCons_ap, aNil_ap, mVar_zero, mVar_succ, isX_scr, isX_ref, bind_ok, e1, thn_ok, List.set_cons_succ, List.set_cons_zero, sIf_ap, mOr_ap, mOp_ap, mC_ap, a1, mTup_ap, List.length_cons, List.length_nil, Nat.zero_add, Nat.reduceAdd, z5, z3, z2, if_true, q1, a2, q2, mSkip_ap, a3, FList_arr, mLst_ap, q3, sFor_ap, iRange1_ap, rg, e2', sRet_ap]
  refine ⟨[], ?_⟩
  unfold F_law fnF
  rw [if_pos (show [D.scr ns].length = 1 from rfl)]
  show exitR [] (M_law [some (.scr ns), none, none] []) = _
  rw [main]
  show cutR [] (.bl true) h' = _
  unfold cutR
  rw [if_neg (by rw [T2.len]; decide), if_pos ⟨⟨Nat.zero_le _, fun i o hi => by simp at hi⟩, rfl⟩]
  rfl
end L53

open PySem PySem.W PySem.Calls PyProof.Rows
theorem PySem.Challenge.cw_fairrounds_k53_whole_spots_made_by_steps_holds : PySem.Challenge.rw_fairrounds_k53_whole_spots_made_by_steps.Holds := by
  w_on; o_law
  refine HandSHeadRun.head_any (r := OpenLaw.row PySem.Challenge.rw_fairrounds_k53_whole_spots_made_by_steps) (q := view (OpenLaw.row PySem.Challenge.rw_fairrounds_k53_whole_spots_made_by_steps).prog [31]) (H := L53.hk) (ob := L53.ob) (M := 4000) (loose := L53.loose) (d := HandSHeadRun.topDef (OpenLaw.row PySem.Challenge.rw_fairrounds_k53_whole_spots_made_by_steps).prog 31) (kwd := []) L53.ob_eq
    (by kernel_rfl) (fun s => by kernel_rfl) L53.run (by kernel_rfl) (by kernel_rfl) (by kernel_rfl) (by rfl) (by first | assumption | decide +kernel) (by decide +kernel) ⟨rfl, rfl, rfl, rfl, rfl, by decide +kernel⟩ ?hw ?hc
  case hw => w_witness2
  case hc =>
    refine RX.walk_end (l := PySem.Challenge.rw_fairrounds_k53_whole_spots_made_by_steps) (n := 63) (k := 11) (x := "script") rfl (by decide) (by kernel_rfl) ⟨rfl, by decide, by decide⟩ ?F
    intro w mg fa h Y Gn hmg0
    have hmg : mg ("law" : PySem.Str) = some (.ref fa) := by
      have e : (HandSHeadRun.topDef (OpenLaw.row PySem.Challenge.rw_fairrounds_k53_whole_spots_made_by_steps).prog 31).name = ("law" : PySem.Str) := by kernel_rfl
      rw [← e]
      exact hmg0
    exact L53.says Y Gn hmg L53.law_true
