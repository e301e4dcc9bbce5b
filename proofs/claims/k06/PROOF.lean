import PyProof.Rows.All
import Wide.All
import OpenK.AllK
import Wide.FinOn
import HandS.Base
import HandS.Call
import HandS.List
import HandS.Comp
import HandS.Ends
import HandS.Dict
import HandS.Iter
import HandS.Text
import HandS.Words
import HandS.Exc
import HandS.TryOnly
import HandS.ExcOwn
import HandS.Defaults
import HandS.Flow
import HandS.Wide
import HandS.TupAny
import HandS.Deep
import HandS.Style
import HandS.CallSlots
import HandS.WordsExc
import HandS.More
import HandS.RaiseMore
import PyProof.ReprRoads
import HandS.StrMore
import HandS.MakeKwOnly
import HandS.TupMul
import KE.SortData
import PyProof.TupleOfSeq
import HandS.Star
import HandS.FStr
import HandS.TupSets
import KE.KeyNested
import HandS.SetBool
import HandS.IsInst
import PyProof.DictMoreH
import HandS.SetKeys
import PyProof.ReprLen
import HandS.GenOver
import HandS.GenCall
import HandS.GenList
import KE.KxField
import PyProof.StrOps2
import PySem.Challenge.RW_crossrank_k06_kinds_of_values
set_option autoImplicit false
set_option Elab.async false
set_option linter.all false
set_option maxRecDepth 100000
namespace L3
open PySem PySem.Spec PyProof.Rows L2

abbrev D := PyData

inductive W where
  | d (x : PyData)
  | loc (l : Nat)
  | ty (n : String)
  | cl (c : Str)
  | fz (xs : List PyData)
inductive Ob where
  | dead
  | lst (ws : List W)
  | tup (ws : List W)
  | dct (kvs : List (PyData × W))
  | dv (kvs : List (PyData × W))
  | ins (c : Str) (fs : List (Str × W))
  | exo (c : Str) (fs : List (Str × PyData))
abbrev WH := List Ob
inductive Out (α : Type) where
  | ok (a : α)
  | exc (c : Str) (fs : List (Str × PyData))
abbrev R (α : Type) := Option (Out α × WH)
abbrev M (α : Type) := WH → R α
abbrev WSt := List (Option W)

def Ob.live : Ob → Bool
  | .dead => false
  | _ => true
structure Th where
  a : List Addr
  hd : Addr → Prop
def Th.add (th : Th) (p : Addr) : Th := { th with a := th.a ++ [p] }
def Th.cut (th : Th) (n : Nat) : Th := { th with a := th.a.take n }
def Pl (th : Th) (h : WH) (a : Addr) : Prop := ∃ (l : Nat) (o : Ob), h[l]? = some o ∧ o.live = true ∧ th.a[l]? = some a
def Lv (th : Th) (h : WH) (a : Addr) : Prop := th.hd a ∨ Pl th h a
open Classical in
noncomputable def hid (th : Th) (h : WH) (H : Hp) : Hp := fun a => if Lv th h a then none else H a
theorem hid_some {th : Th} {h : WH} {H : Hp} {a : Addr} {o : HO} : hid th h H a = some o ↔ ¬ Lv th h a ∧ H a = some o := by
  unfold hid
  split <;> simp_all
theorem hid_le {th : Th} {h : WH} {H : Hp} {a : Addr} {o : HO} (e : hid th h H a = some o) : H a = some o := (hid_some.mp e).2

def Le (H H' : Hp) : Prop := ∀ a o, H a = some o → H' a = some o
theorem Le.refl (H : Hp) : Le H H := fun _ _ e => e
theorem Le.trans {A B C : Hp} (x : Le A B) (y : Le B C) : Le A C := fun a o e => y a o (x a o e)
theorem Le.rd {H H' : Hp} (m : Le H H') {a : Addr} {u : HO} (r : Rd H a u) : Rd H' a u := by
  rcases r with r | ⟨o, r⟩
  · exact .inl (m _ _ r)
  · exact .inr ⟨o, m _ _ r⟩
theorem Le.sqL {K : PySem.W.Frag} {H H' : Hp} (m : Le H H') {a : Addr} {xs : List V} (r : SqL K H a xs) : SqL K H' a xs := r.imp m.rd id
theorem Le.sqT {K : PySem.W.Frag} {H H' : Hp} (m : Le H H') {a : Addr} {xs : List V} (r : SqT K H a xs) : SqT K H' a xs := r.imp m.rd id
mutual
theorem Le.dp {K : PySem.W.Frag} {H H' : Hp} (m : Le H H') : ∀ {v : V} {x : PyData}, Dp K H v x → Dp K H' v x
  | _, _, .non => .non
  | _, _, .bl b => .bl b
  | _, _, .int i => .int i
  | _, _, .str x => .str x
  | _, _, .lst s a => .lst (m.sqL s) (Le.dps m a)
  | _, _, .tup s a => .tup (m.sqT s) (Le.dps m a)
theorem Le.dps {K : PySem.W.Frag} {H H' : Hp} (m : Le H H') : ∀ {vs : List V} {xs : List PyData}, DpAll K H vs xs → DpAll K H' vs xs
  | _, _, .nil => .nil
  | _, _, .cons a r => .cons (Le.dp m a) (Le.dps m r)
end
def keyD : Key → PyData
  | .inl i => .int i
  | .inr x => .str x
def keyT (k : List Key) : PyData := .tuple (k.map keyD)
mutual
inductive Fz (K : PySem.W.Frag) (H : Hp) : V → PyData → Prop
  | non : Fz K H .non .none
  | bl (b : Bool) : Fz K H (.bl b) (.bool b)
  | int (i : Int) : Fz K H (.int i) (.int i)
  | str (x : Str) : Fz K H (.str x) (.str x)
  | lst {a : Addr} {xs : List V} {ds : List PyData} : H a = some (.lst xs) → FzAll K H xs ds → Fz K H (.ref a) (.list ds)
  | tup {a : Addr} {xs : List V} {ds : List PyData} : SqT K H a xs → FzAll K H xs ds → Fz K H (.ref a) (.tuple ds)
  | dct {a : Addr} {xs : List (Key × V)} {ds : List (PyData × PyData)} : H a = some (.dK xs) → FzKV K H xs ds → Fz K H (.ref a) (.dict ds)
  | dctT {a : Addr} {xs : List (List Key × V)} {ds : List (PyData × PyData)} : H a = some (.dT xs) → FzKT K H xs ds → Fz K H (.ref a) (.dict ds)
inductive FzAll (K : PySem.W.Frag) (H : Hp) : List V → List PyData → Prop
  | nil : FzAll K H [] []
  | cons {v : V} {vs : List V} {d : PyData} {ds : List PyData} : Fz K H v d → FzAll K H vs ds → FzAll K H (v :: vs) (d :: ds)
inductive FzKV (K : PySem.W.Frag) (H : Hp) : List (Key × V) → List (PyData × PyData) → Prop
  | nil : FzKV K H [] []
  | cons {k : Key} {v : V} {vs : List (Key × V)} {d : PyData} {ds : List (PyData × PyData)} : Fz K H v d → FzKV K H vs ds → FzKV K H ((k, v) :: vs) ((keyD k, d) :: ds)
inductive FzKT (K : PySem.W.Frag) (H : Hp) : List (List Key × V) → List (PyData × PyData) → Prop
  | nil : FzKT K H [] []
  | cons {k : List Key} {v : V} {vs : List (List Key × V)} {d : PyData} {ds : List (PyData × PyData)} : Fz K H v d → FzKT K H vs ds → FzKT K H ((k, v) :: vs) ((keyT k, d) :: ds)
end
mutual
theorem Le.fz {K : PySem.W.Frag} {H H' : Hp} (m : Le H H') : ∀ {v : V} {x : PyData}, Fz K H v x → Fz K H' v x
  | _, _, .non => .non
  | _, _, .bl b => .bl b
  | _, _, .int i => .int i
  | _, _, .str x => .str x
  | _, _, .lst s a => .lst (m _ _ s) (Le.fzs m a)
  | _, _, .tup s a => .tup (m.sqT s) (Le.fzs m a)
  | _, _, .dct s a => .dct (m _ _ s) (Le.fzk m a)
  | _, _, .dctT s a => .dctT (m _ _ s) (Le.fzt m a)
theorem Le.fzs {K : PySem.W.Frag} {H H' : Hp} (m : Le H H') : ∀ {vs : List V} {xs : List PyData}, FzAll K H vs xs → FzAll K H' vs xs
  | _, _, .nil => .nil
  | _, _, .cons a r => .cons (Le.fz m a) (Le.fzs m r)
theorem Le.fzk {K : PySem.W.Frag} {H H' : Hp} (m : Le H H') : ∀ {vs : List (Key × V)} {xs : List (PyData × PyData)}, FzKV K H vs xs → FzKV K H' vs xs
  | _, _, .nil => .nil
  | _, _, .cons a r => .cons (Le.fz m a) (Le.fzk m r)
theorem Le.fzt {K : PySem.W.Frag} {H H' : Hp} (m : Le H H') : ∀ {vs : List (List Key × V)} {xs : List (PyData × PyData)}, FzKT K H vs xs → FzKT K H' vs xs
  | _, _, .nil => .nil
  | _, _, .cons a r => .cons (Le.fz m a) (Le.fzt m r)
end
mutual
/-- no dict in it -/
def flat : PyData → Bool
  | .none => true
  | .bool _ => true
  | .int _ => true
  | .str _ => true
  | .list xs => flats xs
  | .tuple xs => flats xs
  | .dict _ => false
def flats : List PyData → Bool
  | [] => true
  | x :: xs => flat x && flats xs
end
mutual
theorem Fz.dp {K : PySem.W.Frag} {H : Hp} : ∀ {x : PyData} {v : V}, Fz K H v x → flat x = true → Dp K H v x
  | .none, _, .non, _ => .non
  | .bool _, _, .bl b, _ => .bl b
  | .int _, _, .int i, _ => .int i
  | .str _, _, .str x, _ => .str x
  | .list _, _, .lst s a, f => .lst (.inl (.inl s)) (Fz.dps a f)
  | .tuple _, _, .tup s a, f => .tup s (Fz.dps a f)
  | .dict _, _, .dct _ _, f => by cases f
  | .dict _, _, .dctT _ _, f => by cases f
theorem Fz.dps {K : PySem.W.Frag} {H : Hp} : ∀ {xs : List PyData} {vs : List V}, FzAll K H vs xs → flats xs = true → DpAll K H vs xs
  | [], _, .nil, _ => .nil
  | x :: xs, _, .cons a r, f => by
    have f : (flat x && flats xs) = true := f
    rw [Bool.and_eq_true] at f
    exact .cons (Fz.dp a f.1) (Fz.dps r f.2)
end
theorem hid_Le {th : Th} {h : WH} {H : Hp} : Le (hid th h H) H := fun _ _ e => hid_le e

abbrev DE := List Key × Addr × V
def entK (w : World) (x : List Key × Addr × Value) : DictEntry := ⟨reduceHash (Builtin.Tuple.tupleHashOf (x.1.map (keyH w))), .ref x.2.1, x.2.2⟩
abbrev KVo : List DE → List (List Key × Addr × Value) → Prop := Paired fun p q => p.1 = q.1 ∧ p.2.1 = q.2.1 ∧ RelV p.2.2 q.2.2
def dvFit (w : World) (a : Addr) (xs : List DE) (h : Heap) : Prop := xs.length ≤ sizeLine ∧ (a == sysModules) = false ∧ ∃ ys, KVo xs ys ∧ ∃ o es ep, h.get? a = some o ∧ o.ExactDict ∧ o.data = .dict es ep ∧ es.toList = ys.map (entK w) ∧ (ys.map (·.1)).Nodup ∧ ep = xs.length
def dVo (w : World) (a : Addr) (xs : List DE) : HO := .ext (dvFit w a xs)
def exoHO (C : Addr) (d : Option Addr) (a : Addr) : HO := .ext fun h => ∃ (oe : Obj) (vs : Array Value), h.get? a = some oe ∧ oe.cls = .ref C ∧ oe.dict = d ∧ oe.data = .fields vs
abbrev MG := (Str → Option Value) × World
instance : CoeFun MG (fun _ => Str → Option Value) := ⟨Prod.fst⟩
section
variable (K : PySem.W.Frag) (mg : MG)

def RelW (th : Th) (h : WH) (H : Hp) : W → V → Prop
  | .d x, v => Fz K (hid th h H) v x
  | .fz xs, v => Dp K (hid th h H) v (.list xs)
  | .loc l, v => ∃ a, v = .ref a ∧ th.a[l]? = some a ∧ l < h.length
  | .ty n, v => v = .ty n
  | .cl c, v => ∃ C, mg c = some (.ref C) ∧ v = .ref C
def RelWs (th : Th) (h : WH) (H : Hp) : List W → List V → Prop
  | [], vs => vs = []
  | w :: ws, vs => ∃ v r, vs = v :: r ∧ RelW K mg th h H w v ∧ RelWs th h H ws r
def RelFs (th : Th) (h : WH) (H : Hp) : List (Str × W) → List (Str × V) → Prop
  | [], vs => vs = []
  | w :: ws, vs => ∃ v r, vs = (w.1, v) :: r ∧ RelW K mg th h H w.2 v ∧ RelFs th h H ws r
def RelX (th : Th) (h : WH) (H : Hp) (c : Str) (fs : List (Str × PyData)) (cls : Value) (dx : Option Addr) : Prop :=
  ∃ C, mg c = some (.ref C) ∧ cls = .ref C ∧ ((fs = [] ∧ dx = none) ∨ ∃ d vs, dx = some d ∧ hid th h H d = some (.xd vs) ∧ RelFs K mg th h H (fs.map fun p => (p.1, W.d p.2)) vs)
def ObjR (th : Th) (h : WH) (H : Hp) (a : Addr) : Ob → Prop
  | .dead => True
  | .lst ws => ∃ vs, H a = some (.lst vs) ∧ RelWs K mg th h H ws vs
  | .tup ws => ∃ vs, H a = some (.tup vs) ∧ RelWs K mg th h H ws vs
  | .dct kvs => ∃ (ks : List (List Key)) (vs : List V), H a = some (.dT (ks.zip vs)) ∧ (kvs.map Prod.fst = ks.map keyT ∧ ks.length = vs.length) ∧ RelWs K mg th h H (kvs.map Prod.snd) vs
  | .dv kvs => ∃ xs : List DE, H a = some (dVo mg.2 a xs) ∧ (kvs.map Prod.fst = xs.map (fun x => keyT x.1) ∧ ∀ x ∈ xs, SqT K (hid th h H) x.2.1 (x.1.map kV)) ∧ RelWs K mg th h H (kvs.map Prod.snd) (xs.map fun x => x.2.2)
  | .ins c fs => ∃ C dx vs, mg c = some (.ref C) ∧ H a = some (.ins C dx vs) ∧ RelFs K mg th h H fs vs
  | .exo c fs => ∃ C d, H a = some (exoHO C d a) ∧ RelX K mg th h H c fs (.ref C) d
structure RelH (th : Th) (h : WH) (H : Hp) : Prop where
  len : th.a.length = h.length
  inj : ∀ (l l' : Nat) (o o' : Ob) (a : Addr), h[l]? = some o → o.live = true → h[l']? = some o' → o'.live = true → th.a[l]? = some a → th.a[l']? = some a → l = l'
  obj : ∀ (l : Nat) (o : Ob) (a : Addr), h[l]? = some o → th.a[l]? = some a → ObjR K mg th h H a o
  tr : ∀ a : Addr, th.hd a → H a ≠ none
  off : ∀ (l : Nat) (o : Ob) (a : Addr), h[l]? = some o → o.live = true → th.a[l]? = some a → ¬ th.hd a
structure RelSt (th : Th) (h : WH) (H : Hp) (ws : WSt) (σ : L2.St) : Prop where
  len : ws.length = σ.length
  at_ : ∀ (i : Nat) (w : W), ws[i]? = some (some w) → ∃ v, σ[i]? = some (some v) ∧ RelW K mg th h H w v

structure Stay (th : Th) (h : WH) (H : Hp) (th' : Th) (h' : WH) (H' : Hp) : Prop where
  len : h.length ≤ h'.length
  pre : ∀ (l : Nat) (a : Addr), th.a[l]? = some a → th'.a[l]? = some a
  keep : ∀ (a : Addr) (o : HO), H a = some o → ¬ Pl th h a → H' a = some o
  there : ∀ a : Addr, H' a = none → H a = none
  newP : ∀ a : Addr, Pl th' h' a → Pl th h a ∨ H a = none
  newH : ∀ a : Addr, th'.hd a → th.hd a ∨ H a = none
  hds : ∀ a : Addr, th.hd a → th'.hd a
end
section
variable {K : PySem.W.Frag} {mg : MG} {th th' th2 : Th} {h h' h2 : WH} {H H' H2 : Hp}
theorem Stay.refl : Stay th h H th h H := ⟨Nat.le_refl _, fun _ _ e => e, fun _ _ e _ => e, fun _ e => e, fun _ e => .inl e, fun _ e => .inl e, fun _ z => z⟩
theorem Stay.new (x : Stay th h H th' h' H') (a : Addr) (z : Lv th' h' a) : Lv th h a ∨ H a = none := z.elim (fun z => (x.newH a z).imp .inl id) fun z => (x.newP a z).imp .inr id
theorem Stay.trans (x : Stay th h H th' h' H') (y : Stay th' h' H' th2 h2 H2) : Stay th h H th2 h2 H2 where
  len := Nat.le_trans x.len y.len
  pre := fun l a e => y.pre l a (x.pre l a e)
  keep := fun a o e n => y.keep a o (x.keep a o e n) fun z => (x.newP a z).elim n fun q => by rw [q] at e; cases e
  there := fun a z => x.there a (y.there a z)
  newP := fun a z => (y.newP a z).elim (x.newP a) fun q => .inr (x.there a q)
  newH := fun a z => (y.newH a z).elim (x.newH a) fun q => .inr (x.there a q)
  hds := fun a z => y.hds a (x.hds a z)
theorem Stay.le (x : Stay th h H th' h' H') : Le (hid th h H) (hid th' h' H') := fun a o e => by
  obtain ⟨n, e⟩ := hid_some.mp e
  refine hid_some.mpr ⟨fun z => (x.new a z).elim n fun q => ?_, x.keep a o e fun z => n (.inr z)⟩
  rw [q] at e; cases e
theorem RelW.stay (x : Stay th h H th' h' H') : ∀ {w : W} {v : V}, RelW K mg th h H w v → RelW K mg th' h' H' w v
  | .d _, _, r => x.le.fz r
  | .fz _, _, r => x.le.dp r
  | .loc _, _, ⟨a, e, q, z⟩ => ⟨a, e, x.pre _ _ q, Nat.lt_of_lt_of_le z x.len⟩
  | .ty _, _, r => r
  | .cl _, _, r => r
theorem RelWs.stay (x : Stay th h H th' h' H') : ∀ {ws : List W} {vs : List V}, RelWs K mg th h H ws vs → RelWs K mg th' h' H' ws vs
  | [], _, r => r
  | _ :: _, _, ⟨v, r, e, a, b⟩ => ⟨v, r, e, a.stay x, RelWs.stay x b⟩
theorem RelFs.stay (x : Stay th h H th' h' H') : ∀ {ws : List (Str × W)} {vs : List (Str × V)}, RelFs K mg th h H ws vs → RelFs K mg th' h' H' ws vs
  | [], _, r => r
  | _ :: _, _, ⟨v, r, e, a, b⟩ => ⟨v, r, e, a.stay x, RelFs.stay x b⟩
theorem RelSt.stay {ws : WSt} {σ : L2.St} (x : Stay th h H th' h' H') (r : RelSt K mg th h H ws σ) : RelSt K mg th' h' H' ws σ :=
  ⟨r.len, fun i w e => let ⟨v, a, b⟩ := r.at_ i w e; ⟨v, a, b.stay x⟩⟩
theorem RelX.stay {c : Str} {fs : List (Str × PyData)} {cls : Value} {dx : Option Addr} (x : Stay th h H th' h' H') (r : RelX K mg th h H c fs cls dx) : RelX K mg th' h' H' c fs cls dx := by
  obtain ⟨C, a, b, q⟩ := r
  refine ⟨C, a, b, q.imp id ?_⟩
  rintro ⟨d, vs, e, f, g⟩
  exact ⟨d, vs, e, x.le _ _ f, g.stay x⟩
theorem relfsD_le (m : Le (hid th h H) (hid th' h' H')) : ∀ {fs : List (Str × PyData)} {vs : List (Str × V)}, RelFs K mg th h H (fs.map fun p => (p.1, W.d p.2)) vs → RelFs K mg th' h' H' (fs.map fun p => (p.1, W.d p.2)) vs
  | [], _, r => r
  | _ :: _, _, ⟨v, r, e, a, b⟩ => ⟨v, r, e, m.fz a, relfsD_le m b⟩
theorem RelX.le {c : Str} {fs : List (Str × PyData)} {cls : Value} {dx : Option Addr} (m : Le (hid th h H) (hid th' h' H')) (r : RelX K mg th h H c fs cls dx) : RelX K mg th' h' H' c fs cls dx := by
  obtain ⟨C, a, b, q⟩ := r
  refine ⟨C, a, b, q.imp id ?_⟩
  rintro ⟨d, vs, e, f, g⟩
  exact ⟨d, vs, e, m _ _ f, relfsD_le m g⟩
theorem RelSt.set {ws : WSt} {σ : L2.St} {w : W} {v : V} (r : RelSt K mg th h H ws σ) (q : RelW K mg th h H w v) (i : Nat) : RelSt K mg th h H (ws.set i (some w)) (σ.set i (some v)) := by
  refine ⟨by simp [r.len], fun j u e => ?_⟩
  by_cases hj : i = j
  · subst hj
    by_cases hl : i < ws.length
    · rw [List.getElem?_set_self hl] at e
      cases e
      exact ⟨v, List.getElem?_set_self (r.len ▸ hl), q⟩
    · rw [List.getElem?_eq_none (by simpa using Nat.le_of_not_lt hl)] at e
      cases e
  · rw [List.getElem?_set_ne hj] at e
    rw [List.getElem?_set_ne hj]
    exact r.at_ j u e

theorem RelH.trk (r : RelH K mg th h H) {a : Addr} (l : Lv th h a) : H a ≠ none := by
  rcases l with z | ⟨l, o, e, z, t⟩
  · exact r.tr a z
  have q := r.obj l o a e t
  cases o with
  | dead => cases z
  | lst ws => obtain ⟨vs, e, _⟩ := q; rw [e]; simp
  | tup ws => obtain ⟨vs, e, _⟩ := q; rw [e]; simp
  | dct kvs => obtain ⟨ks, vs, e, _⟩ := q; rw [e]; simp
  | dv kvs => obtain ⟨xs, e, _⟩ := q; rw [e]; simp
  | ins c fs => obtain ⟨C, dx, vs, _, e, _⟩ := q; rw [e]; simp
  | exo c fs => obtain ⟨C, d, e, _⟩ := q; rw [e]; simp
theorem ObjR.stay (x : Stay th h H th' h' H') {a : Addr} {o : Ob} (e : H' a = H a) (r : ObjR K mg th h H a o) : ObjR K mg th' h' H' a o := by
  cases o with
  | dead => trivial
  | lst ws => obtain ⟨vs, q, s⟩ := r; exact ⟨vs, e.trans q, s.stay x⟩
  | tup ws => obtain ⟨vs, q, s⟩ := r; exact ⟨vs, e.trans q, s.stay x⟩
  | dct kvs => obtain ⟨ks, vs, q, m, s⟩ := r; exact ⟨ks, vs, e.trans q, m, s.stay x⟩
  | dv kvs => obtain ⟨xs, q, ⟨m, ks⟩, s⟩ := r; exact ⟨xs, e.trans q, ⟨m, fun y my => x.le.sqT (ks y my)⟩, s.stay x⟩
  | ins c fs => obtain ⟨C, dx, vs, m, q, s⟩ := r; exact ⟨C, dx, vs, m, e.trans q, s.stay x⟩
  | exo c fs => obtain ⟨C, d, q, s⟩ := r; exact ⟨C, d, e.trans q, s.stay x⟩
theorem RelH.grow (r : RelH K mg th h H) (m : Le H H') : Stay th h H th h H' ∧ RelH K mg th h H' := by
  have s : Stay th h H th h H' := ⟨Nat.le_refl _, fun _ _ e => e, fun a o e _ => m a o e, fun a z => (by
    cases q : H a with
    | none => rfl
    | some u => rw [m a u q] at z; cases z), fun _ e => .inl e, fun _ e => .inl e, fun _ z => z⟩
  have up : ∀ {a : Addr}, H a ≠ none → H' a ≠ none := fun {a} n => by
    cases q : H a with
    | none => exact absurd q n
    | some u => rw [m a u q]; simp
  refine ⟨s, r.len, r.inj, fun l o a e t => ?_, fun a z => up (r.tr a z), r.off⟩
  cases z : o.live with
  | false => cases o <;> first | trivial | cases z
  | true =>
    have n := r.trk (.inr ⟨l, o, e, z, t⟩)
    refine (r.obj l o a e t).stay s ?_
    cases q : H a with
    | none => exact absurd q n
    | some u => exact m a u q
theorem Le.upd {p : Addr} {o : HO} (n : H p = none) : Le H (L2.upd H p o) := fun b u e => by
  rw [upd_ne (ne_of_none e n)]; exact e
theorem RelH.fresh (r : RelH K mg th h H) {p : Addr} {o : HO} (n : H p = none) : Stay th h H th h (L2.upd H p o) ∧ RelH K mg th h (L2.upd H p o) ∧ hid th h (L2.upd H p o) p = some o := by
  obtain ⟨s, q⟩ := r.grow (H' := L2.upd H p o) (Le.upd n)
  exact ⟨s, q, hid_some.mpr ⟨fun z => r.trk z n, upd_same⟩⟩
end

section
variable (K : PySem.W.Frag) (mg : MG)
def Goes {α : Type} (th : Th) (h : WH) (H : Hp) (r : R α) (ok : α → Th → WH → Hp → Prop) (bad : Str → List (Str × PyData) → Th → WH → Hp → Prop) : Prop :=
  match r with
  | none => False
  | some (.ok a, h') => ∀ th' H', Stay th h H th' h' H' → RelH K mg th' h' H' → ok a th' h' H'
  | some (.exc c fs, h') => ∀ th' H', Stay th h H th' h' H' → RelH K mg th' h' H' → bad c fs th' h' H'
end
def bindM {α β : Type} (r : R α) (k : α → M β) : R β :=
  match r with
  | none => none
  | some (.ok a, h') => k a h'
  | some (.exc c fs, h') => some (.exc c fs, h')
def retM {α : Type} (a : α) : M α := fun h => some (.ok a, h)
@[simp] theorem bindM_ok {α β : Type} (a : α) (h : WH) (k : α → M β) : bindM (some (.ok a, h)) k = k a h := rfl
@[simp] theorem bindM_none {α β : Type} (k : α → M β) : bindM none k = none := rfl
@[simp] theorem bindM_exc {α β : Type} (c : Str) (fs : List (Str × PyData)) (h : WH) (k : α → M β) : bindM (some (.exc c fs, h)) k = some (.exc c fs, h) := rfl
section
variable {K : PySem.W.Frag} {mg : MG} {th th' : Th} {h h' : WH} {H H' : Hp} {α β : Type}
theorem Goes.imp {r : R α} {ok ok' : α → Th → WH → Hp → Prop} {bad bad' : Str → List (Str × PyData) → Th → WH → Hp → Prop} (g : Goes K mg th h H r ok bad)
    (a : ∀ x th' h' H', Stay th h H th' h' H' → RelH K mg th' h' H' → ok x th' h' H' → ok' x th' h' H') (b : ∀ c fs th' h' H', Stay th h H th' h' H' → RelH K mg th' h' H' → bad c fs th' h' H' → bad' c fs th' h' H') : Goes K mg th h H r ok' bad' := by
  unfold Goes at *
  split at g
  · exact g
  · exact fun th' H' s q => a _ _ _ _ s q (g th' H' s q)
  · exact fun th' H' s q => b _ _ _ _ _ s q (g th' H' s q)
theorem Goes.bind {r : R α} {k : α → M β} {ok : β → Th → WH → Hp → Prop} {bad : Str → List (Str × PyData) → Th → WH → Hp → Prop} (g : Goes K mg th h H (bindM r k) ok bad) :
    Goes K mg th h H r (fun a th' h' H' => Goes K mg th' h' H' (k a h') ok bad) bad := by
  match r with
  | none => exact g
  | some (.exc c fs, h') => exact g
  | some (.ok a, h') =>
    intro th' H' s q
    have g : Goes K mg th h H (k a h') ok bad := g
    show Goes K mg th' h' H' (k a h') ok bad
    unfold Goes at *
    split at g
    · exact g
    · exact fun th2 H2 s2 q2 => g th2 H2 (s.trans s2) q2
    · exact fun th2 H2 s2 q2 => g th2 H2 (s.trans s2) q2
theorem Goes.ret {a : α} {ok : α → Th → WH → Hp → Prop} {bad : Str → List (Str × PyData) → Th → WH → Hp → Prop} (g : Goes K mg th h H (retM a h) ok bad) (q : RelH K mg th h H) : ok a th h H := g th H .refl q
end

abbrev Den := WSt → M W
abbrev Bad := Str → List (Str × PyData) → Th → WH → Hp → Prop
def badW (K : PySem.W.Frag) (mg : MG) (Wx : WX) (σ : L2.St) : Bad := fun c fs th h H => ∀ cls dx, RelX K mg th h H c fs cls dx → Wx cls dx σ H
def okV (K : PySem.W.Frag) (mg : MG) (Q : VK) : W → Th → WH → Hp → Prop := fun w th h H => ∀ v, RelW K mg th h H w v → Q v H
def rdE (K : PySem.W.Frag) (mg : MG) (Wx : WX) (d : Den) : TE := fun σ H Q =>
  ∃ th h ws, RelSt K mg th h H ws σ ∧ RelH K mg th h H ∧ Goes K mg th h H (d ws h) (okV K mg Q) (badW K mg Wx σ)
def SndE (X : Cx) (e : Expr) (d : Den) : Prop := ∀ Wx, Takes X Wx → PE X e (rdE X.K (X.mg, X.w) Wx d)
theorem pe_imp {X : Cx} {e : Expr} {t t' : TE} (p : PE X e t) (h : ∀ σ H Q, t' σ H Q → t σ H Q) : PE X e t' := ⟨fun pins s σ H Q I q => p.run pins s σ H Q I (h σ H Q q)⟩
abbrev DenT := WSt → M Bool
def rdT (K : PySem.W.Frag) (mg : MG) (Wx : WX) (d : DenT) : TT := fun σ H Q =>
  ∃ th h ws, RelSt K mg th h H ws σ ∧ RelH K mg th h H ∧ Goes K mg th h H (d ws h) (fun b _ _ H => Q b H) (badW K mg Wx σ)
def SndT (X : Cx) (e : Expr) (d : DenT) : Prop := ∀ Wx, Takes X Wx → PT X e (rdT X.K (X.mg, X.w) Wx d)
abbrev DenA := WSt → M (List W)
def rdA (K : PySem.W.Frag) (mg : MG) (Wx : WX) (d : DenA) : TA := fun σ H Q =>
  ∃ th h ws, RelSt K mg th h H ws σ ∧ RelH K mg th h H ∧ Goes K mg th h H (d ws h) (fun xs th h H => ∀ vs, RelWs K mg th h H xs vs → Q vs H) (badW K mg Wx σ)
def SndA (X : Cx) (es : List Expr) (d : DenA) : Prop := ∀ Wx, Takes X Wx → PA X es (rdA X.K (X.mg, X.w) Wx d)

end L3

namespace L3
open PySem PySem.Spec PyProof.Rows L2

def optM {α : Type} (o : Option α) : M α := fun h => match o with
  | some a => some (.ok a, h)
  | none => none
@[simp] theorem optM_some {α : Type} (a : α) (h : WH) : optM (some a) h = some (.ok a, h) := rfl
@[simp] theorem optM_none {α : Type} (h : WH) : optM (none : Option α) h = none := rfl
section
variable {K : PySem.W.Frag} {mg : MG} {th : Th} {h : WH} {H : Hp} {α : Type}
theorem Goes.opt {o : Option α} {ok : α → Th → WH → Hp → Prop} {bad : Bad} (g : Goes K mg th h H (optM o h) ok bad) : ∃ a, o = some a ∧ ∀ th' H', Stay th h H th' h H' → RelH K mg th' h H' → ok a th' h H' := by
  cases o with
  | none => exact g.elim
  | some a => exact ⟨a, rfl, g⟩
end

def eVar (i : Nat) : Den := fun ws => optM (ws[i]?.join)
def eC (w : W) : Den := fun _ => optM (some w)
section
variable {X : Cx} {pos : Pos}
theorem sn_var (i : Nat) {x : Str} (hN : X.N[i]? = some x) (hv : Vis X.env.scope x) (hd : (x == ("__debug__" : Str)) = false := by decide) (hcd : (x == ("__classdict__" : Str)) = false := by decide) : SndE X (.Name x pos) (eVar i) := by
  refine fun Wx tk => pe_imp (pe_var hN hv hd hcd) fun σ H Q q => ?_
  obtain ⟨th, h, ws, rs, rh, g⟩ := q
  obtain ⟨w, e, g⟩ := Goes.opt g
  have e : ws[i]? = some (some w) := by
    cases q : ws[i]? with
    | none => rw [q] at e; cases e
    | some o => rw [q] at e; rw [show o = some w from e]
  obtain ⟨v, e2, r⟩ := rs.at_ i w e
  exact ⟨v, e2, g th H .refl rh v r⟩
theorem sn_c {e : Expr} {v : V} {w : W} (p : PE X e (tC v)) (r : ∀ th h H, RelW X.K (X.mg, X.w) th h H w v) : SndE X e (eC w) := by
  refine fun Wx tk => pe_imp p fun σ H Q q => ?_
  obtain ⟨th, h, ws, rs, rh, g⟩ := q
  obtain ⟨a, e, g⟩ := Goes.opt g
  cases e
  exact g th H .refl rh v (r th h H)
theorem sn_int {i : Int} {j : Nat} : SndE X (.Constant (.int i) j pos) (eC (.d (.int i))) := sn_c pe_int fun _ _ _ => .int i
theorem sn_bl {b : Bool} {j : Nat} : SndE X (.Constant (.bool b) j pos) (eC (.d (.bool b))) := sn_c pe_bl fun _ _ _ => .bl b
theorem sn_str {x : Str} {j : Nat} : SndE X (.Constant (.str x) j pos) (eC (.d (.str x))) := sn_c pe_str fun _ _ _ => .str x
end

abbrev Op2 := W → W → WH → Option W
def eOp (g : Op2) (da db : Den) : Den := fun ws h => bindM (da ws h) fun x h1 => bindM (db ws h1) fun y h2 => optM (g x y h2) h2
def eUn (g : W → WH → Option W) (da : Den) : Den := fun ws h => bindM (da ws h) fun x h1 => optM (g x h1) h1
section
variable (K : PySem.W.Frag) (mg : MG)
def Ans (th : Th) (h : WH) (H : Hp) (w : W) (Q : VK) : Prop := ∀ H' v, Le H H' → RelW K mg th h H' w v → Q v H'
def rdOp2 (g : Op2) : R2 := fun x y H Q => ∃ th h w1 w2 w, RelW K mg th h H w1 x ∧ RelW K mg th h H w2 y ∧ RelH K mg th h H ∧ g w1 w2 h = some w ∧ Ans K mg th h H w Q
def rdArgs (g : List W → WH → Option W) : List V → Hp → VK → Prop := fun xs H Q => ∃ th h ws w, RelWs K mg th h H ws xs ∧ RelH K mg th h H ∧ g ws h = some w ∧ Ans K mg th h H w Q
end
def OpS2 (X : Cx) (f : Value → Value → Sem Value) (g : Op2) : Prop := OpR X f (rdOp2 X.K (X.mg, X.w) g)
def CallS (X : Cx) (f : Value) (g : List W → WH → Option W) : Prop := CallR X f (rdArgs X.K (X.mg, X.w) g)
section
variable {K : PySem.W.Frag} {mg : MG} {th : Th} {h : WH} {H : Hp}
theorem ans_of {w : W} {Q : VK} (rh : RelH K mg th h H) (g : ∀ th' H', Stay th h H th' h H' → RelH K mg th' h H' → okV K mg Q w th' h H') : Ans K mg th h H w Q := fun H' v m r => by
  obtain ⟨s, q⟩ := rh.grow m
  exact g th H' s q v r
end
section
variable {X : Cx} {pos : Pos} {a b : Expr} {da db : Den}
theorem rd_bin {Wx : WX} {g : Op2} {r : R2} (hr : ∀ x y H Q, rdOp2 X.K (X.mg, X.w) g x y H Q → r x y H Q) (σ : L2.St) (H : Hp) (Q : VK) (q : rdE X.K (X.mg, X.w) Wx (eOp g da db) σ H Q) : tOp r (rdE X.K (X.mg, X.w) Wx da) (rdE X.K (X.mg, X.w) Wx db) σ H Q := by
  obtain ⟨th, h, ws, rs, rh, g⟩ := q
  refine ⟨th, h, ws, rs, rh, (Goes.bind g).imp (fun x th1 h1 H1 s1 r1 g1 v rv => ?_) fun _ _ _ _ _ _ _ z => z⟩
  refine ⟨th1, h1, ws, rs.stay s1, r1, (Goes.bind g1).imp (fun y th2 h2 H2 s2 r2 g2 u ru => ?_) fun _ _ _ _ _ _ _ z => z⟩
  obtain ⟨w, e, g3⟩ := Goes.opt g2
  exact hr _ _ _ _ ⟨th2, h2, x, y, w, rv.stay s2, ru, r2, e, ans_of r2 g3⟩
theorem sn_op {op : Operator} {g : Op2} (ho : OpS2 X (binaryOp op) g) (ha : SndE X a da) (hb : SndE X b db) : SndE X (.BinOp a op b pos) (eOp g da db) := fun Wx tk =>
  pe_imp (pe_op ho (ha Wx tk) (hb Wx tk)) (rd_bin fun _ _ _ _ z => z)
theorem sn_cmp {op : CmpOp} {g : Op2} (ho : OpS2 X (compareOp op) g) (ha : SndE X a da) (hb : SndE X b db) (hm : behindInMarks op b = false) : SndE X (.Compare a [op] [b] pos) (eOp g da db) := fun Wx tk =>
  pe_imp (pe_cmpR ho (ha Wx tk) (hb Wx tk) hm) (rd_bin fun _ _ _ _ z => z)
end

def truD : PyData → Option Bool
  | .none => some false
  | .bool b => some b
  | .int i => some (i != 0)
  | .str x => if x.length ≤ sizeLine then some (x.length != 0) else none
  | .list xs => some (!xs.isEmpty)
  | .tuple xs => some (!xs.isEmpty)
  | .dict _ => none
def tru (h : WH) : W → Option Bool
  | .d x => truD x
  | .fz xs => some (!xs.isEmpty)
  | .loc l => match h[l]? with
    | some (.lst ws) => some (!ws.isEmpty)
    | some (.tup ws) => some (!ws.isEmpty)
    | _ => none
  | _ => none
theorem fzs_empty {K : PySem.W.Frag} {H : Hp} {vs : List V} {xs : List PyData} (r : FzAll K H vs xs) : vs.isEmpty = xs.isEmpty := by cases r <;> rfl
theorem dps_empty {K : PySem.W.Frag} {H : Hp} {vs : List V} {xs : List PyData} (r : DpAll K H vs xs) : vs.isEmpty = xs.isEmpty := by cases r <;> rfl
theorem relws_empty {K : PySem.W.Frag} {mg : MG} {th : Th} {h : WH} {H : Hp} {ws : List W} {vs : List V} (r : RelWs K mg th h H ws vs) : vs.isEmpty = ws.isEmpty := by
  cases ws with
  | nil => cases r; rfl
  | cons w ws => obtain ⟨v, r, rfl, _⟩ := r; rfl
section
variable {K : PySem.W.Frag} {mg : MG} {th : Th} {h : WH} {H : Hp}
theorem tru_rel {w : W} {v : V} {k : Bool} (r : RelW K mg th h H w v) (rh : RelH K mg th h H) (e : tru h w = some k) : TruV K v H k := by
  cases w with
  | d x =>
    cases x with
    | none => cases r; cases e; exact rfl
    | bool b => cases r; cases e; exact rfl
    | int i => cases r; cases e; exact rfl
    | str x =>
      cases r
      have e : (if x.length ≤ sizeLine then some (x.length != 0) else none) = some k := e
      split at e
      · rename_i hz
        cases e
        refine ⟨hz, ?_⟩
        cases q : x.length with
        | zero => rfl
        | succ n => simp; omega
      · cases e
    | list xs =>
      cases r with
      | lst s a => cases e; exact .inl ⟨_, .inl (.inl (hid_le s)), by rw [fzs_empty a]⟩
    | tuple xs =>
      cases r with
      | tup s a => cases e; exact .inr (.inl ⟨_, hid_Le.sqT s, by rw [fzs_empty a]⟩)
    | dict xs =>
      cases e
  | fz xs =>
    cases r with
    | lst s a => cases e; exact .inl ⟨_, hid_Le.sqL s, by rw [dps_empty a]⟩
  | loc l =>
    obtain ⟨a, rfl, t, _⟩ := r
    have e : (match h[l]? with | some (.lst ws) => some (!ws.isEmpty) | some (.tup ws) => some (!ws.isEmpty) | _ => none) = some k := e
    split at e
    · rename_i ws q
      cases e
      obtain ⟨vs, z, rr⟩ := rh.obj l _ a q t
      exact .inl ⟨vs, .inl (.inl z), by rw [relws_empty rr]⟩
    · rename_i ws q
      cases e
      obtain ⟨vs, z, rr⟩ := rh.obj l _ a q t
      exact .inr (.inl ⟨vs, .inl (.inl z), by rw [relws_empty rr]⟩)
    · cases e
  | ty n => cases e
  | cl c => cases e
end

def tOf (d : Den) : DenT := fun ws h => bindM (d ws h) fun w h1 => optM (tru h1 w) h1
def tNotM (d : DenT) : DenT := fun ws h => bindM (d ws h) fun b h1 => some (.ok (!b), h1)
def tAndM (da db : DenT) : DenT := fun ws h => bindM (da ws h) fun b h1 => if b then db ws h1 else some (.ok false, h1)
def tOrM (da db : DenT) : DenT := fun ws h => bindM (da ws h) fun b h1 => if b then some (.ok true, h1) else db ws h1
def SndW (X : Cx) (e : Expr) (d : DenT) : Prop := ∀ Wx, Takes X Wx → PW X e (rdT X.K (X.mg, X.w) Wx d)
theorem pt_imp {X : Cx} {e : Expr} {t t' : TT} (p : PT X e t) (h : ∀ σ H Q, t' σ H Q → t σ H Q) : PT X e t' := ⟨fun pins s σ H Q I q => p.run pins s σ H Q I (h σ H Q q)⟩
theorem pw_imp {X : Cx} {e : Expr} {t t' : TT} (p : PW X e t) (h : ∀ σ H Q, t' σ H Q → t σ H Q) : PW X e t' := ⟨fun wh pins s σ H Q I q => p.run wh pins s σ H Q I (h σ H Q q)⟩
section
variable {X : Cx} {pos : Pos} {a b : Expr} {da db : DenT} {d : Den} {rest : List Expr}
theorem st_and1 (ha : SndT X a da) : SndW X (.BoolOp .And [a] pos) da := fun Wx tk => pw_and1 (ha Wx tk)
theorem st_or1 (ha : SndT X a da) : SndW X (.BoolOp .Or [a] pos) da := fun Wx tk => pw_or1 (ha Wx tk)
theorem st_and (ha : SndT X a da) (hb : SndW X (.BoolOp .And (b :: rest) pos) db) : SndW X (.BoolOp .And (a :: b :: rest) pos) (tAndM da db) := by
  refine fun Wx tk => pw_imp (pw_and (ha Wx tk) (hb Wx tk)) fun σ H Q q => ?_
  obtain ⟨th, h, ws, rs, rh, g⟩ := q
  refine ⟨th, h, ws, rs, rh, (Goes.bind g).imp (fun x th1 h1 H1 s1 r1 g1 => ?_) fun _ _ _ _ _ _ _ z => z⟩
  cases x with
  | true => exact iteT ⟨th1, h1, ws, rs.stay s1, r1, g1⟩
  | false => exact iteF (g1 th1 H1 .refl r1)
theorem st_or (ha : SndT X a da) (hb : SndW X (.BoolOp .Or (b :: rest) pos) db) : SndW X (.BoolOp .Or (a :: b :: rest) pos) (tOrM da db) := by
  refine fun Wx tk => pw_imp (pw_or (ha Wx tk) (hb Wx tk)) fun σ H Q q => ?_
  obtain ⟨th, h, ws, rs, rh, g⟩ := q
  refine ⟨th, h, ws, rs, rh, (Goes.bind g).imp (fun x th1 h1 H1 s1 r1 g1 => ?_) fun _ _ _ _ _ _ _ z => z⟩
  cases x with
  | true => exact iteT (g1 th1 H1 .refl r1)
  | false => exact iteF ⟨th1, h1, ws, rs.stay s1, r1, g1⟩
theorem SndW.t (h : SndW X a da) : SndT X a da := fun Wx tk => (h Wx tk).pt
end

def eAnd (da db : Den) : Den := fun ws h => bindM (da ws h) fun x h1 => bindM (optM (tru h1 x) h1) fun b h2 => if b then db ws h2 else some (.ok x, h2)
def eOr (da db : Den) : Den := fun ws h => bindM (da ws h) fun x h1 => bindM (optM (tru h1 x) h1) fun b h2 => if b then some (.ok x, h2) else db ws h2
def eNot (da : Den) : Den := fun ws h => bindM (da ws h) fun x h1 => bindM (optM (tru h1 x) h1) fun b h2 => some (.ok (.d (.bool (!b))), h2)
def eIf (dc : DenT) (da db : Den) : Den := fun ws h => bindM (dc ws h) fun b h1 => if b then da ws h1 else db ws h1
section
variable {X : Cx} {pos : Pos} {a b c : Expr} {da db : Den} {dc : DenT} {rest : List Expr}
theorem sn_one {op : BoolOp} (ha : SndE X a da) : SndE X (.BoolOp op [a] pos) da := fun Wx tk => pe_one (ha Wx tk)
theorem sn_and (ha : SndE X a da) (hb : SndE X (.BoolOp .And (b :: rest) pos) db) : SndE X (.BoolOp .And (a :: b :: rest) pos) (eAnd da db) := by
  refine fun Wx tk => pe_imp (pe_andT (ha Wx tk) (hb Wx tk)) fun σ H Q q => ?_
  obtain ⟨th, h, ws, rs, rh, g⟩ := q
  refine ⟨th, h, ws, rs, rh, (Goes.bind g).imp (fun x th1 h1 H1 s1 r1 g1 v rv => ?_) fun _ _ _ _ _ _ _ z => z⟩
  obtain ⟨k, e, g3⟩ := Goes.opt (Goes.bind g1)
  have g3 := g3 th1 H1 .refl r1
  refine ⟨k, tru_rel rv r1 e, ?_⟩
  cases k with
  | true => exact iteT ⟨th1, h1, ws, rs.stay s1, r1, g3⟩
  | false => exact iteF (g3 th1 H1 .refl r1 v rv)
theorem sn_if (hc : SndT X c dc) (ha : SndE X a da) (hb : SndE X b db) : SndE X (.IfExp c a b pos) (eIf dc da db) := by
  refine fun Wx tk => pe_imp (pe_ifExp (hc Wx tk) (ha Wx tk) (hb Wx tk)) fun σ H Q q => ?_
  obtain ⟨th, h, ws, rs, rh, g⟩ := q
  refine ⟨th, h, ws, rs, rh, (Goes.bind g).imp (fun x th1 h1 H1 s1 r1 g1 => ?_) fun _ _ _ _ _ _ _ z => z⟩
  cases x with
  | true => exact iteT ⟨th1, h1, ws, rs.stay s1, r1, g1⟩
  | false => exact iteF ⟨th1, h1, ws, rs.stay s1, r1, g1⟩
end

def aNil : DenA := fun _ => optM (some [])
def aCons (d : Den) (r : DenA) : DenA := fun ws h => bindM (d ws h) fun x h1 => bindM (r ws h1) fun xs h2 => some (.ok (x :: xs), h2)
section
variable {X : Cx} {pos : Pos} {a b : Expr} {es : List Expr} {da : Den} {dr : DenA}
theorem pa_imp {t t' : TA} (p : PA X es t) (h : ∀ σ H Q, t' σ H Q → t σ H Q) : PA X es t' := ⟨fun pos pins s σ H Q I q => p.run pos pins s σ H Q I (h σ H Q q)⟩
theorem sa_nil : SndA X [] aNil := by
  refine fun Wx tk => pa_imp pa_nil fun σ H Q q => ?_
  obtain ⟨th, h, ws, rs, rh, g⟩ := q
  obtain ⟨_, e, g⟩ := Goes.opt g
  cases e
  exact g th H .refl rh [] rfl
theorem ta_cons {Wx : WX} (σ : L2.St) (H : Hp) (Q : List V → Hp → Prop) (q : rdA X.K (X.mg, X.w) Wx (aCons da dr) σ H Q) : tCons (rdE X.K (X.mg, X.w) Wx da) (rdA X.K (X.mg, X.w) Wx dr) σ H Q := by
  obtain ⟨th, h, ws, rs, rh, g⟩ := q
  refine ⟨th, h, ws, rs, rh, (Goes.bind g).imp (fun x th1 h1 H1 s1 r1 g1 v rv => ?_) fun _ _ _ _ _ _ _ z => z⟩
  refine ⟨th1, h1, ws, rs.stay s1, r1, (Goes.bind g1).imp (fun xs th2 h2 H2 s2 r2 g2 vs rvs => ?_) fun _ _ _ _ _ _ _ z => z⟩
  exact g2 th2 H2 .refl r2 (v :: vs) ⟨v, vs, rfl, rv.stay s2, rvs⟩
theorem sa_cons (ha : SndE X a da) (hr : SndA X es dr) (hs : starEach (a :: es) X.env = (false, eval a X.env) :: starEach es X.env := by rfl) : SndA X (a :: es) (aCons da dr) := fun Wx tk =>
  pa_imp (pa_cons (ha Wx tk) (hr Wx tk) hs) ta_cons
end
def dats : List W → Option (List PyData)
  | [] => some []
  | .d x :: r => (dats r).map (x :: ·)
  | _ :: _ => none
theorem dats_map : ∀ xs : List PyData, dats (xs.map W.d) = some xs
  | [] => rfl
  | x :: xs => by
    show (dats (xs.map W.d)).map (x :: ·) = _
    rw [dats_map xs]; rfl
theorem dats_eq : ∀ {ws : List W} {xs : List PyData}, dats ws = some xs → ws = xs.map W.d
  | [], xs, e => by cases e; rfl
  | .d x :: r, xs, e => by
    have e : (dats r).map (x :: ·) = some xs := e
    cases q : dats r with
    | none => rw [q] at e; cases e
    | some ys => rw [q] at e; cases e; rw [dats_eq q]; rfl
  | .loc _ :: _, _, e => by cases e
  | .ty _ :: _, _, e => by cases e
  | .cl _ :: _, _, e => by cases e
  | .fz _ :: _, _, e => by cases e
section
variable {K : PySem.W.Frag} {mg : MG} {th : Th} {h : WH} {H : Hp}
theorem dats_rel : ∀ {xs : List PyData} {vs : List V}, RelWs K mg th h H (xs.map W.d) vs → FzAll K (hid th h H) vs xs
  | [], _, r => by cases r; exact .nil
  | x :: xs, _, ⟨v, r, e, a, b⟩ => by subst e; exact .cons a (dats_rel b)
theorem rel_dats : ∀ {xs : List PyData} {vs : List V}, FzAll K (hid th h H) vs xs → RelWs K mg th h H (xs.map W.d) vs
  | [], _, .nil => rfl
  | x :: xs, _, .cons a b => ⟨_, _, rfl, a, rel_dats b⟩
theorem fzs_length {K : PySem.W.Frag} {H : Hp} : ∀ {vs : List V} {xs : List PyData}, FzAll K H vs xs → vs.length = xs.length
  | _, _, .nil => rfl
  | _, _, .cons _ r => congrArg Nat.succ (fzs_length r)
theorem relws_length : ∀ {ws : List W} {vs : List V}, RelWs K mg th h H ws vs → vs.length = ws.length
  | [], _, r => by cases r; rfl
  | _ :: _, _, ⟨v, r, e, _, b⟩ => by subst e; exact congrArg Nat.succ (relws_length b)
end
def eLst (as : DenA) : Den := fun ws h => bindM (as ws h) fun xs h1 => if xs.length ≤ sizeLine then optM ((dats xs).map fun ds => W.d (.list ds)) h1 else none
def eTup (as : DenA) : Den := fun ws h => bindM (as ws h) fun xs h1 => if xs.length ≤ sizeLine then optM ((dats xs).map fun ds => W.d (.tuple ds)) h1 else none
def newL (ws : List W) : M W := fun h => some (.ok (.loc h.length), h ++ [.lst ws])
def eNew (as : DenA) : Den := fun ws h => bindM (as ws h) fun xs h1 => if xs.length ≤ sizeLine then newL xs h1 else none
section
variable {K : PySem.W.Frag} {mg : MG} {th : Th} {h : WH} {H : Hp}
theorem RelH.alloc (rh : RelH K mg th h H) {p : Addr} (n : H p = none) {o : Ob} {u : HO} (hu : ∀ th' h', Stay th h H th' h' (L2.upd H p u) → ObjR K mg th' h' (L2.upd H p u) p o) :
    Stay th h H (th.add p) (h ++ [o]) (L2.upd H p u) ∧ RelH K mg (th.add p) (h ++ [o]) (L2.upd H p u) := by
  have hold : ∀ {l : Nat}, l < h.length → (h ++ [o])[l]? = h[l]? ∧ (th.a ++ [p])[l]? = th.a[l]? := fun {l} hl => ⟨List.getElem?_append_left hl, List.getElem?_append_left (rh.len ▸ hl)⟩
  have new : ∀ (l : Nat) (a : Addr), (th.a ++ [p])[l]? = some a → ¬ l < h.length → l = h.length ∧ a = p := fun l a t hl => by
    have : l = th.a.length := by
      have := (List.getElem?_eq_some_iff.mp t).1
      rw [List.length_append, List.length_singleton] at this
      have := rh.len; omega
    subst this
    rw [List.getElem?_append_right (Nat.le_refl _), Nat.sub_self] at t
    exact ⟨rh.len, (Option.some.inj t).symm⟩
  have pls : ∀ a, Pl (th.add p) (h ++ [o]) a → Pl th h a ∨ a = p := fun a ⟨l, ob, e, z, t⟩ => by
    have t : (th.a ++ [p])[l]? = some a := t
    by_cases hl : l < h.length
    · rw [(hold hl).1] at e; rw [(hold hl).2] at t
      exact .inl ⟨l, ob, e, z, t⟩
    · exact .inr (new l a t hl).2
  have s : Stay th h H (th.add p) (h ++ [o]) (L2.upd H p u) := by
    refine ⟨by rw [List.length_append]; omega, fun l a e => ?_, fun a ob e _ => Le.upd n a ob e, fun a z => ?_, fun a z => ?_, fun _ z => .inl z, fun _ z => z⟩
    · show (th.a ++ [p])[l]? = some a
      rw [List.getElem?_append_left (List.getElem?_eq_some_iff.mp e).1]; exact e
    · by_cases ha : a = p
      · subst ha; exact n
      · rw [upd_ne ha] at z; exact z
    · rcases pls a z with z | rfl
      · exact .inl z
      · exact .inr n
  have nhd : ¬ th.hd p := fun z => rh.tr p z n
  refine ⟨s, ?_, fun l l' ob ob' a e z e' z' t t' => ?_, fun l ob a e t => ?_, fun a z => ?_, fun l ob a e z t y => ?_⟩
  · show (th.a ++ [p]).length = _
    rw [List.length_append, List.length_append, rh.len]; rfl
  · have key : ∀ l ob, (h ++ [o])[l]? = some ob → (th.a ++ [p])[l]? = some a → l < h.length → (h[l]? = some ob ∧ th.a[l]? = some a) := fun l ob e t hl => ⟨(hold hl).1 ▸ e, (hold hl).2 ▸ t⟩
    have t : (th.a ++ [p])[l]? = some a := t
    have t' : (th.a ++ [p])[l']? = some a := t'
    by_cases hl : l < h.length <;> by_cases hl' : l' < h.length
    · exact rh.inj l l' ob ob' a (key l ob e t hl).1 z (key l' ob' e' t' hl').1 z' (key l ob e t hl).2 (key l' ob' e' t' hl').2
    · have q := (new l' a t' hl').2
      subst q
      exact absurd n (rh.trk (.inr ⟨l, ob, (key l ob e t hl).1, z, (key l ob e t hl).2⟩))
    · have q := (new l a t hl).2
      subst q
      exact absurd n (rh.trk (.inr ⟨l', ob', (key l' ob' e' t' hl').1, z', (key l' ob' e' t' hl').2⟩))
    · rw [(new l a t hl).1, (new l' a t' hl').1]
  · have t2 : (th.a ++ [p])[l]? = some a := t
    clear t
    by_cases hl : l < h.length
    · rw [(hold hl).1] at e; rw [(hold hl).2] at t2
      cases z : ob.live with
      | false => cases ob <;> first | trivial | cases z
      | true =>
        have na : a ≠ p := fun q => by subst q; exact rh.trk (.inr ⟨l, ob, e, z, t2⟩) n
        exact (rh.obj l ob a e t2).stay s (upd_ne na)
    · obtain ⟨e1, rfl⟩ := new l a t2 hl
      subst e1
      rw [List.getElem?_append_right (Nat.le_refl _), Nat.sub_self] at e
      cases e
      exact hu _ _ s
  · show L2.upd H p u a ≠ none
    by_cases ha : a = p
    · subst ha; rw [upd_same]; simp
    · rw [upd_ne ha]; exact rh.tr a z
  · have t2 : (th.a ++ [p])[l]? = some a := t
    clear t
    by_cases hl : l < h.length
    · rw [(hold hl).1] at e; rw [(hold hl).2] at t2
      exact rh.off l ob a e z t2 y
    · obtain ⟨_, rfl⟩ := new l a t2 hl
      exact nhd y
theorem RelH.place (rh : RelH K mg th h H) {p : Addr} (n : H p = none) {ws : List W} {vs : List V} (r : RelWs K mg th h H ws vs) :
    Stay th h H (th.add p) (h ++ [.lst ws]) (L2.upd H p (.lst vs)) ∧ RelH K mg (th.add p) (h ++ [.lst ws]) (L2.upd H p (.lst vs)) ∧ RelW K mg (th.add p) (h ++ [.lst ws]) (L2.upd H p (.lst vs)) (.loc h.length) (.ref p) := by
  obtain ⟨s, q⟩ := rh.alloc n (o := .lst ws) (u := .lst vs) fun th' h' s => ⟨vs, upd_same, r.stay s⟩
  refine ⟨s, q, p, rfl, ?_, by rw [List.length_append, List.length_singleton]; omega⟩
  show (th.a ++ [p])[h.length]? = some p
  rw [← rh.len, List.getElem?_append_right (Nat.le_refl _), Nat.sub_self]; rfl
end
section
variable {X : Cx} {pos : Pos} {es : List Expr} {dr : DenA}
theorem sn_lst (ha : SndA X es dr) : SndE X (.List es pos) (eLst dr) := by
  refine fun Wx tk => pe_imp (pe_lst (ha Wx tk)) fun σ H Q q => ?_
  obtain ⟨th, h, ws, rs, rh, g⟩ := q
  refine ⟨th, h, ws, rs, rh, (Goes.bind g).imp (fun xs th1 h1 H1 s1 r1 g1 vs rv => ?_) fun _ _ _ _ _ _ _ z => z⟩
  split at g1
  · rename_i hz
    obtain ⟨w, e, g3⟩ := Goes.opt g1
    refine ⟨by rw [relws_length rv]; exact hz, fun p n => ?_⟩
    cases q : dats xs with
    | none => rw [q] at e; cases e
    | some ds =>
      rw [q] at e; cases e
      have e := dats_eq q
      subst e
      obtain ⟨s2, r2, hp⟩ := r1.fresh (o := .lst vs) n
      exact g3 th1 _ s2 r2 (.ref p) (.lst hp (s2.le.fzs (dats_rel rv)))
  · exact g1.elim
theorem sn_tup {x1 : Nat} (ha : SndA X es dr) : SndE X (.Tuple es x1 pos) (eTup dr) := by
  refine fun Wx tk => pe_imp (pe_tup (ha Wx tk)) fun σ H Q q => ?_
  obtain ⟨th, h, ws, rs, rh, g⟩ := q
  refine ⟨th, h, ws, rs, rh, (Goes.bind g).imp (fun xs th1 h1 H1 s1 r1 g1 vs rv => ?_) fun _ _ _ _ _ _ _ z => z⟩
  split at g1
  · rename_i hz
    obtain ⟨w, e, g3⟩ := Goes.opt g1
    refine ⟨by rw [relws_length rv]; exact hz, fun p n => ?_⟩
    cases q : dats xs with
    | none => rw [q] at e; cases e
    | some ds =>
      rw [q] at e; cases e
      have e := dats_eq q
      subst e
      obtain ⟨s2, r2, hp⟩ := r1.fresh (o := .tup vs) n
      exact g3 th1 _ s2 r2 (.ref p) (.tup (.inl (.inl hp)) (s2.le.fzs (dats_rel rv)))
  · exact g1.elim
theorem sn_new (ha : SndA X es dr) : SndE X (.List es pos) (eNew dr) := by
  refine fun Wx tk => pe_imp (pe_lst (ha Wx tk)) fun σ H Q q => ?_
  obtain ⟨th, h, ws, rs, rh, g⟩ := q
  refine ⟨th, h, ws, rs, rh, (Goes.bind g).imp (fun xs th1 h1 H1 s1 r1 g1 vs rv => ?_) fun _ _ _ _ _ _ _ z => z⟩
  split at g1
  · rename_i hz
    refine ⟨by rw [relws_length rv]; exact hz, fun p n => ?_⟩
    obtain ⟨s2, r2, rl⟩ := r1.place n rv
    exact g1 _ _ s2 r2 (.ref p) rl
  · exact g1.elim
end
end L3

namespace L3
open PySem PySem.Spec PyProof.Rows L2

def dat (h : WH) : W → Option PyData
  | .d x => some x
  | .fz xs => some (.list xs)
  | .loc l => match h[l]? with
    | some (.lst ws) => (dats ws).map .list
    | some (.tup ws) => (dats ws).map .tuple
    | _ => none
  | _ => none
mutual
theorem flat_of : ∀ {x : PyData}, x.canLay0 = true → flat x = true
  | .none, _ => rfl
  | .bool _, _ => rfl
  | .int _, _ => rfl
  | .str _, _ => rfl
  | .list xs, e => flats_of (xs := xs) (by unfold PyData.canLay0 at e; exact e)
  | .tuple xs, e => flats_of (xs := xs) (by unfold PyData.canLay0 at e; exact e)
  | .dict _, e => by unfold PyData.canLay0 at e; cases e
theorem flats_of : ∀ {xs : List PyData}, PyData.canLayAll0 xs = true → flats xs = true
  | [], _ => rfl
  | x :: xs, e => by
    unfold PyData.canLayAll0 at e
    rw [Bool.and_eq_true] at e
    show (flat x && flats xs) = true
    rw [flat_of e.1, flats_of e.2]; rfl
end
theorem flat_shaped {x : PyData} (e : SeqAt.shaped x = true) : flat x = true := flat_of (SeqAt.canLay_of_shaped e)
section
variable {K : PySem.W.Frag} {mg : MG} {th : Th} {h : WH} {H : Hp}
theorem dat_dp {w : W} {v : V} {x : PyData} (r : RelW K mg th h H w v) (rh : RelH K mg th h H) (e : dat h w = some x) (f : flat x = true) : Dp K H v x := by
  cases w with
  | d y => cases e; exact hid_Le.dp (r.dp f)
  | fz xs => cases e; exact hid_Le.dp r
  | loc l =>
    obtain ⟨a, rfl, t, _⟩ := r
    have e : (match h[l]? with | some (.lst ws) => (dats ws).map .list | some (.tup ws) => (dats ws).map .tuple | _ => none) = some x := e
    split at e
    · rename_i ws q
      obtain ⟨vs, z, rr⟩ := rh.obj l _ a q t
      cases y : dats ws with
      | none => rw [y] at e; cases e
      | some ds =>
        rw [y] at e; cases e
        rw [dats_eq y] at rr
        exact .lst (.inl (.inl z)) (hid_Le.dps (Fz.dps (dats_rel rr) f))
    · rename_i ws q
      obtain ⟨vs, z, rr⟩ := rh.obj l _ a q t
      cases y : dats ws with
      | none => rw [y] at e; cases e
      | some ds =>
        rw [y] at e; cases e
        rw [dats_eq y] at rr
        exact .tup (.inl (.inl z)) (hid_Le.dps (Fz.dps (dats_rel rr) f))
    · cases e
  | ty n => cases e
  | cl c => cases e
theorem rel_int {i : Int} {v : V} (r : RelW K mg th h H (.d (.int i)) v) : v = .int i := by cases r; rfl
theorem rel_str {x : Str} {v : V} (r : RelW K mg th h H (.d (.str x)) v) : v = .str x := by cases r; rfl
theorem rel_bl {b : Bool} {v : V} (r : RelW K mg th h H (.d (.bool b)) v) : v = .bl b := by cases r; rfl
theorem rel_lst {xs : List PyData} {v : V} (r : RelW K mg th h H (.d (.list xs)) v) : ∃ a vs, v = .ref a ∧ hid th h H a = some (.lst vs) ∧ FzAll K (hid th h H) vs xs := by
  cases r with
  | lst s a => exact ⟨_, _, rfl, s, a⟩
theorem rel_tup {xs : List PyData} {v : V} (r : RelW K mg th h H (.d (.tuple xs)) v) : ∃ a vs, v = .ref a ∧ SqT K (hid th h H) a vs ∧ FzAll K (hid th h H) vs xs := by
  cases r with
  | tup s a => exact ⟨_, _, rfl, s, a⟩
theorem fzs_append {K : PySem.W.Frag} {H : Hp} : ∀ {vs us : List V} {xs ys : List PyData}, FzAll K H vs xs → FzAll K H us ys → FzAll K H (vs ++ us) (xs ++ ys)
  | _, _, _, _, .nil, r => r
  | _, _, _, _, .cons a b, r => .cons a (fzs_append b r)
theorem fzs_take {K : PySem.W.Frag} {H : Hp} : ∀ {vs : List V} {xs : List PyData} (n : Nat), FzAll K H vs xs → FzAll K H (vs.take n) (xs.take n)
  | _, _, 0, _ => .nil
  | _, _, _ + 1, .nil => .nil
  | _, _, n + 1, .cons a b => .cons a (fzs_take n b)
theorem fzs_drop {K : PySem.W.Frag} {H : Hp} : ∀ {vs : List V} {xs : List PyData} (n : Nat), FzAll K H vs xs → FzAll K H (vs.drop n) (xs.drop n)
  | _, _, 0, r => r
  | _, _, _ + 1, .nil => .nil
  | _, _, n + 1, .cons a b => fzs_drop n b
theorem fzs_get {K : PySem.W.Frag} {H : Hp} : ∀ {vs : List V} {xs : List PyData} {i : Nat} {x : PyData}, FzAll K H vs xs → xs[i]? = some x → ∃ v, vs[i]? = some v ∧ Fz K H v x
  | _, _, _, _, .nil, e => by simp at e
  | _, _, 0, x, .cons a b, e => by simp at e; subst e; exact ⟨_, rfl, a⟩
  | _, _, i + 1, x, .cons a b, e => by
    obtain ⟨v, q, r⟩ := fzs_get (i := i) b (by simpa using e)
    exact ⟨v, by simpa using q, r⟩
theorem relws_get : ∀ {ws : List W} {vs : List V} {i : Nat} {w : W}, RelWs K mg th h H ws vs → ws[i]? = some w → ∃ v, vs[i]? = some v ∧ RelW K mg th h H w v
  | [], _, _, _, r, e => by simp at e
  | _ :: _, _, 0, w, ⟨v, r, q, a, b⟩, e => by simp at e; subst e; subst q; exact ⟨v, rfl, a⟩
  | _ :: _, _, i + 1, w, ⟨v, r, q, a, b⟩, e => by
    subst q
    obtain ⟨u, q, r⟩ := relws_get (i := i) b (by simpa using e)
    exact ⟨u, by simpa using q, r⟩
theorem new_lst (rh : RelH K mg th h H) {p : Addr} (n : H p = none) {vs : List V} {xs : List PyData} (r : FzAll K (hid th h H) vs xs) : Le H (L2.upd H p (.lst vs)) ∧ RelW K mg th h (L2.upd H p (.lst vs)) (.d (.list xs)) (.ref p) := by
  obtain ⟨s2, r2, hp⟩ := rh.fresh (o := .lst vs) n
  exact ⟨Le.upd n, .lst hp (s2.le.fzs r)⟩
theorem new_tup (rh : RelH K mg th h H) {p : Addr} (n : H p = none) {vs : List V} {xs : List PyData} (r : FzAll K (hid th h H) vs xs) : Le H (L2.upd H p (.tup vs)) ∧ RelW K mg th h (L2.upd H p (.tup vs)) (.d (.tuple xs)) (.ref p) := by
  obtain ⟨s2, r2, hp⟩ := rh.fresh (o := .tup vs) n
  exact ⟨Le.upd n, .tup (.inl (.inl hp)) (s2.le.fzs r)⟩
end

def gInt (c : Int → Int → Bool) (f : Int → Int → Int) : Op2 := fun x y _ => match x, y with
  | .d (.int i), .d (.int j) => if c i j then some (.d (.int (f i j))) else none
  | _, _ => none
theorem opS_int {X : Cx} {fv : Value → Value → Sem Value} {C : Int → Int → Prop} {c : Int → Int → Bool} {f : Int → Int → Int} (ho : OpR X fv (rI C fun i j => .int (f i j))) (hc : ∀ i j, c i j = true → C i j) : OpS2 X fv (gInt c f) := by
  intro pins s σ H x y v u Q I rx ry q
  obtain ⟨th, h, w1, w2, w, r1, r2, rh, e, an⟩ := q
  unfold gInt at e
  split at e
  · rename_i i j
    split at e
    · rename_i hcc
      cases e
      have e1 := rel_int r1
      have e2 := rel_int r2
      subst e1; subst e2
      exact ho pins s σ H _ _ v u Q I rx ry ⟨i, j, rfl, rfl, hc i j hcc, an H _ (Le.refl H) (.int _)⟩
    · cases e
  · cases e
def gSub : Op2 := gInt (fun _ _ => true) (· - ·)
def gMod : Op2 := gInt (fun _ j => decide (j ≠ 0)) Int.fmod
def cMul (i j : Int) : Bool := decide ((-(2 ^ 64) < i ∧ i < 2 ^ 64) ∨ (-(2 ^ 64) < j ∧ j < 2 ^ 64))
def gPow : Op2 := gInt (fun i j => decide (0 ≤ j ∧ j ≤ 1000000 ∧ i.natAbs < 2 ^ 64)) (fun i j => i ^ j.toNat)
def cDiv (_ j : Int) : Bool := decide (0 < j ∧ j.natAbs.log2 < 9000)
def gFdiv : Op2 := gInt cDiv (· / ·)
section
variable {X : Cx}
theorem os_sub : OpS2 X (binaryOp .Sub) gSub := by
  refine opS_int (C := fun _ _ => True) ?_ fun _ _ _ => trivial
  intro pins s σ H x y v u Q I rx ry q
  obtain ⟨i, j, e1, e2, _, q⟩ := q
  exact op_sub pins s σ H x y v u Q I rx ry ⟨i, j, e1, e2, q⟩
theorem os_mod : OpS2 X (binaryOp .Mod) gMod := opS_int op_modN fun _ _ e => of_decide_eq_true e
theorem os_pow : OpS2 X (binaryOp .Pow) gPow := opS_int op_pow fun i j e => of_decide_eq_true (p := 0 ≤ j ∧ j ≤ 1000000 ∧ i.natAbs < 2 ^ 64) e
theorem os_fdiv : OpS2 X (binaryOp .FloorDiv) gFdiv := opS_int op_fdivW fun i j e => of_decide_eq_true (p := 0 < j ∧ j.natAbs.log2 < 9000) e
end
def gAdd : Op2 := fun x y _ => match x, y with
  | .d (.int i), .d (.int j) => some (.d (.int (i + j)))
  | .d (.str i), .d (.str j) => if i.length + j.length ≤ sizeLine then some (.d (.str (i ++ j))) else none
  | .d (.list xs), .d (.list ys) => if xs.length + ys.length ≤ sizeLine then some (.d (.list (xs ++ ys))) else none
  | .d (.tuple xs), .d (.tuple ys) => if xs.length + ys.length ≤ sizeLine then some (.d (.tuple (xs ++ ys))) else none
  | _, _ => none
theorem os_add {X : Cx} : OpS2 X (binaryOp .Add) gAdd := by
  intro pins s σ H x y v u Q I rx ry q
  obtain ⟨th, h, w1, w2, w, r1, r2, rh, e, an⟩ := q
  unfold gAdd at e
  split at e
  · cases e
    have e1 := rel_int r1; have e2 := rel_int r2
    subst e1; subst e2
    exact op_add pins s σ H _ _ v u Q I rx ry ⟨_, _, rfl, rfl, an H _ (Le.refl H) (.int _)⟩
  · split at e
    · rename_i hz
      cases e
      have e1 := rel_str r1; have e2 := rel_str r2
      subst e1; subst e2
      exact op_add_str pins s σ H _ _ v u Q I rx ry ⟨_, _, rfl, rfl, hz, an H _ (Le.refl H) (.str _)⟩
    · cases e
  · split at e
    · rename_i hz
      cases e
      obtain ⟨a, vs, rfl, sa, ra⟩ := rel_lst r1
      obtain ⟨b, us, rfl, sb, rb⟩ := rel_lst r2
      refine op_cat pins s σ H _ _ v u Q I rx ry ⟨a, b, vs, us, rfl, rfl, hid_le sa, hid_le sb, by rw [fzs_length ra, fzs_length rb]; exact hz, fun p n => ?_⟩
      obtain ⟨l, r⟩ := new_lst rh n (fzs_append ra rb)
      exact an _ _ l r
    · cases e
  · split at e
    · rename_i hz
      cases e
      obtain ⟨a, vs, rfl, sa, ra⟩ := rel_tup r1
      obtain ⟨b, us, rfl, sb, rb⟩ := rel_tup r2
      refine op_catA pins s σ H _ _ v u Q I rx ry ⟨a, b, vs, us, rfl, rfl, hid_Le.sqT sa, hid_Le.sqT sb, by rw [fzs_length ra, fzs_length rb]; exact hz, fun z => ?_, fun _ z => ?_, fun _ _ p n => ?_⟩
      · subst z; cases ra
        exact an H _ (Le.refl H) (.tup sb rb)
      · subst z; cases rb
        rw [List.append_nil] at an
        exact an H _ (Le.refl H) (.tup sa ra)
      · obtain ⟨l, r⟩ := new_tup rh n (fzs_append ra rb)
        exact an _ _ l r
    · cases e
  · cases e
theorem fzs_rep {K : PySem.W.Frag} {H : Hp} {vs : List V} {xs : List PyData} (r : FzAll K H vs xs) : ∀ n : Nat, FzAll K H (List.replicate n vs).flatten (List.replicate n xs).flatten
  | 0 => .nil
  | n + 1 => by
    rw [List.replicate_succ, List.replicate_succ, List.flatten_cons, List.flatten_cons]
    exact fzs_append r (fzs_rep r n)
def gMul : Op2 := fun x y _ => match x, y with
  | .d (.int i), .d (.int j) => if cMul i j then some (.d (.int (i * j))) else none
  | .d (.list xs), .d (.int k) => if -(2 ^ 63) ≤ k ∧ k < 2 ^ 63 ∧ xs.length * k.toNat ≤ sizeLine then some (.d (.list (List.replicate k.toNat xs).flatten)) else none
  | _, _ => none
theorem os_mul {X : Cx} : OpS2 X (binaryOp .Mult) gMul := by
  intro pins s σ H x y v u Q I rx ry q
  obtain ⟨th, h, w1, w2, w, r1, r2, rh, e, an⟩ := q
  unfold gMul at e
  split at e
  · rename_i i j
    split at e
    · rename_i hz
      cases e
      have e1 := rel_int r1; have e2 := rel_int r2
      subst e1; subst e2
      exact op_mul pins s σ H _ _ v u Q I rx ry ⟨_, _, rfl, rfl, of_decide_eq_true (p := (-(2 ^ 64) < i ∧ i < 2 ^ 64) ∨ (-(2 ^ 64) < j ∧ j < 2 ^ 64)) hz, an H _ (Le.refl H) (.int _)⟩
    · cases e
  · split at e
    · rename_i hz
      cases e
      obtain ⟨a, vs, rfl, sa, ra⟩ := rel_lst r1
      have e2 := rel_int r2
      subst e2
      refine op_rep pins s σ H _ _ v u Q I rx ry ⟨a, _, vs, rfl, rfl, hid_le sa, hz.1, hz.2.1, by rw [fzs_length ra]; exact hz.2.2, fun p n => ?_⟩
      obtain ⟨l, r⟩ := new_lst rh n (fzs_rep ra _)
      exact an _ _ l r
    · cases e
  · cases e

def gEq : Op2 := fun x y h => match dat h x, dat h y with
  | some a, some b => if SeqAt.shaped a && SeqAt.shaped b then some (.d (.bool (PyData.eqv a b))) else none
  | _, _ => none
def gNe : Op2 := fun x y h => match dat h x, dat h y with
  | some a, some b => if SeqAt.shaped a && SeqAt.shaped b then some (.d (.bool (!PyData.eqv a b))) else none
  | _, _ => none
section
variable {X : Cx}
theorem os_eq (hu : X.A.units + 64 < cLine) : OpS2 X (compareOp .Eq) gEq := by
  intro pins s σ H x y v u Q I rx ry q
  obtain ⟨th, h, w1, w2, w, r1, r2, rh, e, an⟩ := q
  unfold gEq at e
  split at e
  · rename_i a b ea eb
    split at e
    · rename_i hz
      rw [Bool.and_eq_true] at hz
      cases e
      exact op_eqD hu pins s σ H _ _ v u Q I rx ry ⟨a, b, dat_dp r1 rh ea (flat_shaped hz.1), dat_dp r2 rh eb (flat_shaped hz.2), hz.1, hz.2, an H _ (Le.refl H) (.bl _)⟩
    · cases e
  · cases e
theorem os_ne (hu : X.A.units + 64 < cLine) : OpS2 X (compareOp .NotEq) gNe := by
  intro pins s σ H x y v u Q I rx ry q
  obtain ⟨th, h, w1, w2, w, r1, r2, rh, e, an⟩ := q
  unfold gNe at e
  split at e
  · rename_i a b ea eb
    split at e
    · rename_i hz
      rw [Bool.and_eq_true] at hz
      cases e
      exact op_neD hu pins s σ H _ _ v u Q I rx ry ⟨a, b, dat_dp r1 rh ea (flat_shaped hz.1), dat_dp r2 rh eb (flat_shaped hz.2), hz.1, hz.2, an H _ (Le.refl H) (.bl _)⟩
    · cases e
  · cases e
end
def gOrd (fi : Int → Int → Bool) (fs : List Nat → List Nat → Bool) : Op2 := fun x y _ => match x, y with
  | .d (.int i), .d (.int j) => some (.d (.bool (fi i j)))
  | .d (.str i), .d (.str j) => some (.d (.bool (fs i.cps.toList j.cps.toList)))
  | _, _ => none
theorem opS_ord {X : Cx} {fv : Value → Value → Sem Value} {fi : Int → Int → Bool} {fs : List Nat → List Nat → Bool} (hi : OpR X fv (rI0 fun i j => .bl (fi i j)))
    (hs : OpR X fv (fun x y H Q => ∃ i j, x = .str i ∧ y = .str j ∧ Q (.bl (fs i.cps.toList j.cps.toList)) H)) : OpS2 X fv (gOrd fi fs) := by
  intro pins s σ H x y v u Q I rx ry q
  obtain ⟨th, h, w1, w2, w, r1, r2, rh, e, an⟩ := q
  unfold gOrd at e
  split at e
  · cases e
    have e1 := rel_int r1; have e2 := rel_int r2
    subst e1; subst e2
    exact hi pins s σ H _ _ v u Q I rx ry ⟨_, _, rfl, rfl, an H _ (Le.refl H) (.bl _)⟩
  · cases e
    have e1 := rel_str r1; have e2 := rel_str r2
    subst e1; subst e2
    exact hs pins s σ H _ _ v u Q I rx ry ⟨_, _, rfl, rfl, an H _ (Le.refl H) (.bl _)⟩
  · cases e
def gLt : Op2 := gOrd (fun i j => decide (i < j)) (fun a b => decide (a < b))
def gLe : Op2 := gOrd (fun i j => decide (i ≤ j)) (fun a b => !decide (b < a))
def gGt : Op2 := gOrd (fun i j => decide (j < i)) (fun a b => decide (b < a))
def gGe : Op2 := gOrd (fun i j => decide (j ≤ i)) (fun a b => !decide (a < b))
section
variable {X : Cx}
theorem os_lt : OpS2 X (compareOp .Lt) gLt := opS_ord op_lt op_lt_str
theorem os_gt : OpS2 X (compareOp .Gt) gGt := opS_ord op_gt op_gt_str
theorem os_ge : OpS2 X (compareOp .GtE) gGe := opS_ord op_ge op_ge_str
end
section
variable {X : Cx}
end

def inStr (x y : Str) : Bool := !(Builtin.Str.occurrences y x 0 y.length 1).isEmpty
def inD (h : WH) (x y : W) : Option Bool := match dat h y with
  | some (.str b) => match dat h x with
    | some (.str a) => some (inStr a b)
    | _ => none
  | some (.list ds) => match dat h x with
    | some a => if SeqAt.shaped a && SeqAt.shaped (.list ds) then some (ds.any fun z => PyData.eqv z a) else none
    | none => none
  | some (.tuple ds) => match dat h x with
    | some a => if SeqAt.shaped a && SeqAt.shaped (.tuple ds) then some (ds.any fun z => PyData.eqv z a) else none
    | none => none
  | _ => none
def gIn : Op2 := fun x y h => (inD h x y).map fun b => .d (.bool b)
def gNotIn : Op2 := fun x y h => (inD h x y).map fun b => .d (.bool (!b))
theorem room_tup {A : Around} {d : PyData} {ds : List PyData} (sd : SeqAt.shaped d = true) (hu : A.units + 65 < cLine) : A.units + 1 + min (PyData.depthAll ds) d.depth < cLine := by
  have h1 := SeqAt.depth_of_shaped sd
  have h2 : min (PyData.depthAll ds) d.depth ≤ d.depth := Nat.min_le_right _ _
  omega
theorem dat_str {K : PySem.W.Frag} {mg : MG} {th : Th} {h : WH} {H : Hp} {w : W} {v : V} {x : Str} (r : RelW K mg th h H w v) (e : dat h w = some (.str x)) : v = .str x := by
  cases w with
  | d y => cases e; exact rel_str r
  | fz xs => cases e
  | loc l =>
    have e : (match h[l]? with | some (.lst ws) => (dats ws).map PyData.list | some (.tup ws) => (dats ws).map PyData.tuple | _ => none) = some (PyData.str x) := e
    split at e
    · rename_i ws _
      cases q : dats ws <;> rw [q] at e <;> cases e
    · rename_i ws _
      cases q : dats ws <;> rw [q] at e <;> cases e
    · cases e
  | ty n => cases e
  | cl c => cases e
section
variable {X : Cx}
theorem os_in (hu : X.A.units + 65 < cLine) : OpS2 X (compareOp .In) gIn := by
  intro pins s σ H x y v u Q I rx ry q
  obtain ⟨th, h, w1, w2, w, r1, r2, rh, e, an⟩ := q
  unfold gIn at e
  cases qq : inD h w1 w2 with
  | none => rw [qq] at e; cases e
  | some b =>
    rw [qq] at e; cases e
    unfold inD at qq
    split at qq
    · rename_i c eb
      split at qq
      case h_2 => cases qq
      rename_i a ea
      cases qq
      have e1 := dat_str r1 ea; have e2 := dat_str r2 eb
      subst e1; subst e2
      exact op_in_str pins s σ H _ _ v u Q I rx ry ⟨a, c, rfl, rfl, an H _ (Le.refl H) (.bl _)⟩
    · rename_i ds eb
      split at qq
      case h_2 => cases qq
      rename_i a ea
      split at qq
      · rename_i hz
        rw [Bool.and_eq_true] at hz
        cases qq
        exact op_inD hu pins s σ H _ _ v u Q I rx ry ⟨a, ds, dat_dp r1 rh ea (flat_shaped hz.1), dat_dp r2 rh eb (flat_shaped hz.2), hz.1, hz.2, an H _ (Le.refl H) (.bl _)⟩
      · cases qq
    · rename_i ds eb
      split at qq
      case h_2 => cases qq
      rename_i a ea
      split at qq
      · rename_i hz
        rw [Bool.and_eq_true] at hz
        cases qq
        obtain ⟨as, q1⟩ := Dp.reads I a x v (dat_dp r1 rh ea (flat_shaped hz.1)) rx
        obtain ⟨bs, q2⟩ := Dp.reads I (.tuple ds) y u (dat_dp r2 rh eb (flat_shaped hz.2)) ry
        exact SeqAt.in_tuple_reads q2 q1 (SeqAt.canLay_of_shaped hz.2) (SeqAt.canLay_of_shaped hz.1) (room_tup hz.1 hu) ⟨.bl _, H, I, rfl, an H _ (Le.refl H) (.bl _)⟩
      · cases qq
    · cases qq
theorem notIn_str {X : Cx} : OpR X (compareOp .NotIn) (fun x y H Q => ∃ i j, x = .str i ∧ y = .str j ∧ Q (.bl (!(!(Builtin.Str.occurrences j i 0 j.length 1).isEmpty))) H) := op_notIn_str
theorem os_notIn (hu : X.A.units + 65 < cLine) : OpS2 X (compareOp .NotIn) gNotIn := by
  intro pins s σ H x y v u Q I rx ry q
  obtain ⟨th, h, w1, w2, w, r1, r2, rh, e, an⟩ := q
  unfold gNotIn at e
  cases qq : inD h w1 w2 with
  | none => rw [qq] at e; cases e
  | some b =>
    rw [qq] at e; cases e
    unfold inD at qq
    split at qq
    · rename_i c eb
      split at qq
      case h_2 => cases qq
      rename_i a ea
      cases qq
      have e1 := dat_str r1 ea; have e2 := dat_str r2 eb
      subst e1; subst e2
      exact notIn_str pins s σ H _ _ v u Q I rx ry ⟨a, c, rfl, rfl, an H _ (Le.refl H) (.bl _)⟩
    · rename_i ds eb
      split at qq
      case h_2 => cases qq
      rename_i a ea
      split at qq
      · rename_i hz
        rw [Bool.and_eq_true] at hz
        cases qq
        exact op_notInD hu pins s σ H _ _ v u Q I rx ry ⟨a, ds, dat_dp r1 rh ea (flat_shaped hz.1), dat_dp r2 rh eb (flat_shaped hz.2), hz.1, hz.2, an H _ (Le.refl H) (.bl _)⟩
      · cases qq
    · rename_i ds eb
      split at qq
      case h_2 => cases qq
      rename_i a ea
      split at qq
      · rename_i hz
        rw [Bool.and_eq_true] at hz
        cases qq
        obtain ⟨as, q1⟩ := Dp.reads I a x v (dat_dp r1 rh ea (flat_shaped hz.1)) rx
        obtain ⟨bs, q2⟩ := Dp.reads I (.tuple ds) y u (dat_dp r2 rh eb (flat_shaped hz.2)) ry
        exact SeqAt.notIn_tuple_reads q2 q1 (SeqAt.canLay_of_shaped hz.2) (SeqAt.canLay_of_shaped hz.1) (room_tup hz.1 hu) ⟨.bl _, H, I, rfl, an H _ (Le.refl H) (.bl _)⟩
      · cases qq
    · cases qq
end

def eChain (g g' : Op2) (da db dc : Den) : Den := fun ws h => bindM (da ws h) fun x h1 => bindM (db ws h1) fun y h2 => bindM (optM (g x y h2) h2) fun z h3 => match z with
  | .d (.bool k) => if k then bindM (dc ws h3) fun w h4 => optM (g' y w h4) h4 else some (.ok (.d (.bool false)), h3)
  | _ => none
def items (h : WH) : W → Option (List W)
  | .d (.list xs) => some (xs.map .d)
  | .d (.tuple xs) => some (xs.map .d)
  | .fz xs => some (xs.map .d)
  | .loc l => match h[l]? with
    | some (.lst ws) => some ws
    | some (.tup ws) => some ws
    | _ => none
  | _ => none
section
variable {K : PySem.W.Frag} {mg : MG} {th : Th} {h : WH} {H : Hp}
theorem flats_get : ∀ {xs : List PyData} {vs : List V}, DpAll K H vs xs → vs.length = xs.length
  | _, _, .nil => rfl
  | _, _, .cons _ r => congrArg Nat.succ (flats_get r)
end
def gIx : Op2 := fun x y h => match y with
  | .d (.int i) => match x with
    | .d (.str z) => if z.length ≤ sizeLine then (atI z.cps.toList i).map fun c => .d (.str ⟨#[c]⟩) else none
    | .fz _ => none
    | x => (items h x).bind fun ws => atI ws i
  | _ => none
def IxS (X : Cx) (g : Op2) : Prop := IxR X (rdOp2 X.K (X.mg, X.w) g)
theorem at_some {α : Type} {xs : List α} {i : Int} {x : α} (e : atI xs i = some x) : ∃ j, ixN xs.length i = some j ∧ xs[j]? = some x := by
  unfold atI at e
  cases q : ixN xs.length i with
  | none => rw [q] at e; cases e
  | some j => rw [q] at e; exact ⟨j, rfl, e⟩
theorem at_of {α : Type} {xs : List α} {i : Int} {x : α} {j n : Nat} (hn : xs.length = n) (h1 : ixN n i = some j) (h2 : xs[j]? = some x) : atI xs i = some x := by
  unfold atI
  rw [hn, h1]; exact h2
theorem map_get {xs : List PyData} {j : Nat} {w : W} (e : (xs.map W.d)[j]? = some w) : ∃ x, xs[j]? = some x ∧ w = .d x := by
  rw [List.getElem?_map] at e
  cases q : xs[j]? with
  | none => rw [q] at e; cases e
  | some x => rw [q] at e; cases e; exact ⟨x, rfl, rfl⟩
theorem is_ix {X : Cx} : IxS X gIx := by
  intro value slice pins s σ H x y v u Q I rx ry q
  obtain ⟨th, h, w1, w2, w, r1, r2, rh, e, an⟩ := q
  refine ix_seq value slice pins s σ H x y v u Q I rx ry ?_
  unfold gIx at e
  split at e
  · rename_i i
    have e2 := rel_int r2
    subst e2
    split at e
    · rename_i z
      split at e
      · rename_i hz
        cases q : atI z.cps.toList i with
        | none => rw [q] at e; cases e
        | some c =>
          rw [q] at e; cases e
          have e1 := rel_str r1
          subst e1
          exact .inr (.inr ⟨z, i, c, rfl, rfl, hz, q, an H _ (Le.refl H) (.str _)⟩)
      · cases e
    · cases e
    · cases q : items h w1 with
      | none => rw [q] at e; cases e
      | some ws =>
        rw [q] at e
        have e : atI ws i = some w := e
        obtain ⟨j, hj, hw⟩ := at_some e
        unfold items at q
        split at q
        · cases q
          obtain ⟨x0, hx, rfl⟩ := map_get hw
          obtain ⟨a, vs, rfl, sa, ra⟩ := rel_lst r1
          obtain ⟨v0, hv, rv⟩ := fzs_get ra hx
          rw [List.length_map] at hj
          exact .inl ⟨a, vs, i, v0, rfl, rfl, .inl (.inl (hid_le sa)), at_of (fzs_length ra) hj hv, an H _ (Le.refl H) rv⟩
        · cases q
          obtain ⟨x0, hx, rfl⟩ := map_get hw
          obtain ⟨a, vs, rfl, sa, ra⟩ := rel_tup r1
          obtain ⟨v0, hv, rv⟩ := fzs_get ra hx
          rw [List.length_map] at hj
          exact .inr (.inl ⟨a, vs, i, v0, rfl, rfl, hid_Le.sqT sa, at_of (fzs_length ra) hj hv, an H _ (Le.refl H) rv⟩)
        · rename_i n1 n2
          first | exact (n1 _ rfl).elim | exact (n2 _ rfl).elim
        · rename_i l _ _
          obtain ⟨a, rfl, t, _⟩ := r1
          split at q
          · rename_i ws' qq
            cases q
            obtain ⟨vs, z, rr⟩ := rh.obj l _ a qq t
            obtain ⟨v0, hv, rv⟩ := relws_get rr hw
            exact .inl ⟨a, vs, i, v0, rfl, rfl, .inl (.inl z), at_of (relws_length rr) hj hv, an H _ (Le.refl H) rv⟩
          · rename_i ws' qq
            cases q
            obtain ⟨vs, z, rr⟩ := rh.obj l _ a qq t
            obtain ⟨v0, hv, rv⟩ := relws_get rr hw
            exact .inr (.inl ⟨a, vs, i, v0, rfl, rfl, .inl (.inl z), at_of (relws_length rr) hj hv, an H _ (Le.refl H) rv⟩)
          · cases q
        · cases q
  · cases e
theorem sn_ix {X : Cx} {pos : Pos} {a b : Expr} {da db : Den} (ha : SndE X a da) (hb : SndE X b db) (hs : PlainIx b := by intro _ _; rfl) : SndE X (.Subscript a b pos) (eOp gIx da db) := fun Wx tk =>
  pe_imp (pe_ix is_ix (ha Wx tk) (hb Wx tk) hs) (rd_bin fun _ _ _ _ z => z)
end L3

namespace L3
open PySem PySem.Spec PyProof.Rows L2

inductive Fl where
  | nx | bk | ct
  | rt (w : W)
  | ex (c : Str) (fs : List (Str × PyData))
abbrev RS := Option (Fl × WSt × WH)
abbrev S := WSt → WH → RS
section
variable (K : PySem.W.Frag) (mg : MG)
def endF (Wx : WX) (D : Ends) (f : Fl) (th : Th) (h : WH) (H : Hp) (σ : L2.St) : Prop := match f with
  | .nx => D.nx σ H
  | .bk => D.bk σ H
  | .ct => D.ct σ H
  | .rt w => ∀ v, RelW K mg th h H w v → D.rt v H
  | .ex c fs => ∀ cls dx, RelX K mg th h H c fs cls dx → Wx cls dx σ H
def GoesS (th : Th) (h : WH) (H : Hp) (r : RS) (Wx : WX) (D : Ends) : Prop := match r with
  | none => False
  | some (f, ws', h') => ∀ th' H' σ', Stay th h H th' h' H' → RelH K mg th' h' H' → RelSt K mg th' h' H' ws' σ' → endF K mg Wx D f th' h' H' σ'
def rdS (Wx : WX) (d : S) : TS := fun D σ H => ∃ th h ws, RelSt K mg th h H ws σ ∧ RelH K mg th h H ∧ GoesS K mg th h H (d ws h) Wx D
end
def SndS (X : Cx) (st : Stmt) (d : S) : Prop := ∀ Wx, Takes X Wx → PassesOwn (model X.prog X.w) X.A X.env X.xe → PS X st (rdS X.K (X.mg, X.w) Wx d)
def SndB (X : Cx) (sts : List Stmt) (d : S) : Prop := ∀ Wx, Takes X Wx → PassesOwn (model X.prog X.w) X.A X.env X.xe → PSs X sts (rdS X.K (X.mg, X.w) Wx d)
theorem ps_imp {X : Cx} {st : Stmt} {t t' : TS} (p : PS X st t) (h : ∀ D σ H, t' D σ H → t D σ H) : PS X st t' := ⟨fun pins s σ H D I q => p.run pins s σ H D I (h D σ H q)⟩
theorem pss_imp {X : Cx} {st : List Stmt} {t t' : TS} (p : PSs X st t) (h : ∀ D σ H, t' D σ H → t D σ H) : PSs X st t' := ⟨fun pins s σ H D I q => p.run pins s σ H D I (h D σ H q)⟩

def sE {α : Type} (r : R α) (ws : WSt) (k : α → WH → RS) : RS := match r with
  | none => none
  | some (.ok a, h) => k a h
  | some (.exc c fs, h) => some (.ex c fs, ws, h)
@[simp] theorem sE_ok {α : Type} (a : α) (h : WH) (ws : WSt) (k : α → WH → RS) : sE (some (.ok a, h)) ws k = k a h := rfl
@[simp] theorem sE_none {α : Type} (ws : WSt) (k : α → WH → RS) : sE none ws k = none := rfl
@[simp] theorem sE_exc {α : Type} (c : Str) (fs : List (Str × PyData)) (h : WH) (ws : WSt) (k : α → WH → RS) : sE (some (.exc c fs, h)) ws k = some (.ex c fs, ws, h) := rfl
section
variable {K : PySem.W.Frag} {mg : MG} {th : Th} {h : WH} {H : Hp} {α : Type}
theorem GoesS.mono {th1 : Th} {h1 : WH} {H1 : Hp} {r : RS} {Wx : WX} {D : Ends} (g : GoesS K mg th h H r Wx D) (s : Stay th h H th1 h1 H1) : GoesS K mg th1 h1 H1 r Wx D := by
  unfold GoesS at *
  split at g
  · exact g
  · exact fun th' H' σ' s' => g th' H' σ' (s.trans s')
theorem goesS_E {r : R α} {ws : WSt} {σ : L2.St} {k : α → WH → RS} {Wx : WX} {D : Ends} (rs : RelSt K mg th h H ws σ) (g : GoesS K mg th h H (sE r ws k) Wx D) :
    Goes K mg th h H r (fun a th1 h1 H1 => GoesS K mg th1 h1 H1 (k a h1) Wx D) (badW K mg Wx σ) := by
  match r with
  | none => exact g
  | some (.ok a, h') =>
    intro th' H' s q
    have g : GoesS K mg th h H (k a h') Wx D := g
    exact g.mono s
  | some (.exc c fs, h') =>
    intro th' H' s q
    exact g th' H' σ s q (rs.stay s)
theorem GoesS.at_ {f : Fl} {ws' : WSt} {h' : WH} {Wx : WX} {D : Ends} {σ : L2.St} (g : GoesS K mg th h H (some (f, ws', h)) Wx D) (rh : RelH K mg th h H) (rs : RelSt K mg th h H ws' σ) : endF K mg Wx D f th h H σ := g th H σ .refl rh rs
end

def sSkip : S := fun ws h => some (.nx, ws, h)
def sBreak : S := fun ws h => some (.bk, ws, h)
def sCont : S := fun ws h => some (.ct, ws, h)
def sThen (r : RS) (b : S) : RS := match r with
  | some (.nx, ws1, h1) => b ws1 h1
  | r => r
@[simp] theorem sThen_nx (ws : WSt) (h : WH) (b : S) : sThen (some (.nx, ws, h)) b = b ws h := rfl
@[simp] theorem sThen_rt (w : W) (ws : WSt) (h : WH) (b : S) : sThen (some (.rt w, ws, h)) b = some (.rt w, ws, h) := rfl
@[simp] theorem sThen_bk (ws : WSt) (h : WH) (b : S) : sThen (some (.bk, ws, h)) b = some (.bk, ws, h) := rfl
@[simp] theorem sThen_ct (ws : WSt) (h : WH) (b : S) : sThen (some (.ct, ws, h)) b = some (.ct, ws, h) := rfl
@[simp] theorem sThen_ex (c : Str) (fs : List (Str × PyData)) (ws : WSt) (h : WH) (b : S) : sThen (some (.ex c fs, ws, h)) b = some (.ex c fs, ws, h) := rfl
@[simp] theorem sThen_none (b : S) : sThen none b = none := rfl
def sSeq (a b : S) : S := fun ws h => sThen (a ws h) b
def sSet (i : Nat) (d : Den) : S := fun ws h => sE (d ws h) ws fun w h1 => some (.nx, ws.set i (some w), h1)
def sRet (d : Den) : S := fun ws h => sE (d ws h) ws fun w h1 => some (.rt w, ws, h1)
def sRetN : S := fun ws h => some (.rt (.d .none), ws, h)
def sDo (d : Den) : S := fun ws h => sE (d ws h) ws fun _ h1 => some (.nx, ws, h1)
def sIf (c : DenT) (a b : S) : S := fun ws h => sE (c ws h) ws fun k h1 => if k then a ws h1 else b ws h1
section
variable {X : Cx} {pos : Pos} {e c : Expr} {st : Stmt} {rest a b : List Stmt} {de : Den} {dc : DenT} {ds dr da db : S}
theorem sb_nil : SndB X [] sSkip := by
  refine fun Wx tk hp => pss_imp pss_nil fun D σ H q => ?_
  obtain ⟨th, h, ws, rs, rh, g⟩ := q
  exact g th H σ .refl rh rs
theorem sb_cons (hs : SndS X st ds) (hr : SndB X rest dr) : SndB X (st :: rest) (sSeq ds dr) := by
  refine fun Wx tk hp => pss_imp (pss_cons (hs Wx tk hp) (hr Wx tk hp)) fun D σ H q => ?_
  obtain ⟨th, h, ws, rs, rh, g⟩ := q
  refine ⟨th, h, ws, rs, rh, ?_⟩
  have g : GoesS X.K (X.mg, X.w) th h H (sThen (ds ws h) dr) Wx D := g
  match q : ds ws h with
  | none => rw [q] at g; exact g
  | some (.nx, ws1, h1) =>
    rw [q] at g
    intro th' H' σ' s' r' rs'
    have g : GoesS X.K (X.mg, X.w) th h H (dr ws1 h1) Wx D := g
    exact ⟨th', h1, ws1, rs', r', g.mono s'⟩
  | some (.bk, ws1, h1) => rw [q] at g; exact g
  | some (.ct, ws1, h1) => rw [q] at g; exact g
  | some (.rt w, ws1, h1) => rw [q] at g; exact g
  | some (.ex c fs, ws1, h1) => rw [q] at g; exact g
theorem sb_one (hs : SndS X st ds) : SndB X [st] ds := fun Wx tk hp => pss_one (hs Wx tk hp)
theorem ss_do (he : SndE X e de) (hs : swapsWith e none pos.line X.env = pure false := by rfl) : SndS X (.Expr e pos) (sDo de) := by
  refine fun Wx tk hp => ps_imp (ps_expr (he Wx tk) hs) fun D σ H q => ?_
  obtain ⟨th, h, ws, rs, rh, g⟩ := q
  refine ⟨th, h, ws, rs, rh, (goesS_E rs g).imp (fun w th1 h1 H1 s1 r1 g1 v rv => ?_) fun _ _ _ _ _ _ _ z => z⟩
  exact g1 th1 H1 σ .refl r1 (rs.stay s1)
theorem ss_ret (he : SndE X e de) : SndS X (.Return (some e) pos) (sRet de) := by
  refine fun Wx tk hp => ps_imp (ps_ret (he Wx tk)) fun D σ H q => ?_
  obtain ⟨th, h, ws, rs, rh, g⟩ := q
  refine ⟨th, h, ws, rs, rh, (goesS_E rs g).imp (fun w th1 h1 H1 s1 r1 g1 v rv => ?_) fun _ _ _ _ _ _ _ z => z⟩
  exact g1 th1 H1 σ .refl r1 (rs.stay s1) v rv
theorem ss_if (hc : SndT X c dc) (ha : SndB X a da) (hb : SndB X b db) : SndS X (.If c a b pos) (sIf dc da db) := by
  refine fun Wx tk hp => ps_imp (ps_if (hc Wx tk) (ha Wx tk hp) (hb Wx tk hp)) fun D σ H q => ?_
  obtain ⟨th, h, ws, rs, rh, g⟩ := q
  refine ⟨th, h, ws, rs, rh, (goesS_E rs g).imp (fun k th1 h1 H1 s1 r1 g1 => ?_) fun _ _ _ _ _ _ _ z => z⟩
  cases k with
  | true => exact iteT ⟨th1, h1, ws, rs.stay s1, r1, g1⟩
  | false => exact iteF ⟨th1, h1, ws, rs.stay s1, r1, g1⟩
end

abbrev DenG := W → WSt → M WSt
def rdG (K : PySem.W.Frag) (mg : MG) (Wx : WX) (g : DenG) : TG := fun v σ H Q =>
  ∃ th h ws w, RelSt K mg th h H ws σ ∧ RelW K mg th h H w v ∧ RelH K mg th h H ∧ Goes K mg th h H (g w ws h) (fun ws' th' h' H' => ∀ σ', RelSt K mg th' h' H' ws' σ' → Q σ' H') (badW K mg Wx σ)
def SndG (X : Cx) (tg : Expr) (g : DenG) : Prop := ∀ Wx, Takes X Wx → PG X tg (rdG X.K (X.mg, X.w) Wx g)
theorem pg_imp {X : Cx} {e : Expr} {t t' : TG} (p : PG X e t) (h : ∀ v σ H Q, t' v σ H Q → t v σ H Q) : PG X e t' := ⟨fun pins s σ H v u Q I r q => p.run pins s σ H v u Q I r (h v σ H Q q)⟩
def gName1 (i : Nat) : DenG := fun w ws => optM (some (ws.set i (some w)))
def setAll : List Nat → List W → WSt → WSt
  | i :: r, w :: x, ws => setAll r x (ws.set i (some w))
  | _, _, ws => ws
def gNames (is : List Nat) : DenG := fun w ws h => match items h w with
  | some xs => if xs.length = is.length then optM (some (setAll is xs ws)) h else none
  | none => none
def setV : List Nat → List V → L2.St → L2.St
  | i :: r, v :: x, σ => setV r x (σ.set i (some v))
  | _, _, σ => σ
theorem RelSt.setAll {K : PySem.W.Frag} {mg : MG} {th : Th} {h : WH} {H : Hp} : ∀ {is : List Nat} {xs : List W} {vs : List V} {ws : WSt} {σ : L2.St}, RelSt K mg th h H ws σ → RelWs K mg th h H xs vs → RelSt K mg th h H (L3.setAll is xs ws) (setV is vs σ)
  | [], xs, vs, ws, σ, r, q => by
    have e : setV [] vs σ = σ := by cases vs <;> rfl
    rw [e]
    cases xs <;> exact r
  | i :: is, [], vs, ws, σ, r, q => by cases q; exact r
  | i :: is, x :: xs, vs, ws, σ, r, ⟨v, u, e, a, b⟩ => by
    subst e
    exact RelSt.setAll (is := is) (xs := xs) (vs := u) (r.set a i) b
inductive NamesAt (X : Cx) : List Expr → List Nat → Prop
  | nil : NamesAt X [] []
  | cons {i : Nat} {x : Str} {p : Pos} {es : List Expr} {is : List Nat} : PG X (.Name x p) (gName i) → ((assignEach (.Name x p :: es) X.env).map (·.2) = assign (.Name x p) X.env :: (assignEach es X.env).map (·.2)) → NamesAt X es is → NamesAt X (.Name x p :: es) (i :: is)
theorem NamesAt.pgs {X : Cx} {es : List Expr} {is : List Nat} (n : NamesAt X es is) : PGs X es (fun vs σ H Q => vs.length = is.length ∧ Q (setV is vs σ) H) := by
  induction n with
  | nil =>
    refine ⟨fun pins s σ H vs us Q I r q => pgs_nil.run pins s σ H vs us Q I r ?_⟩
    obtain ⟨e, q⟩ := q
    cases vs with
    | nil => exact ⟨rfl, q⟩
    | cons v vs => cases e
  | cons p e n ih =>
    refine ⟨fun pins s σ H vs us Q I r q => (pgs_cons p ih e).run pins s σ H vs us Q I r ?_⟩
    obtain ⟨e, q⟩ := q
    cases vs with
    | nil => cases e
    | cons v vs => exact ⟨v, vs, rfl, Nat.succ.inj e, q⟩
section
variable {X : Cx} {pos : Pos}
theorem sg_name (i : Nat) {x : Str} (hN : X.N.Nodup) (hi : X.N[i]? = some x) (hx : Loc X.env.scope x) (hf : X.fn x = true ∨ X.env.scope.names.lookup x = some .local := by first | exact .inl rfl | exact .inr rfl | assumption) : SndG X (.Name x pos) (gName1 i) := by
  refine fun Wx tk => pg_imp (pg_name hN hi hx hf) fun v σ H Q q => ?_
  obtain ⟨th, h, ws, w, rs, rw_, rh, g⟩ := q
  obtain ⟨_, e, g⟩ := Goes.opt g
  cases e
  exact g th H .refl rh _ (rs.set rw_ i)
theorem items_at {K : PySem.W.Frag} {mg : MG} {th : Th} {h : WH} {H : Hp} {w : W} {v : V} {xs : List W} (r : RelW K mg th h H w v) (rh : RelH K mg th h H) (e : items h w = some xs) :
    ∃ a vs, v = .ref a ∧ (SqL K H a vs ∨ SqT K H a vs) ∧ (RelWs K mg th h H xs vs ∨ ∃ ds, w = .fz ds ∧ xs = ds.map W.d ∧ DpAll K (hid th h H) vs ds) := by
  unfold items at e
  split at e
  · cases e
    obtain ⟨a, vs, rfl, sa, ra⟩ := rel_lst r
    exact ⟨a, vs, rfl, .inl (.inl (.inl (hid_le sa))), .inl (rel_dats ra)⟩
  · cases e
    obtain ⟨a, vs, rfl, sa, ra⟩ := rel_tup r
    exact ⟨a, vs, rfl, .inr (hid_Le.sqT sa), .inl (rel_dats ra)⟩
  · cases e
    cases r with
    | lst sa ra => exact ⟨_, _, rfl, .inl (hid_Le.sqL sa), .inr ⟨_, rfl, rfl, ra⟩⟩
  · obtain ⟨a, rfl, t, _⟩ := r
    split at e
    · rename_i ws qq
      cases e
      obtain ⟨vs, z, rr⟩ := rh.obj _ _ a qq t
      exact ⟨a, vs, rfl, .inl (.inl (.inl z)), .inl rr⟩
    · rename_i ws qq
      cases e
      obtain ⟨vs, z, rr⟩ := rh.obj _ _ a qq t
      exact ⟨a, vs, rfl, .inr (.inl (.inl z)), .inl rr⟩
    · cases e
  · cases e
def notFz : W → Bool
  | .fz _ => false
  | _ => true
def gUnp (K : PySem.W.Frag) (is : List Nat) : TG := fun v σ H Q => ∃ a xs, v = .ref a ∧ (SqL K H a xs ∨ SqT K H a xs) ∧ xs.length = is.length ∧ Q (setV is xs σ) H
theorem pg_unp {es : List Expr} {is : List Nat} {k : Nat} (hc : X.calm = true) (n : NamesAt X es is) (hn : (assignEach es X.env).length = is.length := by rfl) (hst : (assignEach es X.env).findIdx? (·.1) = none := by rfl) : PG X (.Tuple es k pos) (gUnp X.K is) := by
  refine ⟨fun pins s σ H v u Q I r q => ?_⟩
  obtain ⟨a, xs, e, h, l, q⟩ := q
  rcases h with h | h
  · exact (pg_lst hc n.pgs hn hst).run pins s σ H v u Q I r ⟨a, xs, e, h, l, l, q⟩
  · exact (pg_tup hc n.pgs hn hst).run pins s σ H v u Q I r ⟨a, xs, e, h, l, l, q⟩
def gNamesN (is : List Nat) : DenG := fun w ws h => if notFz w then gNames is w ws h else none
theorem sg_names {es : List Expr} {is : List Nat} {k : Nat} (hc : X.calm = true) (n : NamesAt X es is) (hn : (assignEach es X.env).length = is.length := by rfl) (hst : (assignEach es X.env).findIdx? (·.1) = none := by rfl) : SndG X (.Tuple es k pos) (gNamesN is) := by
  refine fun Wx tk => pg_imp (pg_unp hc n hn hst) fun v σ H Q q => ?_
  obtain ⟨th, h, ws, w, rs, rw_, rh, g⟩ := q
  unfold gNamesN at g
  split at g
  · rename_i nf
    unfold gNames at g
    split at g
    · rename_i xs qq
      split at g
      · rename_i hl
        obtain ⟨_, e, g⟩ := Goes.opt g
        cases e
        obtain ⟨a, vs, rfl, sq, rr⟩ := items_at rw_ rh qq
        rcases rr with rr | ⟨ds, rfl, _⟩
        · exact ⟨a, vs, rfl, sq, (relws_length rr).trans hl, g th H .refl rh _ (rs.setAll rr)⟩
        · cases nf
      · exact g.elim
    · exact g.elim
  · exact g.elim
end
def sAsg (d : Den) (g : DenG) : S := fun ws h => sE (d ws h) ws fun w h1 => sE (g w ws h1) ws fun ws2 h2 => some (.nx, ws2, h2)
section
variable {X : Cx} {pos : Pos} {e tg : Expr} {de : Den} {g : DenG}
theorem ss_asg (he : SndE X e de) (hg : SndG X tg g) (hs : swapsWithSole [tg] e pos.line X.env = pure false := by rfl) (hw : swappedStores [tg] e X.env = pure none := by rfl)
    (h1 : (assignEach [tg] X.env).map (·.2) = [assign tg X.env] := by rfl) : SndS X (.Assign [tg] e pos) (sAsg de g) := by
  refine fun Wx tk hp => ps_imp (ps_asg (he Wx tk) (hg Wx tk) hs hw h1) fun D σ H q => ?_
  obtain ⟨th, h, ws, rs, rh, g⟩ := q
  refine ⟨th, h, ws, rs, rh, (goesS_E rs g).imp (fun w th1 h1 H1 s1 r1 g1 v rv => ?_) fun _ _ _ _ _ _ _ z => z⟩
  refine ⟨th1, h1, ws, w, rs.stay s1, rv, r1, (goesS_E (rs.stay s1) g1).imp (fun ws2 th2 h2 H2 s2 r2 g2 σ' rs' => ?_) fun _ _ _ _ _ _ _ z => z⟩
  exact g2 th2 H2 σ' .refl r2 rs'
theorem sAsg_name (d : Den) (i : Nat) : sAsg d (gName1 i) = sSet i d := by
  funext ws h
  unfold sAsg sSet
  cases q : d ws h with
  | none => rfl
  | some p =>
    obtain ⟨o, h1⟩ := p
    cases o <;> rfl
theorem ss_set (i : Nat) {x : Str} {p : Pos} (he : SndE X e de) (hN : X.N.Nodup) (hi : X.N[i]? = some x) (hx : Loc X.env.scope x) (hf : X.fn x = true ∨ X.env.scope.names.lookup x = some .local := by first | exact .inl rfl | exact .inr rfl | assumption)
    (hs : swapsWithSole [.Name x p] e pos.line X.env = pure false := by rfl) (hw : swappedStores [.Name x p] e X.env = pure none := by rfl) : SndS X (.Assign [.Name x p] e pos) (sSet i de) := by
  rw [← sAsg_name]
  exact ss_asg he (sg_name i hN hi hx hf) hs hw rfl
end
def sPar (is : List Nat) (d : DenA) : S := fun ws h => sE (d ws h) ws fun xs h1 => if xs.length = is.length then some (.nx, setAll is xs ws, h1) else none
section
variable {X : Cx} {pos : Pos}
end

structure IterOk (K : PySem.W.Frag) (mg : MG) (J : It) (xs : List W) (gd : WH → Prop) (th0 : Th) (h0 : WH) (H0 : Hp) : Prop where
  go : ∀ th h H, Stay th0 h0 H0 th h H → RelH K mg th h H → gd h → ∀ (i : Nat) (w : W), xs[i]? = some w → J.go i H ∧ ∀ x H', J.yld i H x H' → Le H H' ∧ RelW K mg th h H' w x
  stop : ∀ th h H, Stay th0 h0 H0 th h H → RelH K mg th h H → gd h → ∀ i : Nat, xs.length ≤ i → J.stop i H
structure Walkd where
  xs : List W
  gd : WH → Prop
abbrev DenI := WSt → M Walkd
def rdI (K : PySem.W.Frag) (mg : MG) (Wx : WX) (d : DenI) : TI := fun σ H R =>
  ∃ th h ws, RelSt K mg th h H ws σ ∧ RelH K mg th h H ∧ Goes K mg th h H (d ws h) (fun w th' h' H' => ∀ J, IterOk K mg J w.xs w.gd th' h' H' → R J H') (badW K mg Wx σ)
def SndI (X : Cx) (tg e : Expr) (d : DenI) : Prop := ∀ Wx, Takes X Wx → PI X tg e (rdI X.K (X.mg, X.w) Wx d)
def signs (x : Str) : List W := x.cps.toList.map fun c => .d (.str ⟨#[c]⟩)
def walk (h : WH) : W → Option Walkd
  | .d (.str x) => some ⟨signs x, fun _ => True⟩
  | .loc l => match h[l]? with
    | some (.lst ws) => some ⟨ws, fun h' => h'[l]? = some (.lst ws)⟩
    | some (.tup ws) => some ⟨ws, fun h' => h'[l]? = some (.tup ws)⟩
    | _ => none
  | .fz _ => none
  | w => (items h w).map fun xs => ⟨xs, fun _ => True⟩
def iVal (d : Den) : DenI := fun ws h => bindM (d ws h) fun w h1 => optM (walk h1 w) h1
theorem pi_imp {X : Cx} {tg e : Expr} {t t' : TI} (p : PI X tg e t) (h : ∀ σ H R, t' σ H R → t σ H R) : PI X tg e t' := ⟨fun pins s σ H R I q => p.run pins s σ H R I (h σ H R q)⟩
def iAny (K : PySem.W.Frag) (te : TE) : TI := fun σ H R => te σ H fun x H1 => (∃ a, x = .ref a ∧ (∃ xs, SqL K H1 a xs) ∧ R (Itl K a) H1) ∨ (∃ a, x = .ref a ∧ (∃ xs, SqT K H1 a xs) ∧ R (Itt K a) H1) ∨ ∃ z, x = .str z ∧ R (Its z) H1
theorem pi_any {X : Cx} {tg e : Expr} {te : TE} (he : PE X e te) : PI X tg e (iAny X.K te) := by
  refine ⟨fun pins s σ H R I h => ?_⟩
  refine thn (he.run pins s σ H _ I h) fun v s1 ⟨x, H1, I1, r1, q1⟩ => ?_
  rcases q1 with ⟨a, e, ⟨xs, hq⟩, q⟩ | ⟨a, e, ⟨xs, hq⟩, q⟩ | ⟨z, e, q⟩
  · subst e
    cases r1
    obtain ⟨its, rv, p, hz⟩ := I1.list hq
    refine wpAny_pyIter_list p.isList ?_
    refine ⟨s1.heap.objs.size, [s1.heap.objs.size], _, _, H1, rfl, I1.kept (t' := s1.toks) fun b o e => Heap.get?_push_of_some _ e, turn_list a _, ⟨_, Heap.get?_push_size _ rfl, rfl, rfl⟩, fun b hb => ?_, q⟩
    have e : b = s1.heap.objs.size := by simpa using hb
    subst e
    exact I1.fpOk (Nat.le_refl _) (I1.hok.fresh (Nat.le_refl _))
  · subst e
    cases r1
    obtain ⟨its, rv, p, hz⟩ := I1.tuple hq
    refine wpAny_pyIter_tuple (show s1.heap.IsTuple a its.toArray from p) ?_
    refine ⟨s1.heap.objs.size, [s1.heap.objs.size], _, _, H1, rfl, I1.kept (t' := s1.toks) fun b o e => Heap.get?_push_of_some _ e, turn_tuple a _, ⟨_, Heap.get?_push_size _ rfl, rfl, rfl⟩, fun b hb => ?_, q⟩
    have e : b = s1.heap.objs.size := by simpa using hb
    subst e
    exact I1.fpOk (Nat.le_refl _) (I1.hok.fresh (Nat.le_refl _))
  · subst e
    obtain ⟨t, rfl⟩ := r1
    cases ha : z.cps.all (· < 128)
    · exact wpAny_pyIter_wide ha (pi_one (tk := s1.toks) I1 _ (turn_str _ z t "str_iterator" (.inr rfl)) ⟨_, Heap.get?_push_size _ rfl, rfl, rfl⟩ q)
    · exact wpAny_pyIter_ascii ha (pi_one (tk := s1.toks) I1 _ (turn_str _ z t "str_ascii_iterator" (.inl rfl)) ⟨_, Heap.get?_push_size _ rfl, rfl, rfl⟩ q)
section
variable {K : PySem.W.Frag} {mg : MG} {th : Th} {h : WH} {H : Hp}
theorem iter_lst {a : Addr} {xs : List W} (gd : WH → Prop) (hs : ∀ th' h' H', Stay th h H th' h' H' → RelH K mg th' h' H' → gd h' → ∃ vs, SqL K H' a vs ∧ RelWs K mg th' h' H' xs vs) : IterOk K mg (Itl K a) xs gd th h H where
  go := fun th' h' H' s r g i w e => by
    obtain ⟨vs, sq, rr⟩ := hs th' h' H' s r g
    obtain ⟨v, q, rv⟩ := relws_get rr e
    refine ⟨⟨vs, v, sq, q⟩, fun x H2 y => ?_⟩
    obtain ⟨rfl, y⟩ := y
    have := (y vs sq).symm.trans q
    cases this
    exact ⟨Le.refl _, rv⟩
  stop := fun th' h' H' s r g i e => by
    obtain ⟨vs, sq, rr⟩ := hs th' h' H' s r g
    exact ⟨vs, sq, by rw [relws_length rr]; exact e⟩
theorem iter_tup {a : Addr} {xs : List W} (gd : WH → Prop) (hs : ∀ th' h' H', Stay th h H th' h' H' → RelH K mg th' h' H' → gd h' → ∃ vs, SqT K H' a vs ∧ RelWs K mg th' h' H' xs vs) : IterOk K mg (Itt K a) xs gd th h H where
  go := fun th' h' H' s r g i w e => by
    obtain ⟨vs, sq, rr⟩ := hs th' h' H' s r g
    obtain ⟨v, q, rv⟩ := relws_get rr e
    refine ⟨⟨vs, v, sq, q⟩, fun x H2 y => ?_⟩
    obtain ⟨rfl, y⟩ := y
    have := (y vs sq).symm.trans q
    cases this
    exact ⟨Le.refl _, rv⟩
  stop := fun th' h' H' s r g i e => by
    obtain ⟨vs, sq, rr⟩ := hs th' h' H' s r g
    exact ⟨vs, sq, by rw [relws_length rr]; exact e⟩
theorem iter_str {x : Str} : IterOk K mg (Its x) (signs x) (fun _ => True) th h H where
  go := fun th' h' H' s r _ i w e => by
    unfold signs at e
    rw [List.getElem?_map, Array.getElem?_toList] at e
    cases q : x.cps[i]? with
    | none => rw [q] at e; cases e
    | some c =>
      rw [q] at e; cases e
      refine ⟨(Array.getElem?_eq_some_iff.mp q).1, fun v H2 y => ?_⟩
      obtain ⟨rfl, c', q', rfl⟩ := y
      rw [q] at q'; cases q'
      exact ⟨Le.refl _, .str _⟩
  stop := fun th' h' H' s r _ i e => by
    unfold signs at e
    rw [List.length_map, Array.length_toList] at e
    exact e
end
theorem si_val {X : Cx} {tg e : Expr} {de : Den} (he : SndE X e de) : SndI X tg e (iVal de) := by
  refine fun Wx tk => pi_imp (pi_any (he Wx tk)) fun σ H R q => ?_
  obtain ⟨th, h, ws, rs, rh, g⟩ := q
  refine ⟨th, h, ws, rs, rh, (Goes.bind g).imp (fun w th1 h1 H1 s1 r1 g1 v rv => ?_) fun _ _ _ _ _ _ _ z => z⟩
  obtain ⟨wk, e, g2⟩ := Goes.opt g1
  have g2 := g2 th1 H1 .refl r1
  unfold walk at e
  split at e
  · cases e
    have e1 := rel_str rv
    subst e1
    exact .inr (.inr ⟨_, rfl, g2 _ iter_str⟩)
  · rename_i l
    obtain ⟨a, rfl, t, _⟩ := rv
    split at e
    · rename_i ws' qq
      cases e
      obtain ⟨vs, z, rr⟩ := r1.obj _ _ a qq t
      refine .inl ⟨a, rfl, ⟨vs, .inl (.inl z)⟩, g2 _ (iter_lst _ fun th' h' H' s' r' gd => ?_)⟩
      obtain ⟨vs', z', rr'⟩ := r'.obj _ _ a gd (s'.pre _ _ t)
      exact ⟨vs', .inl (.inl z'), rr'⟩
    · rename_i ws' qq
      cases e
      obtain ⟨vs, z, rr⟩ := r1.obj _ _ a qq t
      refine .inr (.inl ⟨a, rfl, ⟨vs, .inl (.inl z)⟩, g2 _ (iter_tup _ fun th' h' H' s' r' gd => ?_)⟩)
      obtain ⟨vs', z', rr'⟩ := r'.obj _ _ a gd (s'.pre _ _ t)
      exact ⟨vs', .inl (.inl z'), rr'⟩
    · cases e
  · cases e
  · rename_i n1 n2 n3
    cases w with
    | d x =>
      cases x with
      | list xs =>
        cases e
        obtain ⟨a, vs, rfl, sa, ra⟩ := rel_lst rv
        refine .inl ⟨a, rfl, ⟨vs, .inl (.inl (hid_le sa))⟩, g2 _ (iter_lst _ fun th' h' H' s' r' _ => ?_)⟩
        exact ⟨vs, .inl (.inl (hid_le (s'.le _ _ sa))), (rel_dats ra).stay s'⟩
      | tuple xs =>
        cases e
        obtain ⟨a, vs, rfl, sa, ra⟩ := rel_tup rv
        refine .inr (.inl ⟨a, rfl, ⟨vs, hid_Le.sqT sa⟩, g2 _ (iter_tup _ fun th' h' H' s' r' _ => ?_)⟩)
        exact ⟨vs, hid_Le.sqT (s'.le.sqT sa), (rel_dats ra).stay s'⟩
      | _ => cases e
    | loc l => exact (n2 l rfl).elim
    | fz xs => exact (n3 xs rfl).elim
    | ty n => cases e
    | cl c => cases e
def rngL (lo : Int) (n : Nat) : List W := (List.range n).map fun i : Nat => .d (.int (lo + (i : Int)))
theorem rngL_length (lo : Int) (n : Nat) : (rngL lo n).length = n := by unfold rngL; rw [List.length_map, List.length_range]
theorem iter_rng {K : PySem.W.Frag} {mg : MG} {th : Th} {h : WH} {H : Hp} {lo : Int} {n : Nat} : IterOk K mg (Itr lo n) (rngL lo n) (fun _ => True) th h H where
  go := fun th' h' H' s r _ i w e => by
    unfold rngL at e
    rw [List.getElem?_map] at e
    cases q : (List.range n)[i]? with
    | none => rw [q] at e; cases e
    | some j =>
      rw [q] at e; cases e
      obtain ⟨hl, hj⟩ := List.getElem?_eq_some_iff.mp q
      rw [List.length_range] at hl
      rw [List.getElem_range] at hj
      subst hj
      refine ⟨hl, fun v H2 y => ?_⟩
      obtain ⟨rfl, rfl⟩ := y
      exact ⟨Le.refl _, .int _⟩
  stop := fun th' h' H' s r _ i e => by rw [rngL_length] at e; exact e
def rngB (i : Int) : Bool := decide (-(2 ^ 62) ≤ i ∧ i < 2 ^ 62)
def wRange1 : W → Option Walkd
  | .d (.int j) => if rngB j then some ⟨rngL 0 j.toNat, fun _ => True⟩ else none
  | _ => none
def wRange2 : W → W → Option Walkd
  | .d (.int i), .d (.int j) => if rngB i && rngB j then some ⟨rngL i (j - i).toNat, fun _ => True⟩ else none
  | _, _ => none
def iRange1 (d : Den) : DenI := fun ws h => bindM (d ws h) fun x h1 => optM (wRange1 x) h1
def iRange2 (d e : Den) : DenI := fun ws h => bindM (d ws h) fun x h1 => bindM (e ws h1) fun y h2 => optM (wRange2 x y) h2
section
variable {X : Cx} {tg a b : Expr} {p pos : Pos} {da db : Den}
theorem si_range1 (hg : Gl X "range") (hm : X.mg "range" = none) (ha : SndE X a da) (hs : starEach [a] X.env = (false, eval a X.env) :: starEach [] X.env := by rfl) : SndI X tg (.Call (.Name "range" p) [a] [] pos) (iRange1 da) := by
  refine fun Wx tk => pi_imp (pi_range1 hg hm (pa_cons (ha Wx tk) pa_nil hs) hs) fun σ H R q => ?_
  obtain ⟨th, h, ws, rs, rh, g⟩ := q
  refine ⟨th, h, ws, rs, rh, (Goes.bind g).imp (fun x th1 h1 H1 s1 r1 g1 v rv => ?_) fun _ _ _ _ _ _ _ z => z⟩
  obtain ⟨wk, e, g2⟩ := Goes.opt g1
  unfold wRange1 at e
  split at e
  · rename_i j
    split at e
    · rename_i hb
      cases e
      have e1 := rel_int rv
      subst e1
      have hb := of_decide_eq_true (p := -(2 ^ 62) ≤ j ∧ j < 2 ^ 62) hb
      exact ⟨j, rfl, hb.1, hb.2, g2 th1 H1 .refl r1 _ iter_rng⟩
    · cases e
  · cases e
end

open Classical in
noncomputable def forL (gd : WH → Prop) (g : DenG) (body : S) : List W → S
  | [], ws, h => some (.nx, ws, h)
  | w :: r, ws, h => sE (g w ws h) ws fun ws1 h1 => match body ws1 h1 with
    | some (.nx, ws2, h2) => if gd h2 then forL gd g body r ws2 h2 else none
    | some (.ct, ws2, h2) => if gd h2 then forL gd g body r ws2 h2 else none
    | some (.bk, ws2, h2) => some (.nx, ws2, h2)
    | r => r
noncomputable def sFor (di : DenI) (g : DenG) (body : S) : S := fun ws h => sE (di ws h) ws fun wk h1 => forL wk.gd g body wk.xs ws h1
def whileL (c : DenT) (body : S) : Nat → S
  | 0, _, _ => none
  | n + 1, ws, h => sE (c ws h) ws fun k h1 => if k then (match body ws h1 with
    | some (.nx, ws2, h2) => whileL c body n ws2 h2
    | some (.ct, ws2, h2) => whileL c body n ws2 h2
    | some (.bk, ws2, h2) => some (.nx, ws2, h2)
    | r => r) else some (.nx, ws, h1)
def sWhile (n : Nat) (c : DenT) (body : S) : S := whileL c body n
section
variable {X : Cx} {pos : Pos} {tg iter c : Expr} {body : List Stmt} {di : DenI} {g : DenG} {db : S} {dc : DenT}
theorem ss_for (hc : X.calm = true) (hi : SndI X tg iter di) (hg : SndG X tg g) (hb : SndB X body db) (hgd : ∀ ws h wk h1, di ws h = some (.ok wk, h1) → wk.gd h1)
    (hs : ∀ x, foldedSetIterable iter X.env x = pure x := by intro _; rfl) : SndS X (.For tg iter body [] pos) (sFor di g db) := by
  refine fun Wx tk hp => ps_imp (ps_for hp hc (hi Wx tk) (hg Wx tk) (hb Wx tk hp) hs) fun D σ H q => ?_
  obtain ⟨th, h, ws, rs, rh, gg⟩ := q
  refine ⟨th, h, ws, rs, rh, ?_⟩
  have hgd := hgd ws h
  have gg : GoesS X.K (X.mg, X.w) th h H (sE (di ws h) ws fun wk h1 => forL wk.gd g db wk.xs ws h1) Wx D := gg
  match q : di ws h with
  | none => rw [q] at gg; exact gg
  | some (.exc c fs, h1) => rw [q] at gg; intro th1 H1 s1 r1; exact gg th1 H1 σ s1 r1 (rs.stay s1)
  | some (.ok wk, h1) =>
    rw [q] at gg
    intro th1 H1 s1 r1 J ok
    have gg : GoesS X.K (X.mg, X.w) th h H (forL wk.gd g db wk.xs ws h1) Wx D := gg
    refine ⟨fun i m σ2 H2 => m = wk.xs.length - i ∧ i ≤ wk.xs.length ∧ ∃ th2 h2 ws2, Stay th1 h1 H1 th2 h2 H2 ∧ RelH X.K (X.mg, X.w) th2 h2 H2 ∧ RelSt X.K (X.mg, X.w) th2 h2 H2 ws2 σ2 ∧ wk.gd h2 ∧ GoesS X.K (X.mg, X.w) th2 h2 H2 (forL wk.gd g db (wk.xs.drop i) ws2 h2) Wx D,
      ⟨_, rfl, Nat.zero_le _, th1, h1, ws, .refl, r1, rs.stay s1, hgd wk h1 q, gg.mono s1⟩, fun i m σ2 H2 w => ?_⟩
    obtain ⟨rfl, hi, th2, h2, ws2, s2, r2, rs2, gd2, g2⟩ := w
    by_cases hl : i < wk.xs.length
    · refine .inr ⟨(ok.go th2 h2 H2 s2 r2 gd2 i _ (List.getElem?_eq_getElem hl)).1, fun σ' H' => ∃ th' h' ws', Stay th1 h1 H1 th' h' H' ∧ RelH X.K (X.mg, X.w) th' h' H' ∧ RelSt X.K (X.mg, X.w) th' h' H' ws' σ' ∧ wk.gd h' ∧ GoesS X.K (X.mg, X.w) th' h' H' (forL wk.gd g db (wk.xs.drop (i + 1)) ws' h') Wx D,
        fun σ' H' n => ?_, fun x H3 y => ?_⟩
      · obtain ⟨th', h', ws', a1, a2, a3, a4, a5⟩ := n
        exact ⟨wk.xs.length - (i + 1), by omega, rfl, hl, th', h', ws', a1, a2, a3, a4, a5⟩
      · obtain ⟨le, rw_⟩ := (ok.go th2 h2 H2 s2 r2 gd2 i _ (List.getElem?_eq_getElem hl)).2 x H3 y
        obtain ⟨s3, r3⟩ := r2.grow le
        rw [List.drop_eq_getElem_cons hl] at g2
        have g2 := g2.mono s3
        have rs3 := rs2.stay s3
        unfold forL at g2
        refine ⟨th2, h2, ws2, wk.xs[i], rs3, rw_, r3, (goesS_E rs3 g2).imp (fun ws4 th4 h4 H4 s4 r4 g4 σ4 rs4 => ?_) fun _ _ _ _ _ _ _ z => z⟩
        refine ⟨th4, h4, ws4, rs4, r4, ?_⟩
        have st : Stay th1 h1 H1 th4 h4 H4 := (s2.trans s3).trans s4
        have fin : ∀ ws5 h5 th5 H5 σ5, Stay th4 h4 H4 th5 h5 H5 → RelH X.K (X.mg, X.w) th5 h5 H5 → RelSt X.K (X.mg, X.w) th5 h5 H5 ws5 σ5 → GoesS X.K (X.mg, X.w) th4 h4 H4 (open Classical in if wk.gd h5 then forL wk.gd g db (wk.xs.drop (i + 1)) ws5 h5 else none) Wx D →
            ∃ th' h' ws', Stay th1 h1 H1 th' h' H5 ∧ RelH X.K (X.mg, X.w) th' h' H5 ∧ RelSt X.K (X.mg, X.w) th' h' H5 ws' σ5 ∧ wk.gd h' ∧ GoesS X.K (X.mg, X.w) th' h' H5 (forL wk.gd g db (wk.xs.drop (i + 1)) ws' h') Wx D := fun ws5 h5 th5 H5 σ5 s5 r5 rs5 g5 => by
          split at g5
          · rename_i gd5
            exact ⟨th5, h5, ws5, st.trans s5, r5, rs5, gd5, g5.mono s5⟩
          · exact g5.elim
        match q4 : db ws4 h4 with
        | none => rw [q4] at g4; exact g4
        | some (.nx, ws5, h5) => rw [q4] at g4; exact fun th5 H5 σ5 s5 r5 rs5 => fin ws5 h5 th5 H5 σ5 s5 r5 rs5 g4
        | some (.ct, ws5, h5) => rw [q4] at g4; exact fun th5 H5 σ5 s5 r5 rs5 => fin ws5 h5 th5 H5 σ5 s5 r5 rs5 g4
        | some (.bk, ws5, h5) => rw [q4] at g4; exact g4
        | some (.rt w, ws5, h5) => rw [q4] at g4; exact g4
        | some (.ex c fs, ws5, h5) => rw [q4] at g4; exact g4
    · refine .inl ⟨ok.stop th2 h2 H2 s2 r2 gd2 i (by omega), ?_⟩
      have : i = wk.xs.length := by omega
      subst this
      rw [List.drop_length] at g2
      exact g2 th2 H2 σ2 .refl r2 rs2
theorem ss_while (n : Nat) (hc : SndT X c dc) (hb : SndB X body db) : SndS X (.While c body [] pos) (sWhile n dc db) := by
  refine fun Wx tk hp => ps_imp (ps_while hp (hc Wx tk) (hb Wx tk hp)) fun D σ H q => ?_
  obtain ⟨th, h, ws, rs, rh, gg⟩ := q
  refine ⟨fun m σ2 H2 => ∃ th2 h2 ws2, RelH X.K (X.mg, X.w) th2 h2 H2 ∧ RelSt X.K (X.mg, X.w) th2 h2 H2 ws2 σ2 ∧ GoesS X.K (X.mg, X.w) th2 h2 H2 (whileL dc db m ws2 h2) Wx D, ⟨n, th, h, ws, rh, rs, gg⟩, fun m σ2 H2 w => ?_⟩
  obtain ⟨th2, h2, ws2, r2, rs2, g2⟩ := w
  cases m with
  | zero => exact g2.elim
  | succ m =>
    unfold whileL at g2
    refine ⟨th2, h2, ws2, rs2, r2, (goesS_E rs2 g2).imp (fun k th3 h3 H3 s3 r3 g3 => ?_) fun _ _ _ _ _ _ _ z => z⟩
    have rs3 := rs2.stay s3
    cases k with
    | false => exact iteF (g3 th3 H3 σ2 .refl r3 rs3)
    | true =>
      refine iteT ⟨fun σ' H' => ∃ th' h' ws', RelH X.K (X.mg, X.w) th' h' H' ∧ RelSt X.K (X.mg, X.w) th' h' H' ws' σ' ∧ GoesS X.K (X.mg, X.w) th' h' H' (whileL dc db m ws' h') Wx D, fun σ' H' z => ⟨m, Nat.lt_succ_self m, z⟩, th3, h3, ws2, rs3, r3, ?_⟩
      have g3 : GoesS X.K (X.mg, X.w) th3 h3 H3 (match db ws2 h3 with
        | some (.nx, ws2, h2) => whileL dc db m ws2 h2
        | some (.ct, ws2, h2) => whileL dc db m ws2 h2
        | some (.bk, ws2, h2) => some (.nx, ws2, h2)
        | r => r) Wx D := g3
      match q4 : db ws2 h3 with
      | none => rw [q4] at g3; exact g3
      | some (.nx, ws5, h5) => rw [q4] at g3; exact fun th5 H5 σ5 s5 r5 rs5 => ⟨th5, h5, ws5, r5, rs5, GoesS.mono g3 s5⟩
      | some (.ct, ws5, h5) => rw [q4] at g3; exact fun th5 H5 σ5 s5 r5 rs5 => ⟨th5, h5, ws5, r5, rs5, GoesS.mono g3 s5⟩
      | some (.bk, ws5, h5) => rw [q4] at g3; exact g3
      | some (.rt w, ws5, h5) => rw [q4] at g3; exact g3
      | some (.ex c fs, ws5, h5) => rw [q4] at g3; exact g3
end
end L3

namespace L3
open PySem PySem.Spec PyProof.Rows L2

def W.lt (n : Nat) : W → Bool
  | .loc l => decide (l < n)
  | _ => true
def Ob.lt (n : Nat) : Ob → Bool
  | .dead => true
  | .lst ws => ws.all (W.lt n)
  | .tup ws => ws.all (W.lt n)
  | .dct kvs => (kvs.map Prod.snd).all (W.lt n)
  | .dv kvs => (kvs.map Prod.snd).all (W.lt n)
  | .ins _ fs => fs.all fun p => p.2.lt n
  | .exo _ _ => true
def keepP (h h' : WH) : Prop := h.length ≤ h'.length ∧ (h'.take h.length = h ∨ ∀ o ∈ h'.take h.length, o.lt h.length = true)
def allM (f : W → Option PyData) : List W → Option (List PyData)
  | [] => some []
  | w :: r => (f w).bind fun x => (allM f r).map (x :: ·)
def datV (n : Nat) (h : WH) : Nat → W → Option PyData
  | _, .d x => some x
  | k + 1, .loc l => if l < n then none else match h[l]? with
    | some (.lst ws) => (allM (datV n h k) ws).map .list
    | some (.tup ws) => (allM (datV n h k) ws).map .tuple
    | some (.dct kvs) => (allM (datV n h k) (kvs.map Prod.snd)).map fun xs => .dict ((kvs.map Prod.fst).zip xs)
    | _ => none
  | _, _ => none
def cut (n : Nat) (h' : WH) : W → Option W
  | .loc l => if l < n then some (.loc l) else match h'[l]? with
    | some (.lst ws) => (dats ws <|> allM (datV n h' 3) ws).map fun ds => .d (.list ds)
    | some (.tup ws) => (dats ws <|> allM (datV n h' 3) ws).map fun ds => .d (.tuple ds)
    | some (.dct kvs) => (datV n h' 4 (.loc l)).map .d
    | _ => none
  | w => some w
theorem cut_lst {n l : Nat} {h' : WH} {ws : List W} {ds : List PyData} (hl : n ≤ l) (e : h'[l]? = some (.lst ws)) (b : dats ws = some ds) : cut n h' (.loc l) = some (.d (.list ds)) := by
  show (if l < n then some (W.loc l) else _) = _
  rw [if_neg (Nat.not_lt.mpr hl), e]
  show (dats ws <|> allM (datV n h' 3) ws).map _ = _
  rw [b]; rfl
open Classical in
noncomputable def clean (h : WH) (r : R W) : R W := match r with
  | none => none
  | some (.ok w, h') => if keepP h h' then (match cut h.length h' w with
    | some w' => some (.ok w', h'.take h.length)
    | none => none) else none
  | some (.exc c fs, h') => if keepP h h' then some (.exc c fs, h'.take h.length) else none
def endM : RS → R W
  | some (.nx, _, h) => some (.ok (.d .none), h)
  | some (.rt w, _, h) => some (.ok w, h)
  | some (.ex c fs, _, h) => some (.exc c fs, h)
  | _ => none
noncomputable def fnM (np n : Nat) (d : S) : List W → M W := fun ws h => if ws.length = np then clean h (endM (d (ws.map some ++ List.replicate (n - np) none) h)) else none
def fnK (np n : Nat) (d : S) : List W → M W := fun ws h => if ws.length = np then endM (d (ws.map some ++ List.replicate (n - np) none) h) else none

section
variable {K : PySem.W.Frag} {mg : MG} {th th' : Th} {h h' : WH} {H H' : Hp}
theorem relw_lt {w : W} {v : V} (r : RelW K mg th h H w v) : w.lt h.length = true := by
  cases w with
  | loc l => obtain ⟨a, _, _, z⟩ := r; exact decide_eq_true z
  | _ => rfl
theorem relws_lt : ∀ {ws : List W} {vs : List V}, RelWs K mg th h H ws vs → ws.all (W.lt h.length) = true
  | [], _, _ => rfl
  | w :: ws, _, ⟨v, r, e, a, b⟩ => by
    rw [List.all_cons, relw_lt a, relws_lt b]; rfl
theorem relfs_lt : ∀ {ws : List (Str × W)} {vs : List (Str × V)}, RelFs K mg th h H ws vs → ws.all (fun p => p.2.lt h.length) = true
  | [], _, _ => rfl
  | w :: ws, _, ⟨v, r, e, a, b⟩ => by
    rw [List.all_cons, relw_lt a, relfs_lt b]; rfl
theorem RelH.lt (r : RelH K mg th h H) {o : Ob} (m : o ∈ h) : o.lt h.length = true := by
  obtain ⟨l, hl, e⟩ := List.mem_iff_getElem.mp m
  have e1 : h[l]? = some o := by rw [List.getElem?_eq_getElem hl, e]
  have e2 : th.a[l]? = some (th.a[l]'(r.len ▸ hl)) := List.getElem?_eq_getElem _
  have q := r.obj l o _ e1 e2
  cases o with
  | dead => rfl
  | lst ws => obtain ⟨vs, _, s⟩ := q; exact relws_lt s
  | tup ws => obtain ⟨vs, _, s⟩ := q; exact relws_lt s
  | dct kvs => obtain ⟨ks, vs, _, _, s⟩ := q; exact relws_lt s
  | dv kvs => obtain ⟨xs, _, _, s⟩ := q; exact relws_lt s
  | ins c fs => obtain ⟨C, dx, vs, _, _, s⟩ := q; exact relfs_lt s
  | exo c fs => rfl
structure Cut (n : Nat) (th' : Th) (h' : WH) (H' : Hp) : Prop where
  le : n ≤ h'.length
  lv : ∀ a, Lv (th'.cut n) (h'.take n) a → Lv th' h' a
theorem cut_at {n l : Nat} {a : Addr} (hl : l < n) : (th'.cut n).a[l]? = th'.a[l]? := List.getElem?_take_of_lt hl
theorem cut_lv {n : Nat} {a : Addr} (z : Lv (th'.cut n) (h'.take n) a) : th'.hd a ∨ ∃ (l : Nat) (o : Ob), l < n ∧ h'[l]? = some o ∧ o.live = true ∧ th'.a[l]? = some a := by
  rcases z with z | ⟨l, o, e, z, t⟩
  · exact .inl z
  have hl : l < n := by
    have := (List.getElem?_eq_some_iff.mp e).1
    rw [List.length_take] at this; omega
  rw [List.getElem?_take_of_lt hl] at e
  rw [cut_at (a := a) hl] at t
  exact .inr ⟨l, o, hl, e, z, t⟩
theorem cut_le {n : Nat} : Le (hid th' h' H') (hid (th'.cut n) (h'.take n) H') := fun a o e => by
  obtain ⟨q, e⟩ := hid_some.mp e
  refine hid_some.mpr ⟨fun z => q ?_, e⟩
  rcases cut_lv z with z | ⟨l, ob, _, e, z, t⟩
  · exact .inl z
  · exact .inr ⟨l, ob, e, z, t⟩
theorem cut_rel {n : Nat} (hn : n ≤ h'.length) {w : W} {v : V} (r : RelW K mg th' h' H' w v) (l : w.lt n = true) : RelW K mg (th'.cut n) (h'.take n) H' w v := by
  cases w with
  | d x => exact cut_le.fz r
  | fz xs => exact cut_le.dp r
  | loc i =>
    obtain ⟨a, e, t, _⟩ := r
    have hi : i < n := of_decide_eq_true l
    exact ⟨a, e, by rw [cut_at (a := a) hi]; exact t, by rw [List.length_take]; omega⟩
  | ty n => exact r
  | cl c => exact r
theorem cut_rels {n : Nat} (hn : n ≤ h'.length) : ∀ {ws : List W} {vs : List V}, RelWs K mg th' h' H' ws vs → ws.all (W.lt n) = true → RelWs K mg (th'.cut n) (h'.take n) H' ws vs
  | [], _, r, _ => r
  | w :: ws, _, ⟨v, r, e, a, b⟩, l => by
    rw [List.all_cons, Bool.and_eq_true] at l
    exact ⟨v, r, e, cut_rel hn a l.1, cut_rels hn b l.2⟩
theorem cut_relfs {n : Nat} (hn : n ≤ h'.length) : ∀ {ws : List (Str × W)} {vs : List (Str × V)}, RelFs K mg th' h' H' ws vs → ws.all (fun p => p.2.lt n) = true → RelFs K mg (th'.cut n) (h'.take n) H' ws vs
  | [], _, r, _ => r
  | w :: ws, _, ⟨v, r, e, a, b⟩, l => by
    rw [List.all_cons, Bool.and_eq_true] at l
    exact ⟨v, r, e, cut_rel hn a l.1, cut_relfs hn b l.2⟩
theorem fzs_cut {n : Nat} : ∀ {fs : List (Str × PyData)} {vs : List (Str × V)}, RelFs K mg th' h' H' (fs.map fun p => (p.1, W.d p.2)) vs → RelFs K mg (th'.cut n) (h'.take n) H' (fs.map fun p => (p.1, W.d p.2)) vs
  | [], _, r => r
  | _ :: _, _, ⟨v, r, e, a, b⟩ => ⟨v, r, e, cut_le.fz a, fzs_cut b⟩
theorem cut_rx {n : Nat} {c : Str} {fs : List (Str × PyData)} {cls : Value} {dx : Option Addr} (rx : RelX K mg th' h' H' c fs cls dx) : RelX K mg (th'.cut n) (h'.take n) H' c fs cls dx := rx.le cut_le
theorem cut_h (r0 : RelH K mg th h H) (s : Stay th h H th' h' H') (r : RelH K mg th' h' H') (k : keepP h h') :
    Stay th h H (th'.cut h.length) (h'.take h.length) H' ∧ RelH K mg (th'.cut h.length) (h'.take h.length) H' := by
  obtain ⟨hn, k⟩ := k
  have all : ∀ o ∈ h'.take h.length, o.lt h.length = true := by
    rcases k with k | k
    · rw [k]; exact fun o m => r0.lt m
    · exact k
  have inn : ∀ {l : Nat} {o : Ob}, (h'.take h.length)[l]? = some o → l < h.length := fun {l o} e => by
    have := (List.getElem?_eq_some_iff.mp e).1
    rw [List.length_take] at this; omega
  have key : ∀ {l : Nat} {o : Ob} {a : Addr}, (h'.take h.length)[l]? = some o → (th'.cut h.length).a[l]? = some a → h'[l]? = some o ∧ th'.a[l]? = some a := fun {l o a} e t => by
    have hl := inn e
    rw [List.getElem?_take_of_lt hl] at e
    rw [cut_at (a := a) hl] at t
    exact ⟨e, t⟩
  refine ⟨⟨by rw [List.length_take]; omega, fun l a e => ?_, s.keep, s.there, fun a ⟨l, o, e, z, t⟩ => s.newP a ⟨l, o, (key e t).1, z, (key e t).2⟩, s.newH, s.hds⟩, ?_, fun l l' o o' a e z e' z' t t' => ?_, fun l o a e t => ?_, r.tr, fun l o a e z t => r.off l o a (key e t).1 z (key e t).2⟩
  · rw [cut_at (a := a) (by rw [← r0.len]; exact (List.getElem?_eq_some_iff.mp e).1)]
    exact s.pre l a e
  · show (th'.a.take h.length).length = _
    rw [List.length_take, List.length_take, r.len]
  · exact r.inj l l' o o' a (key e t).1 z (key e' t').1 z' (key e t).2 (key e' t').2
  · have al := all o (List.mem_of_getElem? e)
    have q := r.obj l o a (key e t).1 (key e t).2
    cases o with
    | dead => trivial
    | lst ws => obtain ⟨vs, x, y⟩ := q; exact ⟨vs, x, cut_rels hn y al⟩
    | tup ws => obtain ⟨vs, x, y⟩ := q; exact ⟨vs, x, cut_rels hn y al⟩
    | dct kvs => obtain ⟨ks, vs, x, m, y⟩ := q; exact ⟨ks, vs, x, m, cut_rels hn y al⟩
    | dv kvs => obtain ⟨xs, x, ⟨m, ks⟩, y⟩ := q; exact ⟨xs, x, ⟨m, fun y my => cut_le.sqT (ks y my)⟩, cut_rels hn y al⟩
    | ins c fs => obtain ⟨C, dx, vs, x, y, z⟩ := q; exact ⟨C, dx, vs, x, y, cut_relfs hn z al⟩
    | exo c fs => obtain ⟨C, d, x, y⟩ := q; exact ⟨C, d, x, cut_rx y⟩
theorem allM_rel {K2 : PySem.W.Frag} {H2 : Hp} {f : W → Option PyData} (hf : ∀ {w : W} {v : V} {x : PyData}, RelW K mg th' h' H' w v → f w = some x → Fz K2 H2 v x) : ∀ {ws : List W} {vs : List V} {xs : List PyData}, RelWs K mg th' h' H' ws vs → allM f ws = some xs → FzAll K2 H2 vs xs
  | [], _, _, r, e => by cases r; cases e; exact .nil
  | w :: ws, _, xs, ⟨v, r, q, a, b⟩, e => by
    subst q
    have e : (f w).bind (fun x => (allM f ws).map (x :: ·)) = some xs := e
    cases y : f w with
    | none => rw [y] at e; cases e
    | some x =>
      rw [y] at e
      have e : (allM f ws).map (x :: ·) = some xs := e
      cases y2 : allM f ws with
      | none => rw [y2] at e; cases e
      | some x2 =>
        rw [y2] at e; cases e
        exact .cons (hf a y) (allM_rel hf b y2)
theorem fz_kt {K2 : PySem.W.Frag} {H2 : Hp} : ∀ {vs : List V} {xs : List PyData} (ks : List (List Key)), FzAll K2 H2 vs xs → ks.length = vs.length → FzKT K2 H2 (ks.zip vs) ((ks.map keyT).zip xs)
  | _, _, [], .nil, _ => .nil
  | _, _, [], .cons _ _, e => by cases e
  | _, _, k :: ks, .nil, e => by cases e
  | _, _, k :: ks, .cons a b, e => .cons a (fz_kt ks b (Nat.succ.inj e))
theorem datV_rel {n : Nat} (r : RelH K mg th' h' H') : ∀ (k : Nat) {w : W} {v : V} {x : PyData}, RelW K mg th' h' H' w v → datV n h' k w = some x → Fz K (hid (th'.cut n) (h'.take n) H') v x := by
  intro k
  induction k with
  | zero =>
    intro w v x rv e
    cases w with
    | d y => cases e; exact cut_le.fz rv
    | _ => cases e
  | succ k ih =>
    intro w v x rv e
    cases w with
    | d y => cases e; exact cut_le.fz rv
    | fz xs => cases e
    | ty m => cases e
    | cl c => cases e
    | loc l =>
      have e : (if l < n then none else match h'[l]? with
        | some (.lst ws) => (allM (datV n h' k) ws).map PyData.list
        | some (.tup ws) => (allM (datV n h' k) ws).map PyData.tuple
        | some (.dct kvs) => (allM (datV n h' k) (kvs.map Prod.snd)).map fun xs => PyData.dict ((kvs.map Prod.fst).zip xs)
        | _ => none) = some x := e
      split at e
      · cases e
      · rename_i hl
        obtain ⟨a, rfl, t, _⟩ := rv
        have nlv : ∀ o : Ob, h'[l]? = some o → o.live = true → ¬ Lv (th'.cut n) (h'.take n) a := fun o eo zo z => by
          rcases cut_lv z with z | ⟨l2, ob, hl2, e2, z2, t2⟩
          · exact r.off l o a eo zo t z
          have := r.inj l2 l ob o a e2 z2 eo zo t2 t
          omega
        split at e
        · rename_i ws qq
          cases y : allM (datV n h' k) ws with
          | none => rw [y] at e; cases e
          | some ds =>
            rw [y] at e; cases e
            obtain ⟨vs, z, rr⟩ := r.obj l _ a qq t
            exact .lst (hid_some.mpr ⟨nlv _ qq rfl, z⟩) (allM_rel ih rr y)
        · rename_i ws qq
          cases y : allM (datV n h' k) ws with
          | none => rw [y] at e; cases e
          | some ds =>
            rw [y] at e; cases e
            obtain ⟨vs, z, rr⟩ := r.obj l _ a qq t
            exact .tup (.inl (.inl (hid_some.mpr ⟨nlv _ qq rfl, z⟩))) (allM_rel ih rr y)
        · rename_i kvs qq
          cases y : allM (datV n h' k) (kvs.map Prod.snd) with
          | none => rw [y] at e; cases e
          | some ds =>
            rw [y] at e; cases e
            obtain ⟨ks, vs, z, ⟨m1, m2⟩, rr⟩ := r.obj l _ a qq t
            rw [m1]
            exact .dctT (hid_some.mpr ⟨nlv _ qq rfl, z⟩) (fz_kt ks (allM_rel ih rr y) m2)
        · cases e
theorem cut_val {n : Nat} (hn : n ≤ h'.length) (r : RelH K mg th' h' H') {w w' : W} {v : V} (rv : RelW K mg th' h' H' w v) (e : cut n h' w = some w') : RelW K mg (th'.cut n) (h'.take n) H' w' v := by
  cases w with
  | d x => cases e; exact cut_rel hn rv rfl
  | fz xs => cases e; exact cut_rel hn rv rfl
  | ty m => cases e; exact rv
  | cl c => cases e; exact rv
  | loc l =>
    have e : (if l < n then some (.loc l) else match h'[l]? with
      | some (.lst ws) => (dats ws <|> allM (datV n h' 3) ws).map fun ds => W.d (.list ds)
      | some (.tup ws) => (dats ws <|> allM (datV n h' 3) ws).map fun ds => W.d (.tuple ds)
      | some (.dct kvs) => (datV n h' 4 (.loc l)).map W.d
      | _ => none) = some w' := e
    split at e
    · rename_i hl
      cases e
      exact cut_rel hn rv (decide_eq_true hl)
    · rename_i hl
      obtain ⟨a, rfl, t, _⟩ := rv
      have nlv : ∀ o : Ob, h'[l]? = some o → o.live = true → ¬ Lv (th'.cut n) (h'.take n) a := fun o eo zo z => by
        rcases cut_lv z with z | ⟨l2, ob, hl2, e2, z2, t2⟩
        · exact r.off l o a eo zo t z
        have := r.inj l2 l ob o a e2 z2 eo zo t2 t
        omega
      split at e
      · rename_i ws qq
        cases y : dats ws with
        | none =>
          rw [y] at e
          have e : (allM (datV n h' 3) ws).map (fun ds => W.d (.list ds)) = some w' := e
          cases y2 : allM (datV n h' 3) ws with
          | none => rw [y2] at e; cases e
          | some ds =>
            rw [y2] at e; cases e
            obtain ⟨vs, z, rr⟩ := r.obj l _ a qq t
            exact .lst (hid_some.mpr ⟨nlv _ qq rfl, z⟩) (allM_rel (datV_rel r 3) rr y2)
        | some ds =>
          rw [y] at e; cases e
          obtain ⟨vs, z, rr⟩ := r.obj l _ a qq t
          rw [dats_eq y] at rr
          exact .lst (hid_some.mpr ⟨nlv _ qq rfl, z⟩) (cut_le.fzs (dats_rel rr))
      · rename_i ws qq
        cases y : dats ws with
        | none =>
          rw [y] at e
          have e : (allM (datV n h' 3) ws).map (fun ds => W.d (.tuple ds)) = some w' := e
          cases y2 : allM (datV n h' 3) ws with
          | none => rw [y2] at e; cases e
          | some ds =>
            rw [y2] at e; cases e
            obtain ⟨vs, z, rr⟩ := r.obj l _ a qq t
            exact .tup (.inl (.inl (hid_some.mpr ⟨nlv _ qq rfl, z⟩))) (allM_rel (datV_rel r 3) rr y2)
        | some ds =>
          rw [y] at e; cases e
          obtain ⟨vs, z, rr⟩ := r.obj l _ a qq t
          rw [dats_eq y] at rr
          exact .tup (.inl (.inl (hid_some.mpr ⟨nlv _ qq rfl, z⟩))) (cut_le.fzs (dats_rel rr))
      · rename_i kvs qq
        cases y : datV n h' 4 (.loc l) with
        | none => rw [y] at e; cases e
        | some x =>
          rw [y] at e; cases e
          exact datV_rel r 4 (show RelW K mg th' h' H' (.loc l) (.ref a) from ⟨a, rfl, t, ‹_›⟩) y
      · cases e
theorem Goes.clean {r : R W} {ok : W → Th → WH → Hp → Prop} {bad : Bad} (r0 : RelH K mg th h H) (g : Goes K mg th h H (L3.clean h r) ok bad) :
    Goes K mg th h H r (fun w th' h' H' => ∀ v, RelW K mg th' h' H' w v → ∃ w' th2 h2, Stay th h H th2 h2 H' ∧ RelH K mg th2 h2 H' ∧ RelW K mg th2 h2 H' w' v ∧ ok w' th2 h2 H')
      (fun c fs th' h' H' => ∀ cls dx, RelX K mg th' h' H' c fs cls dx → ∃ th2 h2, Stay th h H th2 h2 H' ∧ RelH K mg th2 h2 H' ∧ RelX K mg th2 h2 H' c fs cls dx ∧ bad c fs th2 h2 H') := by
  match r with
  | none => exact g
  | some (.ok w, h') =>
    intro th' H' s q v rv
    have g : Goes K mg th h H (open Classical in if keepP h h' then (match cut h.length h' w with
      | some w' => some (.ok w', h'.take h.length)
      | none => none) else none) ok bad := g
    split at g
    · rename_i k
      cases e : cut h.length h' w with
      | none => rw [e] at g; exact g.elim
      | some w' =>
        rw [e] at g
        obtain ⟨s2, q2⟩ := cut_h r0 s q k
        exact ⟨w', _, _, s2, q2, cut_val k.1 q rv e, g _ _ s2 q2⟩
    · exact g.elim
  | some (.exc c fs, h') =>
    intro th' H' s q cls dx rx
    have g : Goes K mg th h H (open Classical in if keepP h h' then some (.exc c fs, h'.take h.length) else none) ok bad := g
    split at g
    · rename_i k
      obtain ⟨s2, q2⟩ := cut_h r0 s q k
      refine ⟨_, _, s2, q2, ?_, g _ _ s2 q2⟩
      obtain ⟨C, a, b, z⟩ := rx
      refine ⟨C, a, b, z.imp id ?_⟩
      rintro ⟨d, vs, e1, e2, e3⟩
      exact ⟨d, vs, e1, cut_le _ _ e2, fzs_cut e3⟩
    · exact g.elim
end

def okF (K : PySem.W.Frag) (mg : MG) (E : XK) : Bad := fun c fs th h H => ∀ cls dx, RelX K mg th h H c fs cls dx → E cls dx H
def spM (K : PySem.W.Frag) (mg : MG) (m : List W → M W) : Sp := fun vs H Q E =>
  ∃ th h ws, RelWs K mg th h H ws vs ∧ RelH K mg th h H ∧ Goes K mg th h H (m ws h) (okV K mg Q) (okF K mg E)
structure FnG (P : Program) (w : World) (K : PySem.W.Frag) (mg : Str → Option Value) (base : Heap) (k : Nat) (f : Addr) (fd : FuncData) (ps : List Str) (m : List W → M W) : Prop where
  run : ∀ (A : Around) (outer : List Env) (s : Shared) (H : Hp) (args : Args) (us : List Value) (vs : List V) (Q : VK) (E : XK), Room k A → A.guards = some [] → Env0 P w K mg base A outer s H → BindsTo s fd args (ps.zip us) → Vals vs us → vs.length = ps.length →
    spM K (mg, w) m vs H Q E → codeAny (model P w) A (.call (.ref f) args) (CR (L2.CX P w) outer P w H s Q E) s
theorem FnG.mono {P : Program} {w : World} {K : PySem.W.Frag} {mg : Str → Option Value} {base : Heap} {j k : Nat} {f : Addr} {fd : FuncData} {ps : List Str} {m : List W → M W} (F : FnG P w K mg base j f fd ps m) (h : j ≤ k) : FnG P w K mg base k f fd ps m :=
  ⟨fun A outer s H args us vs Q E hr => F.run A outer s H args us vs Q E (hr.mono h)⟩
section
variable {K : PySem.W.Frag} {mg : MG} {th : Th} {h : WH} {H : Hp}
theorem start_rel : ∀ {ws : List W} {vs : List V}, RelWs K mg th h H ws vs → ∀ (n : Nat), RelSt K mg th h H (ws.map some ++ List.replicate n none) (vs.map some ++ List.replicate n none)
  | [], _, r, n => by
    cases r
    refine ⟨by simp, fun i w e => ?_⟩
    rw [List.map_nil, List.nil_append, List.getElem?_replicate] at e
    split at e <;> cases e
  | w :: ws, _, ⟨v, r, e, a, b⟩, n => by
    subst e
    have ih := start_rel b n
    refine ⟨by simpa using ih.len, fun i x e => ?_⟩
    cases i with
    | zero => cases e; exact ⟨v, rfl, a⟩
    | succ i => exact ih.at_ i x e
end
structure FunT (K : PySem.W.Frag) (name qual : Str) (params : Arguments) (body : List Stmt) (scope : Scope) (f : Addr) (fd : FuncData) : Prop where
  ex : ∃ (oc : Value) (od : Option Addr) (dV kV doc pm : Value) (an : Option Addr) (cdv ct : Value) (osl : Array (Option Value)),
    fd = PySem.W.fnOf name qual params body scope dV kV doc pm an cdv ct ∧ K.lookup f = some ⟨oc, od, .func fd, osl⟩ ∧ PySem.W.codeIn K cdv qual = true
  kp : PySem.W.keepIn K (.ref f) = true
abbrev bodyX (P : Program) (w : World) (K : PySem.W.Frag) (mg : Str → Option Value) (base : Heap) (N : List Str) (qual : Str) (scope : Scope) (f : Addr) (cdv : Value) (A : Around) (outer : List Env) (s : Shared) (H : Hp) (E : XK) : Cx :=
  cxOf (L2.CX P w) P w K mg base N qual scope f cdv A outer s H E
structure Rm (k : Nat) (A : Around) : Prop where
  room : Room k A
  gs : A.guards = some []
theorem Rm.mono {j k : Nat} {A : Around} (r : Rm k A) (h : j ≤ k) : Rm j A := ⟨r.room.mono h, r.gs⟩
theorem Rm.u64 {k : Nat} {A : Around} (r : Rm k A) : A.units + 64 < cLine := by have := r.room.un; omega
theorem Rm.u65 {k : Nat} {A : Around} (r : Rm k A) : A.units + 65 < cLine := by have := r.room.un; omega
theorem Rm.u66 {k : Nat} {A : Around} (r : Rm k A) : A.units + 66 < cLine := by have := r.room.un; omega
section
variable {P : Program} {w : World} {K : PySem.W.Frag} {mg : Str → Option Value} {base : Heap} {k : Nat} {f : Addr} {fd : FuncData} {name qual : Str} {params : Arguments} {body : List Stmt} {scope : Scope} {N ps : List Str} {d : S}
theorem fnG_core {m : List W → M W} (T : FunT K name qual params body scope f fd) (Sc : FnScope N ps scope)
    (hm : ∀ {ws : List W} {vs : List V} {th : Th} {h : WH} {H : Hp} {Q : VK} {E : XK}, vs.length = ps.length → RelWs K (mg, w) th h H ws vs → RelH K (mg, w) th h H → Goes K (mg, w) th h H (m ws h) (okV K (mg, w) Q) (okF K (mg, w) E) →
      GoesS K (mg, w) th h H (d (ws.map some ++ List.replicate (N.length - ps.length) none) h) (fun cls dx _ H' => E cls dx H') { nx := fun _ H' => Q .non H', rt := Q })
    (hb : ∀ (cdv : Value) (A : Around) (outer : List Env) (s : Shared) (H : Hp) (E : XK), Rm k (A.deeper (envOfC qual scope s.heap.objs.size f cdv)) → SndB (bodyX P w K mg base N qual scope f cdv A outer s H E) body d) :
    FnG P w K mg base (k + 1) f fd ps m := by
  obtain ⟨oc, od, dV, kV, doc, pm, an, cdv, ct, osl, rfl, lk, hcd⟩ := T.ex
  refine ⟨fun A outer s H args us vs Q E hr hg e0 hbd r hl sp => ?_⟩
  have inK : K.In s.heap := e0.mod.kin.keeps fun b o e => (e0.bs b o e).1
  have noL : s.heap.NoLimit := e0.mod.nolimit.keeps fun b o e => (e0.bs b o e).1
  have kinds : ∀ y ∈ ps.zip us, scope.names.lookup y.1 = some .local ∨ (scope.names.lookup y.1 = some .cell ∧ ((cellsFrom (s.heap.objs.size + 1) scope.names []).lookup y.1).isSome = true) := by
    rintro ⟨n, v⟩ hy
    exact (Sc.par n (List.of_mem_zip hy).1).imp id fun q => ⟨q, PySem.W.cellsFrom_some _ _ _ (.inl q)⟩
  refine codeAny_call_function hr.depth (inK _ _ lk) rfl Sc.co Sc.gen rfl (PySem.W.codeRec_of inK hcd) (hbd _ _ _ _ ?_)
  refine wpAny_newFunctionEnv_cells Sc.kind kinds fun env he s1 x => ?_
  subst he
  refine ⟨noL.keeps x.toInCall.keep, codeAny_func ?_⟩
  have I : Inv (bodyX P w K mg base N qual scope f cdv A outer s H E) [] (start N vs) H s1 := inv_start Sc hr.hd e0 hl r x
  have tk : Takes (bodyX P w K mg base N qual scope f cdv A outer s H E) (fun cls dx _ H' => E cls dx H') := takes_of rfl rfl rfl rfl
  have po := hb cdv A outer s H E ⟨hr.deeper _, hg⟩ _ tk (passes_of rfl)
  obtain ⟨th, h, ws, rw_, rh, g⟩ := sp
  have gs := hm hl rw_ rh g
  have st : RelSt K (mg, w) th h H (ws.map some ++ List.replicate (N.length - ps.length) none) (start N vs) := by
    unfold L2.start
    rw [hl]
    exact start_rel rw_ _
  refine wpAny_mono (po.run [] s1 (start N vs) H { nx := fun _ H' => Q .non H', rt := Q } I ⟨th, h, _, st, rh, gs⟩) (fun fl s' hs => ?_) fun e s' hs => hs
  have fin : ∀ {σ' : L2.St} {H' : Hp} {v : V} {u : Value}, Inv (bodyX P w K mg base N qual scope f cdv A outer s H E) [] σ' H' s' → RelV v u → Q v H' → CE outer P w H s Q u s' := fun {σ' H' v u} J rv q => ⟨v, H', J.os, J.bare, J.base, J.hok, rv, q⟩
  match fl, hs with
  | .ret u, ⟨v, σ', H', J, rv, q⟩ => exact fin J rv q
  | .next, ⟨σ', H', J, q⟩ => exact fin (v := V.non) (u := Value.none) J rfl q
  | .brk, ⟨_, _, _, q⟩ => exact q.elim
  | .cont, ⟨_, _, _, q⟩ => exact q.elim
theorem goes_end {r : RS} {ok : W → Th → WH → Hp → Prop} {bad : Bad} {th : Th} {h : WH} {H : Hp} {Q : VK} {E : XK} (g : Goes K (mg, w) th h H (endM r) ok bad)
    (h1 : ∀ u th' h' H', Stay th h H th' h' H' → RelH K (mg, w) th' h' H' → ok u th' h' H' → ∀ v, RelW K (mg, w) th' h' H' u v → Q v H') (h2 : ∀ c fs th' h' H', Stay th h H th' h' H' → RelH K (mg, w) th' h' H' → bad c fs th' h' H' → ∀ cls dx, RelX K (mg, w) th' h' H' c fs cls dx → E cls dx H') :
    GoesS K (mg, w) th h H r (fun cls dx _ H' => E cls dx H') { nx := fun _ H' => Q .non H', rt := Q } := by
  match r with
  | none => exact g
  | some (.nx, ws, h') => intro th' H' σ' s q _; exact h1 _ _ _ _ s q (g th' H' s q) .non .non
  | some (.rt w, ws, h') => intro th' H' σ' s q _ v rv; exact h1 _ _ _ _ s q (g th' H' s q) v rv
  | some (.bk, ws, h') => exact g.elim
  | some (.ct, ws, h') => exact g.elim
  | some (.ex c fs, ws, h') => intro th' H' σ' s q _ cls dx rx; exact h2 _ _ _ _ _ s q (g th' H' s q) cls dx rx
theorem fnG_of (T : FunT K name qual params body scope f fd) (Sc : FnScope N ps scope)
    (hb : ∀ (cdv : Value) (A : Around) (outer : List Env) (s : Shared) (H : Hp) (E : XK), Rm k (A.deeper (envOfC qual scope s.heap.objs.size f cdv)) → SndB (bodyX P w K mg base N qual scope f cdv A outer s H E) body d) :
    FnG P w K mg base (k + 1) f fd ps (fnM ps.length N.length d) := by
  refine fnG_core T Sc (fun {ws vs th h H Q E} hl rw_ rh g => ?_) hb
  have hw : ws.length = ps.length := (relws_length rw_).symm.trans hl
  unfold fnM at g
  rw [if_pos hw] at g
  refine goes_end (g.clean rh) (fun w th' h' H' s q z v rv => ?_) fun c fs th' h' H' s q z cls dx rx => ?_
  · obtain ⟨w', th2, h2, s2, q2, r2, o⟩ := z v rv
    exact o v r2
  · obtain ⟨th2, h2, s2, q2, r2, o⟩ := z cls dx rx
    exact o cls dx r2
theorem fnK_of (T : FunT K name qual params body scope f fd) (Sc : FnScope N ps scope)
    (hb : ∀ (cdv : Value) (A : Around) (outer : List Env) (s : Shared) (H : Hp) (E : XK), Rm k (A.deeper (envOfC qual scope s.heap.objs.size f cdv)) → SndB (bodyX P w K mg base N qual scope f cdv A outer s H E) body d) :
    FnG P w K mg base (k + 1) f fd ps (fnK ps.length N.length d) := by
  refine fnG_core T Sc (fun {ws vs th h H Q E} hl rw_ rh g => ?_) hb
  have hw : ws.length = ps.length := (relws_length rw_).symm.trans hl
  unfold fnK at g
  rw [if_pos hw] at g
  exact goes_end g (fun w th' h' H' s q z v rv => z v rv) fun c fs th' h' H' s q z cls dx rx => z cls dx rx
end

structure Bnd (K : PySem.W.Frag) (mg : Str → Option Value) (fd : FuncData) (ps : List Str) (n : Nat) (ks : List Str) (gW : List W → List W → List W) : Prop where
  ex : ∃ (g : List Value → List Value → List Value) (gV : List V → List V → List V), KBn K fd ps n ks g gV ∧
    ∀ (w : World) th h H ws vs us zs, RelH K (mg, w) th h H → RelWs K (mg, w) th h H ws vs → RelWs K (mg, w) th h H us zs → ws.length = n → us.length = ks.length → RelWs K (mg, w) th h H (gW ws us) (gV vs zs) ∧ (gW ws us).length = ps.length
def eCall (n k : Nat) (gW : List W → List W → List W) (m : List W → M W) (as ks : DenA) : Den := fun ws h => bindM (as ws h) fun xs h1 => bindM (ks ws h1) fun ys h2 => if xs.length = n ∧ ys.length = k then m (gW xs ys) h2 else none
def SndK (X : Cx) (kws : List Keyword) (d : DenA) : Prop := ∀ Wx, Takes X Wx → PK X kws (rdA X.K (X.mg, X.w) Wx d)
section
variable {X : Cx} {kws : List Keyword} {e : Expr} {de : Den} {dk : DenA} {nm : Option Str} {kpos : Pos}
theorem pk_imp {t t' : TA} (p : PK X kws t) (h : ∀ σ H Q, t' σ H Q → t σ H Q) : PK X kws t' := ⟨fun pos pins s σ H Q I q => p.run pos pins s σ H Q I (h σ H Q q)⟩
theorem sk_nil : SndK X [] aNil := by
  refine fun Wx tk => pk_imp pk_nil fun σ H Q q => ?_
  obtain ⟨th, h, ws, rs, rh, g⟩ := q
  obtain ⟨_, e, g⟩ := Goes.opt g
  cases e
  exact g th H .refl rh [] rfl
theorem sk_cons (ha : SndE X e de) (hr : SndK X kws dk) : SndK X (⟨nm, e, kpos⟩ :: kws) (aCons de dk) := fun Wx tk => pk_imp (pk_cons (ha Wx tk) (hr Wx tk)) ta_cons
end
section
variable {X : Cx} {k n : Nat} {f : Addr} {fd : FuncData} {ps ks : List Str} {m : List W → M W} {gW : List W → List W → List W} {x : Str} {p pos : Pos} {e : Expr} {es : List Expr} {kws : List Keyword} {da dk : DenA}
theorem run_G {pins : List (Addr × Obj)} {σ : L2.St} {H : Hp} {s : Shared} {Q : VK} {us ws : List Value} {vs zs : List V} {Wx : WX} {g : List Value → List Value → List Value} {gV : List V → List V → List V} (F : FnG X.prog X.w X.K X.mg X.base k f fd ps m) (hr : Rm k X.A) (hb : KBn X.K fd ps n ks g gV) (tk : Takes X Wx)
    (I : Inv X pins σ H s) (r : Vals vs us) (rz : Vals zs ws) (l1 : vs.length = n) (l2 : zs.length = ks.length) (l3 : (gV vs zs).length = ps.length) (h : spM X.K (X.mg, X.w) m (gV vs zs) H Q (WE Wx σ)) : wpAny (model X.prog X.w) X.A (call (.ref f) us (ks.zip ws)) (EP X pins σ Q) X.xe s := by
  have r2 := hb.rel r rz
  have b := hb.to s us ws I.kIn (r.length.symm.trans l1) (rz.length.symm.trans l2)
  refine wpAny_call (codeAny_mono (F.run X.A X.stack s H ⟨us, ks.zip ws⟩ (g us ws) (gV vs zs) Q (WE Wx σ) hr.room hr.gs I.env0 b r2 l3 h) fun rr s' hq => ?_)
  match rr, hq with
  | .error err, hq => exact passAt tk σ pins H s err s' I hq
  | .ok (.ret u), hq => exact I.after hq
  | .ok .next, hq => exact hq.elim
  | .ok .brk, hq => exact hq.elim
  | .ok .cont, hq => exact hq.elim
theorem rd_call {Wx : WX} {σ : L2.St} {H : Hp} {Q : VK} (q : rdE X.K (X.mg, X.w) Wx (eCall n ks.length gW m da dk) σ H Q) (B : Bnd X.K X.mg fd ps n ks gW) :
    ∃ (g : List Value → List Value → List Value) (gV : List V → List V → List V), KBn X.K fd ps n ks g gV ∧
      rdA X.K (X.mg, X.w) Wx da σ H fun vs H1 => rdA X.K (X.mg, X.w) Wx dk σ H1 fun zs H2 => vs.length = n ∧ zs.length = ks.length ∧ (gV vs zs).length = ps.length ∧ spM X.K (X.mg, X.w) m (gV vs zs) H2 Q (WE Wx σ) := by
  obtain ⟨g, gV, kb, hrel⟩ := B.ex
  refine ⟨g, gV, kb, ?_⟩
  obtain ⟨th, h, ws, rs, rh, gg⟩ := q
  refine ⟨th, h, ws, rs, rh, (Goes.bind gg).imp (fun xs th1 h1 H1 s1 r1 g1 vs rv => ?_) fun _ _ _ _ _ _ _ z => z⟩
  refine ⟨th1, h1, ws, rs.stay s1, r1, (Goes.bind g1).imp (fun ys th2 h2 H2 s2 r2 g2 zs rz => ?_) fun _ _ _ _ _ _ _ z => z⟩
  split at g2
  · rename_i hl
    obtain ⟨a, b⟩ := hrel X.w th2 h2 H2 xs vs ys zs r2 (rv.stay s2) rz hl.1 hl.2
    exact ⟨(relws_length rv).trans hl.1, (relws_length rz).trans hl.2, (relws_length a).trans b, th2, h2, _, a, r2, g2⟩
  · exact g2.elim
theorem sn_call (F : FnG X.prog X.w X.K X.mg X.base k f fd ps m) (hr : Rm k X.A) (hg : Gl X x) (hm : X.mg x = some (.ref f)) (hk : PySem.W.keepIn X.K (.ref f) = true) (B : Bnd X.K X.mg fd ps n ks gW)
    (ha : SndA X (e :: es) da) (hkw : SndK X kws dk) (hall : (backToKw pos (keywordEach kws X.env)).all (·.1.isSome) = true := by rfl) (hks : (backToKw pos (keywordEach kws X.env)).filterMap (·.1) = ks := by rfl)
    (hdb : (x == ("__debug__" : Str)) = false := by decide) (he : starEach (e :: es) X.env = (false, eval e X.env) :: starEach es X.env := by rfl)
    (hpl : ((backTo pos (starEach (e :: es) X.env)).any (·.1) || (backToKw pos (keywordEach kws X.env)).any (·.1.isNone)) = false := by rfl) :
    SndE X (.Call (.Name x p) (e :: es) kws pos) (eCall n ks.length gW m da dk) := by
  refine fun Wx tk => ⟨fun pins s σ H Q I q => ?_⟩
  obtain ⟨g, gV, kb, q⟩ := rd_call q B
  refine wpAny_Call_Name_kw (ld_glob I hg hm ?_ hdb)
  refine PySem.W.callWith_KW (h₀ := X.base) I.ok.mod.kin hk hall (thn ((ha Wx tk).run pos pins s σ H _ I q) fun us s1 ⟨vs, H1, I1, r, q1⟩ => ?_) hpl he
  refine thn ((hkw Wx tk).run pos pins s1 σ H1 _ I1 q1) fun ws s2 ⟨zs, H2, I2, rz, l1, l2, l3, q2⟩ => ⟨I2.kIn, ?_⟩
  rw [hks]
  exact run_G F hr kb tk I2 r rz l1 l2 l3 q2
theorem sn_callk (F : FnG X.prog X.w X.K X.mg X.base k f fd ps m) (hr : Rm k X.A) (hg : Gl X x) (hm : X.mg x = some (.ref f)) (hk : PySem.W.keepIn X.K (.ref f) = true) (B : Bnd X.K X.mg fd ps 0 ks gW)
    (hkw : SndK X kws dk) (hall : (backToKw pos (keywordEach kws X.env)).all (·.1.isSome) = true := by rfl) (hks : (backToKw pos (keywordEach kws X.env)).filterMap (·.1) = ks := by rfl)
    (hdb : (x == ("__debug__" : Str)) = false := by decide)
    (hpl : ((backTo pos (starEach [] X.env)).any (·.1) || (backToKw pos (keywordEach kws X.env)).any (·.1.isNone)) = false := by rfl) :
    SndE X (.Call (.Name x p) [] kws pos) (eCall 0 ks.length gW m aNil dk) := by
  refine fun Wx tk => ⟨fun pins s σ H Q I q => ?_⟩
  obtain ⟨g, gV, kb, q⟩ := rd_call q B
  have q : rdA X.K (X.mg, X.w) Wx dk σ H fun zs H2 => ([] : List V).length = 0 ∧ zs.length = ks.length ∧ (gV [] zs).length = ps.length ∧ spM X.K (X.mg, X.w) m (gV [] zs) H2 Q (WE Wx σ) := by
    obtain ⟨th, h, ws, rs, rh, gg⟩ := q
    obtain ⟨_, e, gg⟩ := Goes.opt gg
    cases e
    exact gg th H .refl rh [] rfl
  refine wpAny_Call_Name_kw (ld_glob I hg hm ?_ hdb)
  refine PySem.W.callWith_KW0 (h₀ := X.base) I.ok.mod.kin hk hall ?_ hpl
  refine thn ((hkw Wx tk).run pos pins s σ H _ I q) fun ws s2 ⟨zs, H2, I2, rz, l1, l2, l3, q2⟩ => ⟨I2.kIn, ?_⟩
  rw [hks]
  exact run_G (us := []) (vs := []) F hr kb tk I2 .nil rz rfl l2 l3 q2
end
def scriptW (ns : List Int) : W := .fz (ns.map PyData.int)
theorem dps_ints {K : PySem.W.Frag} {H : Hp} : ∀ ns : List Int, DpAll K H (ns.map V.int) (ns.map PyData.int)
  | [] => .nil
  | n :: ns => .cons (.int n) (dps_ints ns)
def LawOk (m : List W → M W) (n : Nat) : Prop := ∀ ns : List Int, ns.length ≤ n → ∃ h, m [scriptW ns] [] = some (.ok (.d (.bool true)), h)
theorem lawG {P : Program} {w : World} {K : PySem.W.Frag} {mg mb : Str → Option Value} {k : Nat} {fa a : Addr} {fd : FuncData} {x : Str} {m : List W → M W} {s1 : Shared} {vs : List Value} {ns : List Int}
    (inK : K.In s1.heap) (hns : s1.heap.Ns mainGlobals mg) (hbn : s1.heap.Ns builtinsNs mb) (hbb : ∀ x : Str, x ≠ "__name__" → mb x = bootBuiltins x) (hlim : s1.heap.NoLimit) (hgen : s1.gens = #[])
    (ha : s1.heap.get? a = some { cls := .type "list", data := .seq vs.toArray }) (hi : IntsAre vs ns) (hl : ns.length ≤ sizeLine) (hr : Room k callerA)
    (F : ∀ base : Heap, K.In base → base.Ns mainGlobals mg → FnG P w K mg base k fa fd [x] m) (hbind : ∀ (s : Shared) (u : Value), BindsTo s fd ⟨[u], []⟩ [(x, u)])
    (hlaw : ∃ h, m [scriptW ns] [] = some (.ok (.d (.bool true)), h)) :
    codeAny (model P w) callerA (.call (.ref fa) ⟨[.ref a], []⟩) (fun r s' => r = .ok (.ret (.bool true)) ∧ OldK s1.heap s'.heap ∧ s'.os = s1.os ∧ AllBare s'.gens) s1 := by
  have rv := vals_ints hi
  have lenV := hi.length
  have core : ∀ H : Hp, Only H → SqL K H a (ns.map V.int) → HOk P w H s1.heap → (∀ b, H b ≠ none → b = a) → (H a ≠ none → K.lookup a = none) →
      codeAny (model P w) callerA (.call (.ref fa) ⟨[.ref a], []⟩) (fun r s' => r = .ok (.ret (.bool true)) ∧ OldK s1.heap s'.heap ∧ s'.os = s1.os ∧ AllBare s'.gens) s1 := by
    intro H hO hS hok hA hK
    have atA : ∀ {b : Addr}, H b ≠ none → b = a := fun {b} z => hA b z
    have free : ∀ {b : Addr} {o : Obj}, s1.heap.get? b = some o → (b = a → False) → H b = none := fun {b o} e n => by
      cases q : H b with
      | none => rfl
      | some u => exact (n (atA (by rw [q]; simp))).elim
    have dictF : ∀ {b : Addr} {o : Obj} {es : Array DictEntry} {ep : Nat}, s1.heap.get? b = some o → o.data = .dict es ep → H b = none := fun {b o es ep} e d => free e fun z => by
      subst z; rw [ha] at e; cases e; cases (show Data.seq vs.toArray _ = Data.dict es ep from d)
    have nsH : ∀ {b : Addr} {m : Str → Option Value}, s1.heap.Ns b m → (hidT s1.heap H).Ns b m := fun {b m} ⟨o, es, ep, e, d, r⟩ => ⟨o, es, ep, hidT_get e (dictF e d), d, r⟩
    have inB : K.In (hidT s1.heap H) := fun b o e => hidT_get (inK b o e) (by
      cases q : H b with
      | none => rfl
      | some u =>
        have z := atA (b := b) (by rw [q]; simp)
        subst z
        rw [hK (by rw [q]; simp)] at e; cases e)
    have hM : Mod K mg (hidT s1.heap H) := ⟨inB, nsH hns, ⟨mb, nsH hbn, hbb⟩, hlim.elim fun mc ⟨h1, h2⟩ => ⟨mc, nsH h1, h2⟩⟩
    have e0 : Env0 P w K mg (hidT s1.heap H) callerA [] s1 H := ⟨rfl, hM, fun b o e => of_hidT e, Nat.le_of_eq (hidT_size _ _), trivial, fun b hb => (by cases (show b ∈ ([] : List Addr) from hb)), hok, .of_eq hgen⟩
    have sp : spM K (mg, w) m [.ref a] H (fun v _ => v = .bl true) fun _ _ _ => False := by
      obtain ⟨h, e⟩ := hlaw
      have nl : ∀ b, ¬ Lv ⟨[], fun _ => False⟩ ([] : WH) b := fun b z => z.elim id fun ⟨l, o, e, _⟩ => by simp at e
      have lh : Le H (hid ⟨[], fun _ => False⟩ [] H) := fun b o e => hid_some.mpr ⟨nl b, e⟩
      refine ⟨⟨[], fun _ => False⟩, [], [scriptW ns], ⟨_, _, rfl, .lst (lh.sqL hS) (dps_ints ns), rfl⟩, ⟨rfl, fun l l' o o' b e => by simp at e, fun l o b e => by simp at e, fun b z => z.elim, fun l o b e => by simp at e⟩, ?_⟩
      rw [e]
      exact fun th' H' _ _ v r => rel_bl r
    refine codeAny_mono ((F _ inB (nsH hns)).run callerA [] s1 H ⟨[.ref a], []⟩ [.ref a] [.ref a] _ _ hr rfl e0 (hbind s1 (.ref a)) (.cons rfl .nil) rfl sp) fun r s' h => ?_
    match r, h with
    | .error err, h =>
      obtain ⟨_, _, _, _, _, _, _, _, _, _, _, _, z⟩ := h
      exact z.elim
    | .ok .next, h => exact h.elim
    | .ok .brk, h => exact h.elim
    | .ok .cont, h => exact h.elim
    | .ok (.ret u), ⟨v, H', os, bare, un, hok', r', q⟩ =>
      obtain rfl : v = .bl true := q
      obtain rfl : u = Value.bool true := r'
      refine ⟨rfl, OldK.of_keep fun b o e => ?_, os, bare⟩
      cases q : H b with
      | none => exact un.keep b o e q (fun z => (by cases (show b ∈ ([] : List Addr) from z))) (by simp)
      | some u =>
        rcases hO b with z | ⟨ob, xs, z⟩
        · rw [q] at z; cases z
        · obtain ⟨e1, _⟩ := hok b _ z
          obtain ⟨e2, _⟩ := hok' b _ (un.frzs b ob _ z)
          rw [e] at e1; cases e1
          exact e2
  cases hk : K.lookup a with
  | some o =>
    have e := inK a o hk
    rw [ha] at e
    cases e
    exact core (fun _ => none) (fun _ => .inl rfl) (.inr ⟨_, vs.toArray, _, hk, rfl, rfl, rfl, by rw [List.size_toArray, lenV]; exact hl, by simpa using rv⟩) (fun b u z => by cases (show (none : Option HO) = some u from z)) (fun b z => absurd rfl z) fun z => absurd rfl z
  | none =>
    have at_ : ∀ {b : Addr}, b ≠ a → (if b = a then some (HO.frz { cls := .type "list", data := .seq vs.toArray } (.lst (ns.map V.int))) else none) = none := fun n => if_neg n
    refine core (fun b => if b = a then some (.frz { cls := .type "list", data := .seq vs.toArray } (.lst (ns.map V.int))) else none) (fun b => ?_) (.inl (.inr ⟨_, if_pos rfl⟩)) (fun b u z => ?_) (fun b z => ?_) fun _ => hk
    · by_cases hb : b = a
      · exact .inr ⟨_, _, if_pos hb⟩
      · exact .inl (at_ hb)
    · by_cases hb : b = a
      · subst hb
        cases (if_pos rfl).symm.trans z
        exact ⟨ha, by rw [List.length_map]; exact hl, vs, _, rv, ha⟩
      · cases (at_ hb).symm.trans z
    · by_cases hb : b = a
      · exact hb
      · exact absurd (at_ hb) z
theorem walkG {l : PySem.W.OpenLaw} {n k : Nat} {q : Program} {loose : List Str} {XP : (Str → Option Value) → Heap → Prop} {YP : World → Heap → Prop} {d : DefRec} {K : Params → PySem.W.Frag} {m : List W → M W} {x : Str}
    (hn : l.most = some n) (hn2 : n ≤ sizeLine) (hdf : d.params.defaults = []) (hr : Room k callerA)
    (hY : ∀ (w : World) (h : Heap), YP w h → (K w.params).In h)
    (F : ∀ (w : World) (mg : Str → Option Value) (fa : Addr) (h : Heap), (K w.params).In h → h.Ns mainGlobals mg → mg d.name = some (.ref fa) →
      ∃ fd : FuncData, (∀ (s : Shared) (u : Value), BindsTo s fd ⟨[u], []⟩ [(x, u)]) ∧ ∀ base : Heap, (K w.params).In base → base.Ns mainGlobals mg → FnG l.prog w (K w.params) mg base k fa fd [x] m)
    (hlaw : LawOk m n) : PySem.W.WalkO q loose XP YP l.row.toRowW d [] (fun f vs => PySem.call f vs) := by
  refine Att.attach_call hn hdf fun w s0 s1 mg mb fa o pm cd doc a vs ns G Y ho hd hcd hmg hobj hints hlen hg => ?_
  have inK := hY w _ Y
  obtain ⟨fd, hb, hF⟩ := F w mg fa _ inK G.T.g hmg
  exact lawG inK G.T.g G.T.b G.T.builtins G.T.nolimit hg hobj hints (Nat.le_trans hlen hn2) hr hF hb (hlaw ns hlen)
end L3

namespace L3
open PySem PySem.Spec PyProof.Rows L2

inductive Tg where
  | one (i : Nat)
  | many (is : List Nat)
def Tg.slots : Tg → List Nat
  | .one i => [i]
  | .many is => is
def Tg.dn : Tg → DenG
  | .one i => gName1 i
  | .many is => gNamesN is
def Tg.v (K : PySem.W.Frag) : Tg → TG
  | .one i => gName i
  | .many is => gUnp K is
def wipeW (ws : WSt) : List Nat → WSt
  | [] => ws
  | v :: vs => (wipeW ws vs).set v none
theorem wipe_set {σ : L2.St} {i : Nat} {x : Option V} : ∀ {vs : List Nat}, i ∈ vs → wipe (σ.set i x) vs = wipe σ vs
  | v :: vs, m => by
    unfold wipe
    by_cases hi : i ∈ vs
    · rw [wipe_set hi]
    · have e : i = v := (List.mem_cons.mp m).resolve_right hi
      subst e
      have : ∀ (us : List Nat), i ∉ us → wipe (σ.set i x) us = (wipe σ us).set i x := by
        intro us
        induction us with
        | nil => intro _; rfl
        | cons u us ih =>
          intro hu
          have h1 : i ≠ u := fun z => hu (z ▸ List.mem_cons_self ..)
          have h2 : i ∉ us := fun z => hu (List.mem_cons_of_mem _ z)
          show (wipe (σ.set i x) us).set u none = ((wipe σ us).set u none).set i x
          rw [ih h2, List.set_comm _ _ h1]
      rw [this vs hi, List.set_set]
theorem wipe_setV : ∀ {is : List Nat} {vs : List V} {σ : L2.St} {us : List Nat}, (∀ i ∈ is, i ∈ us) → wipe (setV is vs σ) us = wipe σ us
  | [], vs, σ, us, _ => by cases vs <;> rfl
  | i :: is, [], σ, us, _ => rfl
  | i :: is, v :: vs, σ, us, h => by
    show wipe (setV is vs (σ.set i (some v))) us = _
    rw [wipe_setV fun j hj => h j (List.mem_cons_of_mem _ hj), wipe_set (h i (List.mem_cons_self ..))]
theorem wipe_wipe (σ : L2.St) (vs : List Nat) : wipe (wipe σ vs) vs = wipe σ vs := by
  have key : ∀ (us : List Nat), (∀ u ∈ us, u ∈ vs) → wipe (wipe σ us) vs = wipe σ vs := by
    intro us
    induction us with
    | nil => intro _; rfl
    | cons u us ih =>
      intro h
      show wipe ((wipe σ us).set u none) vs = _
      rw [wipe_set (h u (List.mem_cons_self ..))]
      exact ih fun x hx => h x (List.mem_cons_of_mem _ hx)
  exact key vs fun _ h => h
section
variable {K : PySem.W.Frag} {mg : MG} {th : Th} {h : WH} {H : Hp}
theorem RelSt.wipe {ws : WSt} {σ : L2.St} (r : RelSt K mg th h H ws σ) : ∀ vs : List Nat, RelSt K mg th h H (wipeW ws vs) (L2.wipe σ vs)
  | [] => r
  | v :: vs => by
    have ih := RelSt.wipe r vs
    unfold wipeW L2.wipe
    refine ⟨by rw [List.length_set, List.length_set, ih.len], fun j w e => ?_⟩
    by_cases hj : v = j
    · subst hj
      by_cases hl : v < (wipeW ws vs).length
      · rw [List.getElem?_set_self hl] at e; cases e
      · rw [List.getElem?_eq_none (by simpa using Nat.le_of_not_lt hl)] at e; cases e
    · rw [List.getElem?_set_ne hj] at e
      rw [List.getElem?_set_ne hj]
      exact ih.at_ j w e
theorem tg_v {t : Tg} {ws ws' : WSt} {σ : L2.St} {w : W} {v : V} {h1 : WH} (rs : RelSt K mg th h H ws σ) (rw_ : RelW K mg th h H w v) (rh : RelH K mg th h H) (e : t.dn w ws h = some (.ok ws', h1)) :
    h1 = h ∧ ∀ Q : L2.St → Hp → Prop, (∀ σ', RelSt K mg th h H ws' σ' → (∀ vs, (∀ i ∈ t.slots, i ∈ vs) → L2.wipe σ' vs = L2.wipe σ vs) → Q σ' H) → t.v K v σ H Q := by
  cases t with
  | one i =>
    have e : optM (some (ws.set i (some w))) h = some (.ok ws', h1) := e
    cases e
    exact ⟨rfl, fun Q q => q _ (rs.set rw_ i) fun vs hv => wipe_set (hv i (List.mem_cons_self ..))⟩
  | many is =>
    have e : gNamesN is w ws h = some (.ok ws', h1) := e
    unfold gNamesN at e
    split at e
    · rename_i nf
      unfold gNames at e
      split at e
      · rename_i xs qq
        split at e
        · rename_i hl
          cases e
          obtain ⟨a, vs, rfl, sq, rr⟩ := items_at rw_ rh qq
          rcases rr with rr | ⟨ds, rfl, _⟩
          · exact ⟨rfl, fun Q q => ⟨a, vs, rfl, sq, (relws_length rr).trans hl, q _ (rs.setAll rr) fun us hu => wipe_setV hu⟩⟩
          · cases nf
        · cases e
      · cases e
    · cases e
end

open Classical in
noncomputable def compL (g : DenG) (tt : DenT) (de : Den) (ws0 : WSt) (gd : WH → Prop) : List W → List W → M (List W)
  | [], acc, h => some (.ok acc, h)
  | w :: r, acc, h => match g w ws0 h with
    | some (.ok ws2, h2) => match tt ws2 h2 with
      | some (.ok b, h3) => if b = true then (match de ws2 h3 with
        | some (.ok y, h4) => if acc.length < sizeLine then (if gd h4 then compL g tt de ws0 gd r (acc ++ [y]) h4 else none) else none
        | _ => none) else if gd h3 then compL g tt de ws0 gd r acc h3 else none
      | _ => none
    | _ => none
noncomputable def eCompA (vs : List Nat) (di : DenI) (t : Tg) (tt : DenT) (de : Den) : WSt → M (List W) := fun ws h => bindM (di ws h) fun wk h1 => compL t.dn tt de (wipeW ws vs) wk.gd wk.xs [] h1
noncomputable def eComp (vs : List Nat) (di : DenI) (t : Tg) (tt : DenT) (de : Den) : Den := fun ws h => bindM (eCompA vs di t tt de ws h) fun acc h2 => optM ((dats acc).map fun ds => W.d (.list ds)) h2
def tTrue : DenT := fun _ => optM (some true)
def SndTs (X : Cx) (ifs : List Expr) (tt : DenT) : Prop := ∀ Wx, Takes X Wx → PTs X ifs (rdT X.K (X.mg, X.w) Wx tt)
section
variable {X : Cx} {c : Expr} {dc : DenT}
theorem pts_imp {ifs : List Expr} {t t' : TT} (p : PTs X ifs t) (h : ∀ σ H Q, t' σ H Q → t σ H Q) : PTs X ifs t' := ⟨fun pins s σ H Q I q => p.run pins s σ H Q I (h σ H Q q)⟩
theorem sts_nil : SndTs X [] tTrue := by
  refine fun Wx tk => pts_imp pts_nil fun σ H Q q => ?_
  obtain ⟨th, h, ws, rs, rh, g⟩ := q
  obtain ⟨k, e, g⟩ := Goes.opt g
  cases e
  exact g th H .refl rh
theorem sts_one (hc : SndT X c dc) : SndTs X [c] dc := fun Wx tk => pts_one (hc Wx tk)
end
def W0 : WX := fun _ _ _ _ => False
section
variable {K : PySem.W.Frag} {mg : MG} {th th1 : Th} {h h1 : WH} {H H1 : Hp}
def Th.hide (th : Th) (D : Addr) : Th := { th with hd := fun a => th.hd a ∨ a = D }
def Th.show (th : Th) (D : Addr) : Th := { th with hd := fun a => th.hd a ∧ a ≠ D }
theorem RelH.hideNew (rh : RelH K mg th h H) {D : Addr} (n : H D = none) (u : HO) : Stay th h H (th.hide D) h (L2.upd H D u) ∧ RelH K mg (th.hide D) h (L2.upd H D u) := by
  have up : ∀ {a : Addr}, H a ≠ none → L2.upd H D u a ≠ none := fun {a} z => by
    by_cases ha : a = D
    · subst ha; rw [upd_same]; simp
    · rw [upd_ne ha]; exact z
  have s : Stay th h H (th.hide D) h (L2.upd H D u) := by
    refine ⟨Nat.le_refl _, fun _ _ e => e, fun a o e _ => Le.upd n a o e, fun a z => ?_, fun a z => .inl z, fun a z => ?_, fun a z => .inl z⟩
    · cases q : H a with
      | none => rfl
      | some o => exact absurd z (up (by rw [q]; simp))
    · rcases z with z | rfl
      · exact .inl z
      · exact .inr n
  refine ⟨s, rh.len, rh.inj, fun l o a e t => ?_, fun a z => ?_, fun l o a e z t y => ?_⟩
  · cases z : o.live with
    | false => cases o <;> first | trivial | cases z
    | true =>
      have na : a ≠ D := fun q => by subst q; exact rh.trk (.inr ⟨l, o, e, z, t⟩) n
      exact (rh.obj l o a e t).stay s (upd_ne na)
  · rcases z with z | rfl
    · exact up (rh.tr a z)
    · rw [upd_same]; simp
  · rcases y with y | rfl
    · exact rh.off l o a e z t y
    · exact rh.trk (.inr ⟨l, o, e, z, t⟩) n
theorem poke_le {D : Addr} (hd : th.hd D) (u : HO) : Le (hid th h H) (hid th h (L2.upd H D u)) := fun a o e => by
  obtain ⟨q, e⟩ := hid_some.mp e
  have na : a ≠ D := fun z => q (.inl (z ▸ hd))
  exact hid_some.mpr ⟨q, by rw [upd_ne na]; exact e⟩
theorem poke_rel {D : Addr} (hd : th.hd D) (u : HO) {w : W} {v : V} (r : RelW K mg th h H w v) : RelW K mg th h (L2.upd H D u) w v := by
  cases w with
  | d x => exact (poke_le hd u).fz r
  | fz xs => exact (poke_le hd u).dp r
  | loc l => exact r
  | ty n => exact r
  | cl c => exact r
theorem poke_rels {D : Addr} (hd : th.hd D) (u : HO) : ∀ {ws : List W} {vs : List V}, RelWs K mg th h H ws vs → RelWs K mg th h (L2.upd H D u) ws vs
  | [], _, r => r
  | _ :: _, _, ⟨v, r, e, a, b⟩ => ⟨v, r, e, poke_rel hd u a, poke_rels hd u b⟩
theorem poke_relfs {D : Addr} (hd : th.hd D) (u : HO) : ∀ {ws : List (Str × W)} {vs : List (Str × V)}, RelFs K mg th h H ws vs → RelFs K mg th h (L2.upd H D u) ws vs
  | [], _, r => r
  | _ :: _, _, ⟨v, r, e, a, b⟩ => ⟨v, r, e, poke_rel hd u a, poke_relfs hd u b⟩
theorem RelH.poke (rh : RelH K mg th h H) {D : Addr} (hd : th.hd D) (u : HO) : RelH K mg th h (L2.upd H D u) := by
  refine ⟨rh.len, rh.inj, fun l o a e t => ?_, fun a z => ?_, rh.off⟩
  · have q := rh.obj l o a e t
    cases z : o.live with
    | false => cases o <;> first | trivial | cases z
    | true =>
      have na : a ≠ D := fun q => rh.off l o a e z t (q ▸ hd)
      have ea : L2.upd H D u a = H a := upd_ne na
      cases o with
      | dead => trivial
      | lst ws => obtain ⟨vs, x, y⟩ := q; exact ⟨vs, ea.trans x, poke_rels hd u y⟩
      | tup ws => obtain ⟨vs, x, y⟩ := q; exact ⟨vs, ea.trans x, poke_rels hd u y⟩
      | dct kvs => obtain ⟨ks, vs, x, m, y⟩ := q; exact ⟨ks, vs, ea.trans x, m, poke_rels hd u y⟩
      | dv kvs => obtain ⟨xs, x, ⟨m, ks⟩, y⟩ := q; exact ⟨xs, ea.trans x, ⟨m, fun z mz => (poke_le hd u).sqT (ks z mz)⟩, poke_rels hd u y⟩
      | ins c fs => obtain ⟨C, dx, vs, x, y, z⟩ := q; exact ⟨C, dx, vs, x, ea.trans y, poke_relfs hd u z⟩
      | exo c fs => obtain ⟨C, d, x, y⟩ := q; exact ⟨C, d, ea.trans x, y.le (poke_le hd u)⟩
  · by_cases ha : a = D
    · subst ha; rw [upd_same]; simp
    · rw [upd_ne ha]; exact rh.tr a z
theorem Stay.poke {th0 : Th} {h0 : WH} {H0 : Hp} (s : Stay th0 h0 H0 th h H) {D : Addr} (n : H0 D = none) (u : HO) : Stay th0 h0 H0 th h (L2.upd H D u) := by
  refine ⟨s.len, s.pre, fun a o e np => ?_, fun a z => ?_, s.newP, s.newH, s.hds⟩
  · rw [upd_ne (ne_of_none e n)]; exact s.keep a o e np
  · by_cases ha : a = D
    · subst ha; exact n
    · rw [upd_ne ha] at z; exact s.there a z
theorem show_lv {D a : Addr} (z : Lv (th.show D) h a) : Lv th h a := by
  rcases z with z | z
  · exact .inl z.1
  · exact .inr z
theorem show_le {D : Addr} : Le (hid th h H) (hid (th.show D) h H) := fun a o e => by
  obtain ⟨q, e⟩ := hid_some.mp e
  exact hid_some.mpr ⟨fun z => q (show_lv z), e⟩
theorem show_rel {D : Addr} {w : W} {v : V} (r : RelW K mg th h H w v) : RelW K mg (th.show D) h H w v := by
  cases w with
  | d x => exact show_le.fz r
  | fz xs => exact show_le.dp r
  | loc l => exact r
  | ty n => exact r
  | cl c => exact r
theorem show_rels {D : Addr} : ∀ {ws : List W} {vs : List V}, RelWs K mg th h H ws vs → RelWs K mg (th.show D) h H ws vs
  | [], _, r => r
  | _ :: _, _, ⟨v, r, e, a, b⟩ => ⟨v, r, e, show_rel a, show_rels b⟩
theorem show_relfs {D : Addr} : ∀ {ws : List (Str × W)} {vs : List (Str × V)}, RelFs K mg th h H ws vs → RelFs K mg (th.show D) h H ws vs
  | [], _, r => r
  | _ :: _, _, ⟨v, r, e, a, b⟩ => ⟨v, r, e, show_rel a, show_relfs b⟩
theorem RelH.shown (rh : RelH K mg th h H) (D : Addr) : RelH K mg (th.show D) h H := by
  refine ⟨rh.len, rh.inj, fun l o a e t => ?_, fun a z => rh.tr a z.1, fun l o a e z t y => rh.off l o a e z t y.1⟩
  have q := rh.obj l o a e t
  cases o with
  | dead => trivial
  | lst ws => obtain ⟨vs, x, y⟩ := q; exact ⟨vs, x, show_rels y⟩
  | tup ws => obtain ⟨vs, x, y⟩ := q; exact ⟨vs, x, show_rels y⟩
  | dct kvs => obtain ⟨ks, vs, x, m, y⟩ := q; exact ⟨ks, vs, x, m, show_rels y⟩
  | dv kvs => obtain ⟨xs, x, ⟨m, ks⟩, y⟩ := q; exact ⟨xs, x, ⟨m, fun z mz => show_le.sqT (ks z mz)⟩, show_rels y⟩
  | ins c fs => obtain ⟨C, dx, vs, x, y, z⟩ := q; exact ⟨C, dx, vs, x, y, show_relfs z⟩
  | exo c fs => obtain ⟨C, d, x, y⟩ := q; exact ⟨C, d, x, y.le show_le⟩
theorem Stay.shown (s : Stay th h H th1 h1 H1) {D : Addr} (n : ¬ th.hd D) : Stay th h H (th1.show D) h1 H1 :=
  ⟨s.len, s.pre, s.keep, s.there, s.newP, fun a z => s.newH a z.1, fun a z => ⟨s.hds a z, fun q => n (q ▸ z)⟩⟩
theorem fzs_snoc {ws : List W} {vs : List V} {w : W} {v : V} : RelWs K mg th h H ws vs → RelW K mg th h H w v → RelWs K mg th h H (ws ++ [w]) (vs ++ [v]) := by
  intro r q
  induction ws generalizing vs with
  | nil => cases r; exact ⟨v, [], rfl, q, rfl⟩
  | cons x xs ih =>
    obtain ⟨u, us, rfl, a, b⟩ := r
    exact ⟨u, us ++ [v], rfl, a, ih b⟩
theorem RelH.list (rh : RelH K mg th h H) {D : Addr} {xs : List PyData} {vs : List V} (hd : th.hd D) (e : H D = some (.lst vs)) (r : FzAll K (hid th h H) vs xs) : RelW K mg (th.show D) h H (.d (.list xs)) (.ref D) := by
  refine .lst (hid_some.mpr ⟨fun z => ?_, e⟩) (show_le.fzs r)
  rcases z with z | ⟨l, o, x, y, t⟩
  · exact z.2 rfl
  · exact rh.off l o D x y t hd
end
structure CompIn (X : Cx) (scope : Scope) (own : List (Str × Nat)) (tg elt : Expr) (ifs : List Expr) (t : Tg) (tt : DenT) (de : Den) : Prop where
  ok : BlkOk X.N X.env.scope scope own
  sl : ∀ i ∈ t.slots, i ∈ own.map (·.2)
  hg : ∀ (s : Shared) (H : Hp) (C : Addr) (cl : List (Str × Addr)) (fp : List Addr), PG (X.blk s H scope (compEnvC scope cl C X.env) fp) tg (t.v X.K)
  ht : ∀ (s : Shared) (H : Hp) (C : Addr) (cl : List (Str × Addr)) (fp : List Addr), SndTs (X.blk s H scope (compEnvC scope cl C X.env) fp) ifs tt
  he : ∀ (s : Shared) (H : Hp) (C : Addr) (cl : List (Str × Addr)) (fp : List Addr), SndE (X.blk s H scope (compEnvC scope cl C X.env) fp) elt de
section
variable {X : Cx} {scope : Scope} {own : List (Str × Nat)} {tg elt iter : Expr} {ifs : List Expr} {t : Tg} {tt : DenT} {de : Den} {di : DenI}
theorem lc_read {Wx : WX} {σ : L2.St} {H : Hp} {Q : VK} {kk : List W → M W} (C : CompIn X scope own tg elt ifs t tt de) (hgd : ∀ ws h wk h1, di ws h = some (.ok wk, h1) → wk.gd h1)
    (hk : ∀ {th0 : Th} {h0 : WH} {H0 : Hp} {th : Th} {h : WH} {H : Hp} {acc : List W} {vs : List V} {D : Addr}, RelH X.K (X.mg, X.w) th0 h0 H0 → H0 D = none → Stay th0 h0 H0 th h H → RelH X.K (X.mg, X.w) th h H → th.hd D → H D = some (.lst vs) → RelWs X.K (X.mg, X.w) th h H acc vs →
      Goes X.K (X.mg, X.w) th0 h0 H0 (kk acc h) (okV X.K (X.mg, X.w) Q) (badW X.K (X.mg, X.w) Wx σ) → Q (.ref D) H)
    (q : rdE X.K (X.mg, X.w) Wx (fun ws h => bindM (eCompA (own.map (·.2)) di t tt de ws h) kk) σ H Q) :
    tLc (rdI X.K (X.mg, X.w) Wx di) (t.v X.K) (rdT X.K (X.mg, X.w) W0 tt) (rdE X.K (X.mg, X.w) W0 de) (own.map (·.2)) σ H Q := by
  obtain ⟨th, h, ws, rs, rh, g⟩ := q
  have hgd := hgd ws h
  have g : Goes X.K (X.mg, X.w) th h H (bindM (bindM (di ws h) fun wk h1 => compL t.dn tt de (wipeW ws (own.map (·.2))) wk.gd wk.xs [] h1) kk) (okV X.K (X.mg, X.w) Q) (badW X.K (X.mg, X.w) Wx σ) := g
  refine ⟨th, h, ws, rs, rh, ?_⟩
  match q : di ws h with
  | none => rw [q] at g; exact g
  | some (.exc c fs, h1) => rw [q] at g; exact g
  | some (.ok wk, h1) =>
    rw [q] at g
    intro th1 H1 s1 r1 J ok D nD
    have g1 : Goes X.K (X.mg, X.w) th1 h1 H1 (bindM (compL t.dn tt de (wipeW ws (own.map (·.2))) wk.gd wk.xs [] h1) kk) (okV X.K (X.mg, X.w) Q) (badW X.K (X.mg, X.w) Wx σ) := by
      have g : Goes X.K (X.mg, X.w) th h H (bindM (compL t.dn tt de (wipeW ws (own.map (·.2))) wk.gd wk.xs [] h1) kk) (okV X.K (X.mg, X.w) Q) (badW X.K (X.mg, X.w) Wx σ) := g
      unfold Goes at *
      split at g
      · exact g
      · exact fun th' H' s' q' => g th' H' (s1.trans s') q'
      · exact fun th' H' s' q' => g th' H' (s1.trans s') q'
    have rs1 := rs.stay s1
    obtain ⟨s2, r2⟩ := r1.hideNew nD (.lst [])
    refine ⟨fun i m H2 => m = wk.xs.length - i ∧ i ≤ wk.xs.length ∧ ∃ th2 h2 acc vs, Stay th1 h1 H1 th2 h2 H2 ∧ RelH X.K (X.mg, X.w) th2 h2 H2 ∧ th2.hd D ∧ wk.gd h2 ∧ H2 D = some (.lst vs) ∧ RelWs X.K (X.mg, X.w) th2 h2 H2 acc vs ∧
      Goes X.K (X.mg, X.w) th1 h1 H1 (bindM (compL t.dn tt de (wipeW ws (own.map (·.2))) wk.gd (wk.xs.drop i) acc h2) kk) (okV X.K (X.mg, X.w) Q) (badW X.K (X.mg, X.w) Wx σ),
      ⟨_, rfl, Nat.zero_le _, _, h1, [], [], s2, r2, .inr rfl, hgd wk h1 q, upd_same, rfl, g1⟩, fun i m H2 w => ?_⟩
    obtain ⟨rfl, hi, th2, h2, acc, vs, st, rh2, hD, gd2, eD, ra, g2⟩ := w
    by_cases hl : i < wk.xs.length
    · refine .inr ⟨(ok.go th2 h2 H2 st rh2 gd2 i _ (List.getElem?_eq_getElem hl)).1, fun H' => ∃ th2 h2 acc vs, Stay th1 h1 H1 th2 h2 H' ∧ RelH X.K (X.mg, X.w) th2 h2 H' ∧ th2.hd D ∧ wk.gd h2 ∧ H' D = some (.lst vs) ∧ RelWs X.K (X.mg, X.w) th2 h2 H' acc vs ∧
        Goes X.K (X.mg, X.w) th1 h1 H1 (bindM (compL t.dn tt de (wipeW ws (own.map (·.2))) wk.gd (wk.xs.drop (i + 1)) acc h2) kk) (okV X.K (X.mg, X.w) Q) (badW X.K (X.mg, X.w) Wx σ),
        fun H' n => ⟨wk.xs.length - (i + 1), by omega, rfl, hl, n⟩, fun x H3 y => ?_⟩
      obtain ⟨le, rw_⟩ := (ok.go th2 h2 H2 st rh2 gd2 i _ (List.getElem?_eq_getElem hl)).2 x H3 y
      obtain ⟨s3, r3⟩ := rh2.grow le
      have rs3 := ((rs1.stay st).stay s3).wipe (own.map (·.2))
      rw [List.drop_eq_getElem_cons hl] at g2
      unfold compL at g2
      match qg : t.dn wk.xs[i] (wipeW ws (own.map (·.2))) h2 with
      | none => simp only [qg] at g2; exact g2.elim
      | some (.exc c fs, h4) => simp only [qg] at g2; exact g2.elim
      | some (.ok ws4, h4) =>
        simp only [qg] at g2
        obtain ⟨rfl, hv⟩ := tg_v rs3 rw_ r3 qg
        refine hv _ fun σ4 rs4 wp => ⟨(wp _ C.sl).trans (wipe_wipe _ _), ?_⟩
        refine ⟨th2, h4, ws4, rs4, r3, ?_⟩
        match qt : tt ws4 h4 with
        | none => simp only [qt] at g2; exact g2.elim
        | some (.exc c fs, h5) => simp only [qt] at g2; exact g2.elim
        | some (.ok b, h5) =>
          simp only [qt] at g2
          intro th5 H5 s5 r5
          have st5 := (st.trans s3).trans s5
          have hD3 : ¬ Pl th2 h4 D := fun ⟨l, o, x, y, t⟩ => r3.off l o D x y t hD
          have hD5 : th5.hd D := s5.hds D hD
          have eD5 : H5 D = some (.lst vs) := s5.keep D _ (le D _ eD) hD3
          cases b with
          | false =>
            rw [if_neg Bool.false_ne_true] at g2
            refine iteF ?_
            split at g2
            · rename_i gd5
              exact ⟨th5, h5, acc, vs, st5, r5, hD5, gd5, eD5, (ra.stay s3).stay s5, g2⟩
            · exact g2.elim
          | true =>
            rw [if_pos rfl] at g2
            refine iteT ⟨th5, h5, ws4, rs4.stay s5, r5, ?_⟩
            match qe : de ws4 h5 with
            | none => simp only [qe] at g2; exact g2.elim
            | some (.exc c fs, h6) => simp only [qe] at g2; exact g2.elim
            | some (.ok y, h6) =>
              simp only [qe] at g2
              intro th6 H6 s6 r6 v rv
              have hD6 : th6.hd D := s6.hds D hD5
              have hD5' : ¬ Pl th5 h5 D := fun ⟨l, o, x, y, t⟩ => r5.off l o D x y t hD5
              have eD6 : H6 D = some (.lst vs) := s6.keep D _ eD5 hD5'
              have ra6 := ((ra.stay s3).stay s5).stay s6
              split at g2
              · rename_i hz
                split at g2
                · rename_i gd6
                  exact ⟨vs, eD6, by rw [relws_length ra6]; exact hz, th6, h6, acc ++ [y], vs ++ [v], (st5.trans s6).poke nD _, r6.poke hD6 _, hD6, gd6, upd_same, poke_rels hD6 _ (fzs_snoc ra6 rv), g2⟩
                · exact g2.elim
              · exact g2.elim
    · refine .inl ⟨ok.stop th2 h2 H2 st rh2 gd2 i (by omega), ?_⟩
      have : i = wk.xs.length := by omega
      subst this
      rw [List.drop_length] at g2
      exact hk r1 nD st rh2 hD eD ra g2
theorem rd_data {Wx : WX} {σ : L2.St} {th0 : Th} {h0 : WH} {H0 : Hp} {th : Th} {h : WH} {H : Hp} {Q : VK} {acc : List W} {vs : List V} {D : Addr} (r0 : RelH X.K (X.mg, X.w) th0 h0 H0) (n0 : H0 D = none) (s : Stay th0 h0 H0 th h H) (rh : RelH X.K (X.mg, X.w) th h H) (hd : th.hd D) (e : H D = some (.lst vs)) (r : RelWs X.K (X.mg, X.w) th h H acc vs)
    (g : Goes X.K (X.mg, X.w) th0 h0 H0 (optM ((dats acc).map fun ds => W.d (.list ds)) h) (okV X.K (X.mg, X.w) Q) (badW X.K (X.mg, X.w) Wx σ)) : Q (.ref D) H := by
  cases q : dats acc with
  | none => rw [q] at g; exact g.elim
  | some ds =>
    rw [q] at g
    have e2 := dats_eq q
    subst e2
    exact g (th.show D) H (s.shown fun z => r0.tr D z n0) (rh.shown D) (.ref D) (rh.list hd e (dats_rel r))
variable {pos : Pos}
theorem sn_comp (hc : X.calm = true) (hN : X.N.Nodup) (C : CompIn X scope own tg elt ifs t tt de) (hi : SndI X tg iter di) (hgd : ∀ ws h wk h1, di ws h = some (.ok wk, h1) → wk.gd h1) (hs : ∀ x, foldedSetIterable iter X.env x = pure x := by intro _; rfl) :
    SndE X (.ListComp elt [⟨tg, iter, ifs, 0⟩] scope pos) (eComp (own.map (·.2)) di t tt de) := fun Wx tk =>
  pe_imp (pe_lc hc hN (hi Wx tk) C.ok C.hg (fun s H Ca cl fp => C.ht s H Ca cl fp W0 takes0) (fun s H Ca cl fp => C.he s H Ca cl fp W0 takes0) hs) fun σ H Q q => lc_read C hgd rd_data q
theorem ss_setComp (i : Nat) {y : Str} {py spos : Pos} {kk : List W → M W} {da : Den} (hda : da = fun ws h => bindM (eCompA (own.map (·.2)) di t tt de ws h) kk) (hc : X.calm = true) (hN : X.N.Nodup) (hy : X.N[i]? = some y) (hyl : X.env.scope.names.lookup y = some .local)
    (hsw : swapsWith (.ListComp elt [⟨tg, iter, ifs, 0⟩] scope pos) (some (.Name y py)) spos.line X.env = pure true) (C : CompIn X scope own tg elt ifs t tt de) (hi : SndI X tg iter di) (hgd : ∀ ws h wk h1, di ws h = some (.ok wk, h1) → wk.gd h1)
    (hk : ∀ {Wx : WX} {σ : L2.St} {Q : VK} {th0 : Th} {h0 : WH} {H0 : Hp} {th : Th} {h : WH} {H : Hp} {acc : List W} {vs : List V} {D : Addr}, RelH X.K (X.mg, X.w) th0 h0 H0 → H0 D = none → Stay th0 h0 H0 th h H → RelH X.K (X.mg, X.w) th h H → th.hd D → H D = some (.lst vs) → RelWs X.K (X.mg, X.w) th h H acc vs →
      Goes X.K (X.mg, X.w) th0 h0 H0 (kk acc h) (okV X.K (X.mg, X.w) Q) (badW X.K (X.mg, X.w) Wx σ) → Q (.ref D) H)
    (hs : ∀ x, foldedSetIterable iter X.env x = pure x := by intro _; rfl) :
    SndS X (.Assign [.Name y py] (.ListComp elt [⟨tg, iter, ifs, 0⟩] scope pos) spos) (sSet i da) := by
  subst hda
  refine fun Wx tk hp => ps_imp (ps_setLc (te := rdE X.K (X.mg, X.w) W0 de) (tt := rdT X.K (X.mg, X.w) W0 tt) hc hN hy hyl hsw (hi Wx tk) C.ok C.hg (fun s H Ca cl fp => C.ht s H Ca cl fp W0 takes0) (fun s H Ca cl fp => C.he s H Ca cl fp W0 takes0) hs) fun D σ H q => ?_
  obtain ⟨th, h, ws, rs, rh, g⟩ := q
  refine lc_read (Wx := Wx) C hgd (hk (Wx := Wx) (σ := σ)) ⟨th, h, ws, rs, rh, (goesS_E rs g).imp (fun w th1 h1 H1 s1 r1 g1 v rv => ?_) fun _ _ _ _ _ _ _ z => z⟩
  exact g1 th1 H1 _ .refl r1 ((rs.stay s1).set rv i)
end
end L3

namespace L3
open PySem PySem.Spec PyProof.Rows L2

abbrev GB := List W → WH → Option W
def eB (g : GB) (da : DenA) : Den := fun ws h => bindM (da ws h) fun xs h1 => optM (g xs h1) h1
section
variable {X : Cx} {x : Str} {p pos : Pos} {e : Expr} {es : List Expr} {da : DenA} {g : GB} {id T : String}
theorem rd_B {Wx : WX} (σ : L2.St) (H : Hp) (Q : VK) (q : rdE X.K (X.mg, X.w) Wx (eB g da) σ H Q) : tCB (rdArgs X.K (X.mg, X.w) g) (rdA X.K (X.mg, X.w) Wx da) σ H Q := by
  obtain ⟨th, h, ws, rs, rh, gg⟩ := q
  refine ⟨th, h, ws, rs, rh, (Goes.bind gg).imp (fun xs th1 h1 H1 s1 r1 g1 vs rv => ?_) fun _ _ _ _ _ _ _ z => z⟩
  obtain ⟨w, e, g2⟩ := Goes.opt g1
  exact ⟨th1, h1, xs, w, rv, r1, e, ans_of r1 g2⟩
theorem sn_callB (hc : CallS X (.builtin id) g) (hg : Gl X x) (hm : X.mg x = none) (hv : bootBuiltins x = some (.builtin id)) (ha : SndA X (e :: es) da) (hn : x ≠ "__name__" := by decide) (hdb : (x == ("__debug__" : Str)) = false := by decide)
    (he : starEach (e :: es) X.env = (false, eval e X.env) :: starEach es X.env := by rfl) (hpl : (backTo pos (starEach es X.env)).any (·.1) = false := by rfl) : SndE X (.Call (.Name x p) (e :: es) [] pos) (eB g da) := fun Wx tk =>
  pe_imp (pe_callB hc hg hm hv (ha Wx tk) hn hdb he hpl) rd_B
theorem sn_callTy (hc : CallS X (.type T) g) (hg : Gl X x) (hm : X.mg x = none) (hv : bootBuiltins x = some (.type T)) (ha : SndA X (e :: es) da) (hn : x ≠ "__name__" := by decide) (hdb : (x == ("__debug__" : Str)) = false := by decide)
    (he : starEach (e :: es) X.env = (false, eval e X.env) :: starEach es X.env := by rfl) (hpl : (backTo pos (starEach es X.env)).any (·.1) = false := by rfl) : SndE X (.Call (.Name x p) (e :: es) [] pos) (eB g da) := fun Wx tk =>
  pe_imp (pe_callTy hc hg hm hv (ha Wx tk) hn hdb he hpl) rd_B
end
section
variable {K : PySem.W.Frag} {mg : MG} {th : Th} {h : WH} {H : Hp}
theorem items_sq {w : W} {v : V} {xs : List W} (r : RelW K mg th h H w v) (rh : RelH K mg th h H) (e : items h w = some xs) : ∃ a vs, v = .ref a ∧ (SqL K H a vs ∨ SqT K H a vs) ∧ vs.length = xs.length := by
  obtain ⟨a, vs, e1, s, r⟩ := items_at r rh e
  refine ⟨a, vs, e1, s, ?_⟩
  rcases r with r | ⟨ds, _, rfl, r⟩
  · exact relws_length r
  · rw [List.length_map]; exact flats_get r
theorem rws1 {w : W} {vs : List V} (r : RelWs K mg th h H [w] vs) : ∃ v, vs = [v] ∧ RelW K mg th h H w v := by
  obtain ⟨v, _, rfl, a, rfl⟩ := r
  exact ⟨v, rfl, a⟩
theorem rws2 {w u : W} {vs : List V} (r : RelWs K mg th h H [w, u] vs) : ∃ v x, vs = [v, x] ∧ RelW K mg th h H w v ∧ RelW K mg th h H u x := by
  obtain ⟨v, _, rfl, a, x, _, rfl, b, rfl⟩ := r
  exact ⟨v, x, rfl, a, b⟩
end
def gLen : GB := fun xs h => match xs with
  | [.d (.str z)] => if z.length ≤ sizeLine then some (.d (.int z.length)) else none
  | [w] => (items h w).map fun ws => .d (.int ws.length)
  | _ => none
def gAbs : GB := fun xs _ => match xs with
  | [.d (.int i)] => some (.d (.int (if i < 0 then -i else i)))
  | _ => none
def gMin2 : GB := fun xs _ => match xs with
  | [.d (.int i), .d (.int j)] => some (.d (.int (if j < i then j else i)))
  | _ => none
def gInt1 : GB := fun xs _ => match xs with
  | [.d (.int i)] => some (.d (.int i))
  | [.d (.bool b)] => some (.d (.int (if b then 1 else 0)))
  | [.d (.str a)] => if a.length ≤ 640 then (PySem.intText? a).map fun n => .d (.int n) else none
  | _ => none
def gList : GB := fun xs h => match xs with
  | [w] => if notFz w then (items h w).bind fun ws => (dats ws).map fun ds => .d (.list ds) else none
  | _ => none
def gTuple : GB := fun xs h => match xs with
  | [.d (.list ds)] => some (.d (.tuple ds))
  | [.d (.tuple ds)] => some (.d (.tuple ds))
  | [.loc l] => match h[l]? with
    | some (.lst ws) => (dats ws).map fun ds => .d (.tuple ds)
    | _ => none
  | _ => none
def gRepr : GB := fun xs h => match xs with
  | [w] => (dat h w).bind fun x => if x.showable ∧ flat x ∧ x.depth ≤ 64 ∧ x.shown.length ≤ sizeLine then some (.d (.str x.shown)) else none
  | _ => none
def intsOf : List PyData → Option (List Int)
  | [] => some []
  | .int b :: r => (intsOf r).map (b :: ·)
  | _ => none
theorem intsOf_eq : ∀ {ds : List PyData} {bs : List Int}, intsOf ds = some bs → ds = bs.map PyData.int
  | [], _, e => by cases e; rfl
  | .int b :: r, bs, e => by
    have e : (intsOf r).map (b :: ·) = some bs := e
    cases q : intsOf r with
    | none => rw [q] at e; cases e
    | some cs => rw [q] at e; cases e; rw [intsOf_eq q]; rfl
  | .none :: _, _, e => by cases e
  | .bool _ :: _, _, e => by cases e
  | .str _ :: _, _, e => by cases e
  | .list _ :: _, _, e => by cases e
  | .tuple _ :: _, _, e => by cases e
  | .dict _ :: _, _, e => by cases e
section
variable {K : PySem.W.Frag} {H : Hp}
end
section
variable {X : Cx}
theorem cs_len : CallS X (.builtin "len") gLen := by
  intro pins s σ H vs us Q I rv q
  obtain ⟨th, h, ws, w, rw_, rh, e, an⟩ := q
  unfold gLen at e
  split at e
  · split at e
    · rename_i hz
      cases e
      obtain ⟨v, rfl, a⟩ := rws1 rw_
      have e1 := rel_str a
      subst e1
      exact call_len_str pins s σ H _ us Q I rv ⟨_, rfl, hz, an H _ (Le.refl H) (.int _)⟩
    · cases e
  · rename_i w0 _
    cases y : items h w0 with
    | none => rw [y] at e; cases e
    | some zs =>
      rw [y] at e; cases e
      obtain ⟨v, rfl, a⟩ := rws1 rw_
      obtain ⟨ad, ys, rfl, sq, hl⟩ := items_sq a rh y
      exact call_len_seq pins s σ H _ us Q I rv ⟨ad, ys, rfl, sq, by rw [hl]; exact an H _ (Le.refl H) (.int _)⟩
  · cases e
theorem cs_abs : CallS X (.builtin "abs") gAbs := by
  intro pins s σ H vs us Q I rv q
  obtain ⟨th, h, ws, w, rw_, rh, e, an⟩ := q
  unfold gAbs at e
  split at e
  · cases e
    obtain ⟨v, rfl, a⟩ := rws1 rw_
    have e1 := rel_int a
    subst e1
    exact call_abs pins s σ H _ us Q I rv ⟨_, rfl, an H _ (Le.refl H) (.int _)⟩
  · cases e
theorem cs_min2 (hc : X.calm = true) : CallS X (.builtin "min") gMin2 := by
  intro pins s σ H vs us Q I rv q
  obtain ⟨th, h, ws, w, rw_, rh, e, an⟩ := q
  unfold gMin2 at e
  split at e
  · cases e
    obtain ⟨v, u, rfl, a, b⟩ := rws2 rw_
    have e1 := rel_int a; have e2 := rel_int b
    subst e1; subst e2
    exact call_min2 hc pins s σ H _ us Q I rv ⟨_, _, rfl, an H _ (Le.refl H) (.int _)⟩
  · cases e
theorem cs_int1 : CallS X (.type "int") gInt1 := by
  intro pins s σ H vs us Q I rv q
  obtain ⟨th, h, ws, w, rw_, rh, e, an⟩ := q
  unfold gInt1 at e
  split at e
  · cases e
    obtain ⟨v, rfl, a⟩ := rws1 rw_
    have e1 := rel_int a
    subst e1
    exact call_int1 pins s σ H _ us Q I rv (.inl ⟨_, rfl, an H _ (Le.refl H) (.int _)⟩)
  · cases e
    obtain ⟨v, rfl, a⟩ := rws1 rw_
    have e1 := rel_bl a
    subst e1
    exact call_int1 pins s σ H _ us Q I rv (.inr ⟨_, rfl, an H _ (Le.refl H) (.int _)⟩)
  · rename_i a0
    split at e
    · rename_i hz
      cases y : PySem.intText? a0 with
      | none => rw [y] at e; cases e
      | some n =>
        rw [y] at e; cases e
        obtain ⟨v, rfl, a⟩ := rws1 rw_
        have e1 := rel_str a
        subst e1
        exact call_int_str pins s σ H _ us Q I rv ⟨_, n, rfl, y, hz, an H _ (Le.refl H) (.int _)⟩
    · cases e
  · cases e
theorem rel_items {K : PySem.W.Frag} {mg : MG} {th : Th} {h : WH} {H : Hp} {w : W} {v : V} {xs : List W} (r : RelW K mg th h H w v) (rh : RelH K mg th h H) (nf : notFz w = true) (e : items h w = some xs) :
    ∃ a vs, v = .ref a ∧ (SqL K H a vs ∨ SqT K H a vs) ∧ RelWs K mg th h H xs vs := by
  obtain ⟨a, vs, e1, s, r⟩ := items_at r rh e
  rcases r with r | ⟨ds, rfl, _, _⟩
  · exact ⟨a, vs, e1, s, r⟩
  · cases nf
theorem cs_list : CallS X (.type "list") gList := by
  intro pins s σ H vs us Q I rv q
  obtain ⟨th, h, ws, w, rw_, rh, e, an⟩ := q
  unfold gList at e
  split at e
  · rename_i w0
    split at e
    · rename_i nf
      cases y : items h w0 with
      | none => rw [y] at e; cases e
      | some zs =>
        rw [y] at e
        have e : (dats zs).map (fun ds => W.d (.list ds)) = some w := e
        cases y2 : dats zs with
        | none => rw [y2] at e; cases e
        | some ds =>
          rw [y2] at e; cases e
          obtain ⟨v, rfl, a⟩ := rws1 rw_
          obtain ⟨ad, ys, rfl, sq, rr⟩ := rel_items a rh nf y
          rw [dats_eq y2] at rr
          refine call_list_of pins s σ H _ us Q I rv ⟨ad, ys, rfl, sq, fun l n => ?_⟩
          obtain ⟨le, r⟩ := new_lst rh n (dats_rel rr)
          exact an _ _ le r
    · cases e
  · cases e
theorem cs_tuple : CallS X (.type "tuple") gTuple := by
  intro pins s σ H vs us Q I rv q
  obtain ⟨th, h, ws, w, rw_, rh, e, an⟩ := q
  unfold gTuple at e
  split at e
  · cases e
    obtain ⟨v, rfl, a⟩ := rws1 rw_
    obtain ⟨ad, ys, rfl, sa, ra⟩ := rel_lst a
    refine call_tuple_of pins s σ H _ us Q I rv ⟨ad, ys, rfl, .inl ⟨.inl (.inl (hid_le sa)), fun l n => ?_⟩⟩
    obtain ⟨le, r⟩ := new_tup rh n ra
    exact an _ _ le r
  · cases e
    obtain ⟨v, rfl, a⟩ := rws1 rw_
    obtain ⟨ad, ys, rfl, sa, ra⟩ := rel_tup a
    exact call_tuple_of pins s σ H _ us Q I rv ⟨ad, ys, rfl, .inr ⟨hid_Le.sqT sa, an H _ (Le.refl H) (.tup sa ra)⟩⟩
  · obtain ⟨v, rfl, ad, rfl, t, _⟩ := rws1 rw_
    split at e
    · rename_i ws' qq
      cases y2 : dats ws' with
      | none => rw [y2] at e; cases e
      | some ds =>
        rw [y2] at e; cases e
        obtain ⟨ys, z, rr⟩ := rh.obj _ _ ad qq t
        rw [dats_eq y2] at rr
        refine call_tuple_of pins s σ H _ us Q I rv ⟨ad, ys, rfl, .inl ⟨.inl (.inl z), fun l n => ?_⟩⟩
        obtain ⟨le, r⟩ := new_tup rh n (dats_rel rr)
        exact an _ _ le r
    · cases e
  · cases e
theorem no_dict : ∀ x : PyData, flat x = true → x.hasDict = false := by
  have key : ∀ n : Nat, (∀ x : PyData, sizeOf x < n → flat x = true → x.hasDict = false) ∧ (∀ xs : List PyData, sizeOf xs < n → flats xs = true → PyData.hasDictAll xs = false) := by
    intro n
    induction n with
    | zero => exact ⟨fun x h => absurd h (Nat.not_lt_zero _), fun x h => absurd h (Nat.not_lt_zero _)⟩
    | succ n ih =>
      refine ⟨fun x h f => ?_, fun xs h f => ?_⟩
      · cases x with
        | list xs => exact (ih.2 xs (by simp only [PyData.list.sizeOf_spec] at h; omega) f)
        | tuple xs => exact (ih.2 xs (by simp only [PyData.tuple.sizeOf_spec] at h; omega) f)
        | dict xs => cases f
        | none => rfl
        | bool b => rfl
        | int i => rfl
        | str x => rfl
      · cases xs with
        | nil => rfl
        | cons x xs =>
          have f : (flat x && flats xs) = true := f
          rw [Bool.and_eq_true] at f
          have h : 1 + sizeOf x + sizeOf xs < n + 1 := h
          show (x.hasDict || PyData.hasDictAll xs) = false
          rw [ih.1 x (by omega) f.1, ih.2 xs (by omega) f.2]; rfl
  exact fun x => (key (sizeOf x + 1)).1 x (Nat.lt_succ_self _)
theorem cs_repr (hg : X.A.guards = some []) (hu : X.A.units + 66 < cLine) : CallS X (.builtin "repr") gRepr := by
  intro pins s σ H vs us Q I rv q
  obtain ⟨th, h, ws, w, rw_, rh, e, an⟩ := q
  unfold gRepr at e
  split at e
  · rename_i w0
    obtain ⟨v, rfl, a⟩ := rws1 rw_
    cases y : dat h w0 with
    | none => rw [y] at e; cases e
    | some x =>
      rw [y] at e
      have e : (if x.showable ∧ flat x ∧ x.depth ≤ 64 ∧ x.shown.length ≤ sizeLine then some (W.d (.str x.shown)) else none) = some w := e
      split at e
      · rename_i hz
        obtain ⟨h1, h2, h3, h4⟩ := hz
        cases e
        have dp := dat_dp a rh y h2
        obtain ⟨u, rfl, r1⟩ := Vals.one rv
        · obtain ⟨as, rd⟩ := Dp.reads I x v u dp r1
          have fin : ∀ (h' : Heap) (tk tk' : Nat), (∀ b o, s.heap.get? b = some o → h'.get? b = some o) → EP X pins σ Q (.str x.shown tk) { s with heap := h', toks := tk' } := fun h' tk tk' hk => ⟨.str x.shown, H, I.kept hk, ⟨tk, rfl⟩, an H _ (Le.refl H) (.str _)⟩
          cases rd with
          | none => exact PySem.P.repr_of_none (fin _ _ _ fun _ _ e => e)
          | bool b => exact PySem.P.repr_of_bool (fin _ _ _ fun _ _ e => e)
          | int i t => exact PySem.P.repr_of_int (of_decide_eq_true h1) (fin _ _ _ fun _ _ e => e)
          | str y t => exact PySem.P.repr_of_str (fin _ _ _ fun _ _ e => e) h4
          | list x1 x2 x3 x4 =>
            exact repr_of_reads' (Reads.list x1 x2 x3 x4) h1 (fun z => by rw [no_dict _ h2] at z; cases z) hg (by omega) (fun _ _ e => e) (fun h' u tk hk => fin h' u tk hk) h4
          | tuple x1 x2 x3 x4 =>
            exact repr_of_reads' (Reads.tuple x1 x2 x3 x4) h1 (fun z => by rw [no_dict _ h2] at z; cases z) hg (by omega) (fun _ _ e => e) (fun h' u tk hk => fin h' u tk hk) h4
          | dict x1 x2 x3 x4 => cases h2
      · cases e
  · cases e
end

section
variable {K : PySem.W.Frag} {mg : MG} {th : Th} {h : WH} {H : Hp}
theorem RelH.put (rh : RelH K mg th h H) {l : Nat} {o o' : Ob} {a : Addr} {u : HO} (e : h[l]? = some o) (z : o.live = true) (t : th.a[l]? = some a) (z' : o'.live = true)
    (hu : ∀ {th' : Th} {h' : WH}, Stay th h H th' h' (L2.upd H a u) → ObjR K mg th' h' (L2.upd H a u) a o') : Stay th h H th (h.set l o') (L2.upd H a u) ∧ RelH K mg th (h.set l o') (L2.upd H a u) := by
  have hl : l < h.length := (List.getElem?_eq_some_iff.mp e).1
  have pl : Pl th h a := ⟨l, o, e, z, t⟩
  have back : ∀ {l2 : Nat} {o2 : Ob}, (h.set l o')[l2]? = some o2 → (l2 = l ∧ o2 = o') ∨ (l2 ≠ l ∧ h[l2]? = some o2) := fun {l2 o2} x => by
    by_cases q : l = l2
    · subst q
      rw [List.getElem?_set_self hl] at x
      exact .inl ⟨rfl, (Option.some.inj x).symm⟩
    · rw [List.getElem?_set_ne q] at x
      exact .inr ⟨fun y => q y.symm, x⟩
  have ps : ∀ b, Pl th (h.set l o') b → Pl th h b := fun b ⟨l2, o2, x, y, t2⟩ => by
    rcases back x with ⟨rfl, rfl⟩ | ⟨_, x⟩
    · rw [t] at t2; cases t2; exact pl
    · exact ⟨l2, o2, x, y, t2⟩
  have s : Stay th h H th (h.set l o') (L2.upd H a u) := by
    refine ⟨by rw [List.length_set]; exact Nat.le_refl _, fun _ _ x => x, fun b ob x n => by rw [upd_ne (show b ≠ a from fun q => n (by subst q; exact pl))]; exact x, fun b x => ?_, fun b x => .inl (ps b x), fun b x => .inl x, fun _ x => x⟩
    by_cases q : b = a
    · subst q; rw [upd_same] at x; cases x
    · rw [upd_ne q] at x; exact x
  refine ⟨s, by rw [List.length_set]; exact rh.len, fun l1 l2 o1 o2 b x y x' y' t1 t2 => ?_, fun l1 o1 b x t1 => ?_, fun b x => ?_, fun l1 o1 b x y t1 => ?_⟩
  · rcases back x with ⟨e1, _⟩ | ⟨_, x1⟩ <;> rcases back x' with ⟨e2, _⟩ | ⟨_, x2⟩
    · exact e1.trans e2.symm
    · exact rh.inj _ _ _ _ b (e1 ▸ e) z x2 y' t1 t2
    · exact rh.inj _ _ _ _ b x1 y (e2 ▸ e) z t1 t2
    · exact rh.inj _ _ _ _ b x1 y x2 y' t1 t2
  · rcases back x with ⟨rfl, rfl⟩ | ⟨nl, x⟩
    · rw [t] at t1; cases t1; exact hu s
    · cases y : o1.live with
      | false => cases o1 <;> first | trivial | cases y
      | true =>
        have na : b ≠ a := fun q => by subst q; exact nl (rh.inj _ _ _ _ b x y e z t1 t)
        exact (rh.obj l1 o1 b x t1).stay s (upd_ne na)
  · by_cases q : b = a
    · subst q; rw [upd_same]; simp
    · rw [upd_ne q]; exact rh.tr b x
  · rcases back x with ⟨e1, _⟩ | ⟨_, x1⟩
    · exact rh.off l1 o b (e1 ▸ e) z t1
    · exact rh.off l1 o1 b x1 y t1
theorem RelH.putL (rh : RelH K mg th h H) {l : Nat} {ws ws' : List W} {a : Addr} {vs' : List V} (e : h[l]? = some (.lst ws)) (t : th.a[l]? = some a) (r : RelWs K mg th h H ws' vs') :
    Stay th h H th (h.set l (.lst ws')) (L2.upd H a (.lst vs')) ∧ RelH K mg th (h.set l (.lst ws')) (L2.upd H a (.lst vs')) :=
  rh.put e rfl t rfl fun s => ⟨vs', upd_same, r.stay s⟩
theorem relws_take : ∀ {ws : List W} {vs : List V} (n : Nat), RelWs K mg th h H ws vs → RelWs K mg th h H (ws.take n) (vs.take n)
  | [], _, n, r => by cases r; simp [RelWs]
  | _ :: _, _, 0, ⟨v, r, e, a, b⟩ => by subst e; exact rfl
  | _ :: _, _, n + 1, ⟨v, r, e, a, b⟩ => by subst e; exact ⟨v, _, rfl, a, relws_take n b⟩
theorem relws_drop : ∀ {ws : List W} {vs : List V} (n : Nat), RelWs K mg th h H ws vs → RelWs K mg th h H (ws.drop n) (vs.drop n)
  | [], _, n, r => by cases r; simp [RelWs]
  | _ :: _, _, 0, r => r
  | _ :: _, _, n + 1, ⟨v, r, e, a, b⟩ => by subst e; exact relws_drop n b
theorem relws_append : ∀ {ws us : List W} {vs xs : List V}, RelWs K mg th h H ws vs → RelWs K mg th h H us xs → RelWs K mg th h H (ws ++ us) (vs ++ xs)
  | [], _, _, _, r, q => by cases r; exact q
  | _ :: _, _, _, _, ⟨v, r, e, a, b⟩, q => by subst e; exact ⟨v, _, rfl, a, relws_append b q⟩
theorem relws_set {w : W} {v : V} (rw_ : RelW K mg th h H w v) : ∀ {ws : List W} {vs : List V} (n : Nat), RelWs K mg th h H ws vs → RelWs K mg th h H (ws.set n w) (vs.set n v)
  | [], _, n, r => by cases r; exact rfl
  | _ :: _, _, 0, ⟨x, r, e, a, b⟩ => by subst e; exact ⟨v, _, rfl, rw_, b⟩
  | _ :: _, _, n + 1, ⟨x, r, e, a, b⟩ => by subst e; exact ⟨x, _, rfl, a, relws_set rw_ n b⟩
end

abbrev GM := List W → List W → Option (W × List W)
def rdLM (K : PySem.W.Frag) (mg : MG) (g : GM) : V → List V → Hp → VK → Prop := fun x xs H Q => ∃ th h l ws as w ws', RelW K mg th h H (.loc l) x ∧ RelWs K mg th h H as xs ∧ RelH K mg th h H ∧ h[l]? = some (.lst ws) ∧ g ws as = some (w, ws') ∧
  ∀ th' h' H' v, Stay th h H th' h' H' → h' = h.set l (.lst ws') → RelH K mg th' h' H' → RelW K mg th' h' H' w v → Q v H'
def LMS (X : Cx) (id : String) (g : GM) : Prop := MtR X id (rdLM X.K (X.mg, X.w) g)
def eLM (g : GM) (d : Den) (da : DenA) : Den := fun ws h => bindM (d ws h) fun x h1 => match x with
  | .loc l => match h1[l]? with
    | some (.lst _) => bindM (da ws h1) fun as h2 => match h2[l]? with
      | some (.lst xs) => match g xs as with
        | some (w, xs') => some (.ok w, h2.set l (.lst xs'))
        | none => none
      | _ => none
    | _ => none
  | _ => none
section
variable {X : Cx} {o e : Expr} {es : List Expr} {d : Den} {da : DenA} {g : GM} {id : String} {name : Str} {apos cpos : Pos}
theorem rd_LM {Wx : WX} {σ : L2.St} {H : Hp} {Q : VK} (q : rdE X.K (X.mg, X.w) Wx (eLM g d da) σ H Q) : rdE X.K (X.mg, X.w) Wx d σ H fun x H1 => tyV X.K "list" x H1 ∧ rdA X.K (X.mg, X.w) Wx da σ H1 fun xs H2 => rdLM X.K (X.mg, X.w) g x xs H2 Q := by
  obtain ⟨th, h, ws, rs, rh, gg⟩ := q
  refine ⟨th, h, ws, rs, rh, (Goes.bind gg).imp (fun x th1 h1 H1 s1 r1 g1 v rv => ?_) fun _ _ _ _ _ _ _ z => z⟩
  split at g1
  · rename_i l
    split at g1
    · rename_i ws1 e1
      obtain ⟨a, rfl, t, hl⟩ := rv
      obtain ⟨vs, z, rr⟩ := r1.obj l _ a e1 t
      refine ⟨.inl ⟨rfl, _, .inl (.inl z)⟩, th1, h1, ws, rs.stay s1, r1, (Goes.bind g1).imp (fun as th2 h2 H2 s2 r2 g2 xs rxs => ?_) fun _ _ _ _ _ _ _ z => z⟩
      split at g2
      · rename_i xs2 e2
        split at g2
        · rename_i w xs' eg
          refine ⟨th2, h2, l, xs2, as, w, xs', (show RelW X.K (X.mg, X.w) th1 h1 H1 (.loc l) (.ref a) from ⟨a, rfl, t, hl⟩).stay s2, rxs, r2, e2, eg, fun th' h' H' v s' eh r' rv' => ?_⟩
          subst eh
          exact g2 th' H' s' r' v rv'
        · exact g2.elim
      · exact g2.elim
    · exact g1.elim
  · exact g1.elim
theorem sn_lm (slot : Slot "list" name id) (hty : typeOf (.builtin id) = pure (.type "method_descriptor")) (hm : LMS X id g) (ho : SndE X o d) (ha : SndA X (e :: es) da)
    (hbase : attributeBase o name X.env (eval o X.env) = eval o X.env := by rfl)
    (hfew : ((backTo cpos (starEach (e :: es) X.env)).all (fun x => !x.1) && (backToKw cpos (keywordEach [] X.env)).all (fun x => x.1.isSome)
      && decide ((e :: es).length + ([] : List Keyword).length + (if ([] : List Keyword).isEmpty then 0 else 1) < 30)) = true := by rfl)
    (hline : (apos.endLine == cpos.line) = true := by rfl) (hs : starEach (e :: es) X.env = (false, eval e X.env) :: starEach es X.env := by rfl) (hplain : (backTo cpos (starEach es X.env)).any (·.1) = false := by rfl) :
    SndE X (.Call (.Attribute o name apos) (e :: es) [] cpos) (eLM g d da) := fun Wx tk =>
  pe_imp (pe_bm PySem.F.plainAttrs_list slot hty hm (ho Wx tk) (ha Wx tk) hbase hfew hline hs hplain) fun σ H Q q => rd_LM q
end
def mAppend : GM := fun xs as => match as with
  | [w] => if xs.length < sizeLine then some (.d .none, xs ++ [w]) else none
  | _ => none
def mInsert : GM := fun xs as => match as with
  | [.d (.int i), w] => if xs.length < sizeLine ∧ 0 ≤ i ∧ i < 2 ^ 63 then some (.d .none, xs.take i.toNat ++ [w] ++ xs.drop i.toNat) else none
  | _ => none
section
variable {X : Cx}
theorem ms_append : LMS X "list.append" mAppend := by
  intro pins s σ H x xs v us Q I rx rxs q
  obtain ⟨th, h, l, ws, as, w, ws', ⟨a, rfl, t, hl⟩, ra, rh, e, eg, fin⟩ := q
  unfold mAppend at eg
  split at eg
  · split at eg
    · rename_i hz
      cases eg
      obtain ⟨y, rfl, ry⟩ := rws1 ra
      obtain ⟨vs, z, rr⟩ := rh.obj l _ a e t
      refine mt_append pins s σ H _ _ v us Q I rx rxs ⟨a, vs, y, rfl, rfl, z, by rw [relws_length rr]; exact hz, ?_⟩
      obtain ⟨s2, r2⟩ := rh.putL e t (relws_append rr (ws := ws) (us := [_]) (xs := [y]) ⟨y, [], rfl, ry, rfl⟩)
      exact fin _ _ _ _ s2 rfl r2 .non
    · cases eg
  · cases eg
theorem ms_insert : LMS X "list.insert" mInsert := by
  intro pins s σ H x xs v us Q I rx rxs q
  obtain ⟨th, h, l, ws, as, w, ws', ⟨a, rfl, t, hl⟩, ra, rh, e, eg, fin⟩ := q
  unfold mInsert at eg
  split at eg
  · split at eg
    · rename_i hz
      cases eg
      obtain ⟨i, y, rfl, ri, ry⟩ := rws2 ra
      have e1 := rel_int ri
      subst e1
      obtain ⟨vs, z, rr⟩ := rh.obj l _ a e t
      refine mt_insert pins s σ H _ _ v us Q I rx rxs ⟨a, vs, _, y, rfl, rfl, z, by rw [relws_length rr]; exact hz.1, hz.2.1, hz.2.2, ?_⟩
      obtain ⟨s2, r2⟩ := rh.putL e t (relws_append (relws_append (relws_take _ rr) (us := [_]) (xs := [y]) ⟨y, [], rfl, ry, rfl⟩) (relws_drop _ rr))
      exact fin _ _ _ _ s2 rfl r2 .non
    · cases eg
  · cases eg
end

def gSubL (d di : Den) : DenG := fun w ws h => bindM (d ws h) fun x h1 => bindM (di ws h1) fun y h2 => match x, y with
  | .loc l, .d (.int i) => match h2[l]? with
    | some (.lst xs) => match ixN xs.length i with
      | some j => some (.ok ws, h2.set l (.lst (xs.set j w)))
      | none => none
    | _ => none
  | _, _ => none
theorem sg_sub {X : Cx} {pos : Pos} {o i : Expr} {d di : Den} (ho : SndE X o d) (hi : SndE X i di)
    (hp : ∀ {to ti : TE}, PE X o to → PE X i ti → PG X (.Subscript o i pos) (L2.gSub to ti rSetL) := by exact fun a b => pg_sub a b set_list) : SndG X (.Subscript o i pos) (gSubL d di) := by
  refine fun Wx tk => pg_imp (hp (ho Wx tk) (hi Wx tk)) fun v σ H Q q => ?_
  obtain ⟨th, h, ws, w, rs, rw_, rh, gg⟩ := q
  refine ⟨th, h, ws, rs, rh, (Goes.bind gg).imp (fun x th1 h1 H1 s1 r1 g1 vx rx => ?_) fun _ _ _ _ _ _ _ z => z⟩
  refine ⟨th1, h1, ws, rs.stay s1, r1, (Goes.bind g1).imp (fun y th2 h2 H2 s2 r2 g2 vy ry => ?_) fun _ _ _ _ _ _ _ z => z⟩
  split at g2
  · rename_i l i
    split at g2
    · rename_i xs e2
      split at g2
      · rename_i j ej
        have e1 := rel_int ry
        subst e1
        obtain ⟨a, rfl, t, hl⟩ := rx.stay s2
        obtain ⟨vs, z, rr⟩ := r2.obj l _ a e2 t
        refine ⟨a, vs, i, j, rfl, rfl, z, by rw [relws_length rr]; exact ej, ?_⟩
        obtain ⟨s3, r3⟩ := r2.putL e2 t (relws_set ((rw_.stay s1).stay s2) j rr)
        exact g2 th2 _ s3 r3 σ (((rs.stay s1).stay s2).stay s3)
      · exact g2.elim
    · exact g2.elim
  · exact g2.elim

def eListN (d : Den) : Den := fun ws h => bindM (d ws h) fun x h1 => if notFz x then (match items h1 x with
  | some xs => newL xs h1
  | none => none) else none
end L3

namespace L3
open PySem PySem.Spec PyProof.Rows L2

def cutL {α : Type} (xs : List α) (lo hi : Option Int) : List α := (xs.drop (HT.sIx xs.length 0 lo)).take (HT.sIx xs.length xs.length hi - HT.sIx xs.length 0 lo)
def gSlice (x : W) (lo hi : Option Int) (h : WH) : Option W := match x with
  | .d (.list xs) => some (.d (.list (cutL xs lo hi)))
  | .d (.tuple xs) => some (.d (.tuple (cutL xs lo hi)))
  | .d (.str z) => if z.length ≤ sizeLine then some (.d (.str (cutS z lo hi))) else none
  | .fz xs => (intsOf xs).map fun _ => .d (.list (cutL xs lo hi))
  | .loc l => match h[l]? with
    | some (.lst ws) => (dats ws).map fun xs => .d (.list (cutL xs lo hi))
    | _ => none
  | _ => none
abbrev DenP := WSt → M (Option Int)
def pNone : DenP := fun _ => optM (some none)
def pSome (d : Den) : DenP := fun ws h => bindM (d ws h) fun x h1 => match x with
  | .d (.int i) => some (.ok (some i), h1)
  | _ => none
def eSlice (d : Den) (dl dh : DenP) : Den := fun ws h => bindM (d ws h) fun x h1 => bindM (dl ws h1) fun l h2 => bindM (dh ws h2) fun u h3 => optM (gSlice x l u h3) h3
def rdP (K : PySem.W.Frag) (mg : MG) (Wx : WX) (d : DenP) : TO := fun σ H Q =>
  ∃ th h ws, RelSt K mg th h H ws σ ∧ RelH K mg th h H ∧ Goes K mg th h H (d ws h) (fun o _ _ H => Q o H) (badW K mg Wx σ)
def SndP (X : Cx) (e : Option Expr) (d : DenP) : Prop := ∀ Wx, Takes X Wx → PO X e (rdP X.K (X.mg, X.w) Wx d)
theorem po_imp {X : Cx} {e : Option Expr} {t t' : TO} (p : PO X e t) (h : ∀ σ H Q, t' σ H Q → t σ H Q) : PO X e t' := ⟨fun pins s σ H Q I q => p.run pins s σ H Q I (h σ H Q q)⟩
section
variable {X : Cx} {e : Expr} {d : Den} {dl dh : DenP} {lo hi : Option Expr} {p2 pos : Pos}
theorem sp_none : SndP X none pNone := by
  refine fun Wx tk => po_imp po_none fun σ H Q q => ?_
  obtain ⟨th, h, ws, rs, rh, g⟩ := q
  obtain ⟨_, e, g⟩ := Goes.opt g
  cases e
  exact g th H .refl rh
theorem sp_some (he : SndE X e d) : SndP X (some e) (pSome d) := by
  refine fun Wx tk => po_imp (po_some (he Wx tk)) fun σ H Q q => ?_
  obtain ⟨th, h, ws, rs, rh, g⟩ := q
  refine ⟨th, h, ws, rs, rh, (Goes.bind g).imp (fun x th1 h1 H1 s1 r1 g1 v rv => ?_) fun _ _ _ _ _ _ _ z => z⟩
  split at g1
  · have e1 := rel_int rv
    subst e1
    exact ⟨_, rfl, g1 th1 H1 .refl r1⟩
  · exact g1.elim
theorem dps_ints' {K : PySem.W.Frag} {H : Hp} : ∀ {bs : List Int} {vs : List V}, DpAll K H vs (bs.map PyData.int) → FzAll K H vs (bs.map PyData.int)
  | [], _, .nil => .nil
  | _ :: _, _, .cons (.int _) r => .cons (.int _) (dps_ints' r)
theorem fzs_cutL {K : PySem.W.Frag} {H : Hp} {vs : List V} {xs : List PyData} (r : FzAll K H vs xs) (lo hi : Option Int) : FzAll K H (cutV vs lo hi) (cutL xs lo hi) := by
  unfold cutV cutL
  rw [fzs_length r]
  exact fzs_take _ (fzs_drop _ r)
def rSliceAny (K : PySem.W.Frag) : V → Option Int → Option Int → Hp → VK → Prop := fun x lo hi H Q => (rSlL K x lo hi H Q ∨ rSlA K x lo hi H Q) ∨ rSlS x lo hi H Q
theorem cutL_all {α : Type} {xs : List α} {lo hi : Option Int} (h : HT.sIx xs.length 0 lo = 0 ∧ HT.sIx xs.length xs.length hi = xs.length) : cutL xs lo hi = xs := by
  unfold cutL
  rw [h.1, h.2]; simp
theorem sn_slice (he : SndE X e d) (hl : SndP X lo dl) (hu : SndP X hi dh) : SndE X (.Subscript e (.Slice lo hi none p2) pos) (eSlice d dl dh) := by
  refine fun Wx tk => pe_imp (pe_slice (r := rSliceAny X.K) ((sl_list.or sl_tupA).or sl_str) (he Wx tk) (hl Wx tk) (hu Wx tk)) fun σ H Q q => ?_
  obtain ⟨th, h, ws, rs, rh, g⟩ := q
  refine ⟨th, h, ws, rs, rh, (Goes.bind g).imp (fun x th1 h1 H1 s1 r1 g1 v rv => ?_) fun _ _ _ _ _ _ _ z => z⟩
  refine ⟨th1, h1, ws, rs.stay s1, r1, (Goes.bind g1).imp (fun l th2 h2 H2 s2 r2 g2 => ?_) fun _ _ _ _ _ _ _ z => z⟩
  refine ⟨th2, h2, ws, (rs.stay s1).stay s2, r2, (Goes.bind g2).imp (fun u th3 h3 H3 s3 r3 g3 => ?_) fun _ _ _ _ _ _ _ z => z⟩
  obtain ⟨w, e, g4⟩ := Goes.opt g3
  have an := ans_of r3 g4
  have rv3 := (rv.stay s2).stay s3
  unfold gSlice at e
  split at e
  · cases e
    obtain ⟨a, vs, rfl, sa, ra⟩ := rel_lst rv3
    refine .inl (.inl ⟨a, vs, rfl, .inl (.inl (hid_le sa)), fun p n => ?_⟩)
    obtain ⟨le, r⟩ := new_lst r3 n (fzs_cutL ra l u)
    exact an _ _ le r
  · cases e
    obtain ⟨a, vs, rfl, sa, ra⟩ := rel_tup rv3
    refine .inl (.inr ⟨a, vs, rfl, hid_Le.sqT sa, fun z => ?_, fun _ p n => ?_⟩)
    · rw [fzs_length ra] at z
      rw [cutL_all z] at an
      exact an H3 _ (Le.refl _) (.tup sa ra)
    · obtain ⟨le, r⟩ := new_tup r3 n (fzs_cutL ra l u)
      exact an _ _ le r
  · split at e
    · rename_i hz
      cases e
      have e1 := rel_str rv3
      subst e1
      exact .inr ⟨_, rfl, hz, an H3 _ (Le.refl _) (.str _)⟩
    · cases e
  · rename_i xs
    cases y : intsOf xs with
    | none => rw [y] at e; cases e
    | some ns =>
      rw [y] at e; cases e
      have e1 := intsOf_eq y
      subst e1
      cases rv3 with
      | lst sa ra =>
        refine .inl (.inl ⟨_, _, rfl, hid_Le.sqL sa, fun p n => ?_⟩)
        obtain ⟨le, r⟩ := new_lst r3 n (fzs_cutL (dps_ints' ra) l u)
        exact an _ _ le r
  · rename_i i
    split at e
    · rename_i ws' qq
      cases y : dats ws' with
      | none => rw [y] at e; cases e
      | some ds =>
        rw [y] at e; cases e
        obtain ⟨a, rfl, t, _⟩ := rv3
        obtain ⟨vs, z, rr⟩ := r3.obj _ _ a qq t
        rw [dats_eq y] at rr
        refine .inl (.inl ⟨a, vs, rfl, .inl (.inl z), fun p n => ?_⟩)
        obtain ⟨le, r⟩ := new_lst r3 n (fzs_cutL (dats_rel rr) l u)
        exact an _ _ le r
    · cases e
  · cases e
end
def gRev : W → WH → Option W := fun x h => match x with
  | .d (.list xs) => some (.d (.list xs.reverse))
  | .loc l => match h[l]? with
    | some (.lst ws) => (dats ws).map fun xs => .d (.list xs.reverse)
    | _ => none
  | _ => none

def rdSM (K : PySem.W.Frag) (mg : MG) (g : GB) : V → List V → Hp → VK → Prop := fun x xs H Q => rdArgs K mg g (x :: xs) H Q
def SMS (X : Cx) (id : String) (g : GB) : Prop := MtR X id (rdSM X.K (X.mg, X.w) g)
def isStr : W → Bool
  | .d (.str _) => true
  | _ => false
def eSM (g : GB) (d : Den) (da : DenA) : Den := fun ws h => bindM (d ws h) fun x h1 => if isStr x then bindM (da ws h1) fun as h2 => optM (g (x :: as) h2) h2 else none
section
variable {X : Cx} {o e : Expr} {d de : Den} {g : GB} {id : String} {name : Str} {apos pos : Pos}
theorem sn_sm1 (slot : Slot "str" name id) (ty : typeOf (.builtin id) = pure (.type "method_descriptor")) (hm : SMS X id g) (ho : SndE X o d) (he : SndE X e de)
    (hs : starEach [e] X.env = [(false, eval e X.env)] := by rfl) (hbase : attributeBase o name X.env (eval o X.env) = eval o X.env := by rfl) (hline : (apos.endLine == pos.line) = true := by rfl) : SndE X (.Call (.Attribute o name apos) [e] [] pos) (eSM g d (aCons de aNil)) := fun Wx tk =>
  pe_imp (pe_m1 slot ty hm (ho Wx tk) (he Wx tk) hs hbase hline) fun σ H Q q => by
    obtain ⟨th, h, ws, rs, rh, gg⟩ := q
    refine ⟨th, h, ws, rs, rh, (Goes.bind gg).imp (fun x th1 h1 H1 s1 r1 g1 v rv => ?_) fun _ _ _ _ _ _ _ z => z⟩
    split at g1
    · rename_i hx
      refine ⟨?_, ?_⟩
      · cases x with
        | d y => cases y with
          | str z => exact ⟨z, rel_str rv⟩
          | _ => cases hx
        | _ => cases hx
      · obtain ⟨th2, h2, ws2, rs2, r2, g2⟩ := ta_cons σ H1 (fun xs H2 => rdSM X.K (X.mg, X.w) g v xs H2 Q) (Wx := Wx) ⟨th1, h1, ws, rs.stay s1, r1, (Goes.bind g1).imp (fun as th2 h2 H2 s2 r2 g2 vs rvs => by
          obtain ⟨w, e, g3⟩ := Goes.opt g2
          exact ⟨th2, h2, x :: as, w, ⟨v, vs, rfl, rv.stay s2, rvs⟩, r2, e, ans_of r2 g3⟩) fun _ _ _ _ _ _ _ z => z⟩
        refine ⟨th2, h2, ws2, rs2, r2, g2.imp (fun y th3 h3 H3 s3 r3 g3 u ru => ?_) fun _ _ _ _ _ _ _ z => z⟩
        obtain ⟨th4, h4, ws4, rs4, r4, g4⟩ := g3 u ru
        obtain ⟨_, e, g5⟩ := Goes.opt g4
        cases e
        exact g5 th4 H3 .refl r4 [] rfl
    · exact g1.elim
end
def strsOf : List PyData → Option (List Str)
  | [] => some []
  | .str b :: r => (strsOf r).map (b :: ·)
  | _ => none
theorem strsOf_eq : ∀ {ds : List PyData} {bs : List Str}, strsOf ds = some bs → ds = bs.map PyData.str
  | [], _, e => by cases e; rfl
  | .str b :: r, bs, e => by
    have e : (strsOf r).map (b :: ·) = some bs := e
    cases q : strsOf r with
    | none => rw [q] at e; cases e
    | some cs => rw [q] at e; cases e; rw [strsOf_eq q]; rfl
  | .none :: _, _, e => by cases e
  | .bool _ :: _, _, e => by cases e
  | .int _ :: _, _, e => by cases e
  | .list _ :: _, _, e => by cases e
  | .tuple _ :: _, _, e => by cases e
  | .dict _ :: _, _, e => by cases e
theorem fzs_strs {K : PySem.W.Frag} {H : Hp} : ∀ {bs : List Str} {vs : List V}, FzAll K H vs (bs.map PyData.str) → vs = bs.map V.str
  | [], _, .nil => rfl
  | _ :: _, _, .cons (.str _) r => by rw [fzs_strs r]; rfl
def gJoin : GB := fun xs _ => match xs with
  | [.d (.str a), .d (.list ds)] => (strsOf ds).bind fun ys => if (ys.map (·.length)).sum + ys.length * a.length ≤ 16777216 then some (.d (.str (Txt.join a ys))) else none
  | _ => none
section
variable {X : Cx}
theorem sm_join : SMS X "str.join" gJoin := by
  intro pins s σ H x xs v us Q I rx rxs q
  obtain ⟨th, h, ws, w, rw_, rh, e, an⟩ := q
  unfold gJoin at e
  split at e
  · rename_i a ds
    cases y : strsOf ds with
    | none => rw [y] at e; cases e
    | some ys =>
      rw [y] at e
      have e : (if (ys.map (·.length)).sum + ys.length * a.length ≤ 16777216 then some (W.d (.str (Txt.join a ys))) else none) = some w := e
      split at e
      · rename_i hz
        cases e
        have e1 := strsOf_eq y
        subst e1
        obtain ⟨v1, v2, e2, ra, rb⟩ := rws2 rw_
        cases e2
        have e3 := rel_str ra
        subst e3
        obtain ⟨b, vs, rfl, sa, rr⟩ := rel_lst rb
        have e4 := fzs_strs rr
        subst e4
        exact mt_join pins s σ H _ _ v us Q I rx rxs ⟨a, b, ys, rfl, rfl, .inl (.inl (.inl (hid_le sa))), hz, an H _ (Le.refl _) (.str _)⟩
      · cases e
  · cases e
end
end L3

namespace L3
open PySem PySem.Spec PyProof.Rows L2

def pick {α : Type} (idx : List Nat) (l : List α) : List α := idx.filterMap fun i => l[i]?
theorem vals_pick {xs : List V} {us : List Value} (r : Vals xs us) : ∀ idx : List Nat, Vals (pick idx xs) (pick idx us)
  | [] => .nil
  | i :: idx => by
    unfold pick
    cases e : xs[i]? with
    | none =>
      rw [List.filterMap_cons, List.filterMap_cons, e, Vals.none_of r e]
      exact vals_pick r idx
    | some x =>
      obtain ⟨u, h1, h2⟩ := Vals.get r e
      rw [List.filterMap_cons, List.filterMap_cons, e, h1]
      exact .cons h2 (vals_pick r idx)
section
variable {K : PySem.W.Frag} {mg : MG} {th : Th} {h : WH} {H : Hp}
theorem relws_none : ∀ {ws : List W} {vs : List V} {i : Nat}, RelWs K mg th h H ws vs → ws[i]? = none → vs[i]? = none := fun {ws vs i} r e => by
  rw [List.getElem?_eq_none_iff] at *
  rw [relws_length r]; exact e
theorem relws_pick {ws : List W} {vs : List V} (r : RelWs K mg th h H ws vs) : ∀ idx : List Nat, RelWs K mg th h H (pick idx ws) (pick idx vs)
  | [] => rfl
  | i :: idx => by
    unfold pick
    cases e : ws[i]? with
    | none =>
      rw [List.filterMap_cons, List.filterMap_cons, e, relws_none r e]
      exact relws_pick r idx
    | some x =>
      obtain ⟨u, h1, h2⟩ := relws_get r e
      rw [List.filterMap_cons, List.filterMap_cons, e, h1]
      exact ⟨u, _, rfl, h2, relws_pick r idx⟩
end
theorem pick_length {α : Type} {l : List α} : ∀ {idx : List Nat}, (∀ i ∈ idx, i < l.length) → (pick idx l).length = idx.length
  | [], _ => rfl
  | i :: idx, h => by
    have hi := h i (List.mem_cons_self ..)
    unfold pick
    rw [List.filterMap_cons, List.getElem?_eq_getElem hi]
    exact congrArg Nat.succ (pick_length fun j hj => h j (List.mem_cons_of_mem _ hj))
section
variable {K : PySem.W.Frag} {mg : Str → Option Value} {x qual : Str} {params : Arguments} {body : List Stmt} {scope : Scope} {kws : List (Str × V)} {f : Addr} {fd : FuncData} {ps : List Str}
theorem FunT.of {dvs : List V} (F : FunD K x qual params body scope dvs kws f fd) : FunT K x qual params body scope f fd := by
  obtain ⟨oc, od, dV, kV, doc, pm, an, cdv, ct, osl, e, lk, hcd, _, _⟩ := F.ex
  exact ⟨⟨oc, od, dV, kV, doc, pm, an, cdv, ct, osl, e, lk, hcd⟩, F.kp⟩
theorem bndP (F : FunD K x qual params body scope [] kws f fd) (n : Nat) (ks : List Str) (idx : List Nat) (hl : idx.length = ps.length) (hb : ∀ i ∈ idx, i < n + ks.length)
    (h : ∀ (kV doc pm : Value) (an : Option Addr) (cdv ct : Value) (us ws : List Value), us.length = n → ws.length = ks.length → bindArgs (PySem.W.fnOf x qual params body scope .none kV doc pm an cdv ct) ⟨us, ks.zip ws⟩ = pure (ps.zip (pick idx (us ++ ws)))) :
    Bnd K mg fd ps n ks (fun ws us => pick idx (ws ++ us)) := by
  obtain ⟨oc, od, dV, kV, doc, pm, an, cdv, ct, osl, rfl, lk, hcd, hD, hK⟩ := F.ex
  have : dV = .none := by
    rcases hD with ⟨_, e⟩ | ⟨e, _⟩
    · exact e
    · exact absurd rfl e
  subst this
  refine ⟨fun us ws => pick idx (us ++ ws), fun vs zs => pick idx (vs ++ zs), ⟨fun s us ws X l1 l2 => .of_eq (h kV doc pm an cdv ct us ws l1 l2), fun a b => vals_pick (a.append b) idx⟩, fun w th hh H ws vs us zs rh r1 r2 l1 l2 => ?_⟩
  refine ⟨relws_pick (relws_append r1 r2) idx, ?_⟩
  rw [pick_length, hl]
  intro i hi
  have := hb i hi
  rw [List.length_append, l1, l2]
  exact this
end
section
variable {X : Cx} {pos : Pos}
theorem vr (i : Nat) {x : Str} (hN : X.N[i]? = some x := by rfl) (hv : Vis X.env.scope x := by first | exact Or.inl rfl | exact Or.inr (Or.inl rfl) | exact Or.inr (Or.inr rfl)) (hd : (x == ("__debug__" : Str)) = false := by decide) (hcd : (x == ("__classdict__" : Str)) = false := by decide) : SndE X (.Name x pos) (eVar i) := sn_var i hN hv hd hcd
theorem setS (i : Nat) {x : Str} {e : Expr} {de : Den} {p : Pos} (he : SndE X e de) (hN : X.N.Nodup) (hi : X.N[i]? = some x := by rfl) (hx : Loc X.env.scope x := by first | exact Or.inl rfl | exact Or.inr rfl) (hf : X.fn x = true ∨ X.env.scope.names.lookup x = some .local := by first | exact .inl rfl | exact .inr rfl)
    (hs : swapsWithSole [.Name x p] e pos.line X.env = pure false := by rfl) (hw : swappedStores [.Name x p] e X.env = pure none := by rfl) : SndS X (.Assign [.Name x p] e pos) (sSet i de) := ss_set i he hN hi hx hf hs hw
theorem tgN (i : Nat) {x : Str} (hN : X.N.Nodup) (hi : X.N[i]? = some x := by rfl) (hx : Loc X.env.scope x := by first | exact Or.inl rfl | exact Or.inr rfl) (hf : X.fn x = true ∨ X.env.scope.names.lookup x = some .local := by first | exact .inl rfl | exact .inr rfl) : SndG X (.Name x pos) (gName1 i) := sg_name i hN hi hx hf
theorem tgV (i : Nat) {x : Str} (hN : X.N.Nodup) (hi : X.N[i]? = some x := by rfl) (hx : Loc X.env.scope x := by first | exact Or.inl rfl | exact Or.inr rfl) (hf : X.fn x = true ∨ X.env.scope.names.lookup x = some .local := by first | exact .inl rfl | exact .inr rfl) : PG X (.Name x pos) (gName i) := pg_name hN hi hx hf
theorem na_nil : NamesAt X [] [] := .nil
theorem na_cons (i : Nat) {x : Str} {es : List Expr} {is : List Nat} (hN : X.N.Nodup) (r : NamesAt X es is) (hi : X.N[i]? = some x := by rfl) (hx : Loc X.env.scope x := by first | exact Or.inl rfl | exact Or.inr rfl) (hf : X.fn x = true ∨ X.env.scope.names.lookup x = some .local := by first | exact .inl rfl | exact .inr rfl)
    (ha : (assignEach (.Name x pos :: es) X.env).map (·.2) = assign (.Name x pos) X.env :: (assignEach es X.env).map (·.2) := by rfl) : NamesAt X (.Name x pos :: es) (i :: is) := .cons (pg_name hN hi hx hf) ha r
end
def GdOk (d : DenI) : Prop := ∀ ws h wk h1, d ws h = some (.ok wk, h1) → wk.gd h1
theorem optM_ok {α : Type} {o : Option α} {h h1 : WH} {a : α} (e : optM o h = some (.ok a, h1)) : o = some a ∧ h1 = h := by
  cases o with
  | none => cases e
  | some b => cases e; exact ⟨rfl, rfl⟩
theorem bindM_eq {α β : Type} {r : R α} {k : α → M β} {b : β} {h : WH} (e : bindM r k = some (.ok b, h)) : ∃ a h1, r = some (.ok a, h1) ∧ k a h1 = some (.ok b, h) := by
  match r with
  | none => cases e
  | some (.ok a, h1) => exact ⟨a, h1, rfl, e⟩
  | some (.exc c fs, h1) => cases e
theorem gd_val (d : Den) : GdOk (iVal d) := by
  intro ws h wk h1 e
  obtain ⟨w, h2, e1, e2⟩ := bindM_eq e
  obtain ⟨e3, rfl⟩ := optM_ok e2
  unfold walk at e3
  split at e3
  · cases e3; trivial
  · split at e3
    · rename_i q; cases e3; exact q
    · rename_i q; cases e3; exact q
    · cases e3
  · cases e3
  · cases q : items h1 w with
    | none => rw [q] at e3; cases e3
    | some xs => rw [q] at e3; cases e3; trivial
theorem gd_r1 (d : Den) : GdOk (iRange1 d) := by
  intro ws h wk h1 e
  obtain ⟨w, h2, e1, e2⟩ := bindM_eq e
  obtain ⟨e3, rfl⟩ := optM_ok e2
  unfold wRange1 at e3
  split at e3
  · split at e3
    · cases e3; trivial
    · cases e3
  · cases e3
end L3

namespace L3
open PySem PySem.Spec PyProof.Rows L2
theorem tuple_mulE (l : Addr) (items : Array Value) (n : Nat) (dd : Option Addr) (sl : Array (Option Value)) (x : Int) (u : Tok) (c0 : (decide (x < -(2 ^ 63)) || decide (x ≥ 2 ^ 63)) = false) (c1 : (items.isEmpty || x == 1) = true) :
    Meets (Builtin.«tuple.__mul__» ⟨[.ref l, .int x u], []⟩) (fun _ R s => s.heap.get? l = some { cls := .type "tuple", dict := dd, data := .seq items n, slots := sl } ∧ R (.ok (.ret (Value.ref l))) s) :=
  .of_wp fun prog w A R s h => by
    obtain ⟨hp, g, d, tk, os⟩ := s
    obtain ⟨hl, h⟩ := h
    have f1 := AutoSeq1.idx_int
    wp_walk using wpAny_loadPart' hl
    repeat (first
      | (refine wpAny_ite_false (decide_eq_false (by rw [c0]; exact Bool.false_ne_true)) ?_; wp_walk using wpAny_loadPart' hl)
      | (refine wpAny_ite_true (decide_eq_true c1) ?_; wp_walk using wpAny_loadPart' hl))
    exact ⟨_, rfl, h⟩
def rRepE (K : PySem.W.Frag) : R2 := fun x y H Q => ∃ l k xs, x = .ref l ∧ y = .int k ∧ SqT K H l xs ∧ (xs = [] ∨ k = 1) ∧ -(2 ^ 63) ≤ k ∧ k < 2 ^ 63 ∧ Q (.ref l) H
theorem op_repE {X : Cx} : OpR X (binaryOp .Mult) (rRepE X.K) := by
  intro pins s σ H x y v u Q I rx ry h
  obtain ⟨l, k, xs, rfl, rfl, hT, hne, h1, h2, q⟩ := h
  cases rx
  obtain ⟨t, rfl⟩ := ry
  obtain ⟨its, r, ⟨⟨cls, dd, data, sl⟩, ho, hc, n, hd⟩, hs⟩ := I.tuple hT
  simp only at hc hd
  subst hc hd
  have c0 : (decide (k < -(2 ^ 63)) || decide (k ≥ 2 ^ 63)) = false := by
    rw [decide_eq_false (by omega), decide_eq_false (by omega)]; rfl
  have c1 : (its.toArray.isEmpty || k == 1) = true := by
    rcases hne with e | e
    · subst e; cases r; rfl
    · subst e; rw [beq_self_eq_true, Bool.or_true]
  refine wpAny_binaryOp_repeat_ref (T := "tuple") (U := "int") (by decide) ⟨_, ho, rfl⟩ (fun s' => typeIs_int s' k t) noFill_tuple_mul F.fills_int_mul F.slot_int_rmul repeat_tuple F.slot_int_index.lookup
    (call_meets F.slot_int_rmul (typeIs_int s k t) F.entry_int_rmul (F.args_int_rmul_2 _ _) (int_rmul_tuple k t l its.toArray n dd sl)
      ⟨ho, rfl, ⟨_, ho, rfl⟩, call_meets F.slot_tuple_mul ⟨_, ho, rfl⟩ F.entry_tuple_mul (F.args_tuple_mul_2 _ _) (tuple_mulE l its.toArray n dd sl k t c0 c1) ⟨ho, ?_⟩⟩)
  exact ⟨.ref l, H, I, rfl, q⟩
def gMulT : Op2 := fun x y h => match x, y with
  | .d (.tuple xs), .d (.int k) => if (xs.isEmpty ∨ k = 1) ∧ -(2 ^ 63) ≤ k ∧ k < 2 ^ 63 then some (.d (.tuple xs)) else if 2 ≤ k ∧ k ≤ 1000 ∧ xs.length ≤ 1000 ∧ xs.isEmpty = false then some (.d (.tuple (List.replicate k.toNat xs).flatten)) else none
  | x, y => gMul x y h
theorem os_mulT {X : Cx} : OpS2 X (binaryOp .Mult) gMulT := by
  intro pins s σ H x y v u Q I rx ry q
  obtain ⟨th, h, w1, w2, w, r1, r2, rh, e, an⟩ := q
  unfold gMulT at e
  split at e
  · rename_i xs k
    obtain ⟨a, vs, rfl, sa, ra⟩ := rel_tup r1
    have e2 := rel_int r2
    subst e2
    split at e
    · rename_i hz
      cases e
      refine op_repE pins s σ H _ _ v u Q I rx ry ⟨a, k, vs, rfl, rfl, hid_Le.sqT sa, hz.1.imp (fun q => ?_) id, hz.2.1, hz.2.2, an H _ (Le.refl H) (.tup sa ra)⟩
      cases xs with
      | nil => cases ra; rfl
      | cons y ys => cases q
    · split at e
      · rename_i hz
        cases e
        refine op_repT pins s σ H _ _ v u Q I rx ry ⟨a, k, vs, rfl, rfl, hid_Le.sqT sa, fun q => ?_, hz.1, hz.2.1, by rw [fzs_length ra]; exact hz.2.2.1, fun p n => ?_⟩
        · subst q; cases ra; cases hz.2.2.2
        · obtain ⟨l, r⟩ := new_tup rh n (fzs_rep ra _)
          exact an _ _ l r
      · cases e
  · exact os_mul pins s σ H x y v u Q I rx ry ⟨th, h, w1, w2, w, r1, r2, rh, e, an⟩
end L3

namespace L3
open PySem PySem.Spec PyProof.Rows L2
def asB : W → Option Bool
  | .d (.bool b) => some b
  | _ => none
def tB (d : Den) : DenT := fun ws h => bindM (d ws h) fun w h1 => optM (asB w) h1
section
variable {X : Cx} {pos : Pos} {a b c : Expr} {d da db dc : Den}
theorem rd_test {Wx : WX} (σ : L2.St) (H : Hp) (Q : Bool → Hp → Prop) (q : rdT X.K (X.mg, X.w) Wx (tB d) σ H Q) : tTest (rdE X.K (X.mg, X.w) Wx d) σ H Q := by
  obtain ⟨th, h, ws, rs, rh, g⟩ := q
  refine ⟨th, h, ws, rs, rh, (Goes.bind g).imp (fun x th1 h1 H1 s1 r1 g1 v rv => ?_) fun _ _ _ _ _ _ _ z => z⟩
  obtain ⟨k, e, g3⟩ := Goes.opt g1
  unfold asB at e
  split at e
  · cases e
    exact ⟨k, rel_bl rv, g3 th1 H1 .refl r1⟩
  · cases e
theorem tTest_imp {t t' : TE} (h : ∀ σ H Q, t' σ H Q → t σ H Q) (σ : L2.St) (H : Hp) (Q : Bool → Hp → Prop) (q : tTest t' σ H Q) : tTest t σ H Q := h σ H _ q
theorem st_cmp {op : CmpOp} {g : Op2} (ho : OpS2 X (compareOp op) g) (ha : SndE X a da) (hb : SndE X b db) (hm : behindInMarks op b = false) : SndT X (.Compare a [op] [b] pos) (tB (eOp g da db)) := fun Wx tk =>
  pt_imp (pt_cmpR ho (ha Wx tk) (hb Wx tk) hm) fun σ H Q q => tTest_imp (rd_bin fun _ _ _ _ z => z) σ H Q (rd_test σ H Q q)
end
theorem fzs_rev {K : PySem.W.Frag} {H : Hp} : ∀ {vs : List V} {xs : List PyData}, FzAll K H vs xs → FzAll K H vs.reverse xs.reverse
  | _, _, .nil => .nil
  | _, _, .cons a b => by
    rw [List.reverse_cons, List.reverse_cons]
    exact fzs_append (fzs_rev b) (.cons a .nil)
theorem sn_rev {X : Cx} {a : Expr} {da : Den} {k : Nat} {p1 p2 p3 pos : Pos} (ha : SndE X a da) : SndE X (.Subscript a (.Slice none none (some (.UnaryOp .USub (.Constant (.int 1) k p1) p2)) p3) pos) (eUn gRev da) := by
  refine fun Wx tk => pe_imp (pe_revL (ha Wx tk)) fun σ H Q q => ?_
  obtain ⟨th, h, ws, rs, rh, g⟩ := q
  refine ⟨th, h, ws, rs, rh, (Goes.bind g).imp (fun x th1 h1 H1 s1 r1 g1 v rv => ?_) fun _ _ _ _ _ _ _ z => z⟩
  obtain ⟨w, e, g3⟩ := Goes.opt g1
  have an := ans_of r1 g3
  unfold gRev at e
  split at e
  · rename_i xs
    cases e
    obtain ⟨p, vs, rfl, hp, f⟩ := rel_lst rv
    refine ⟨p, vs, rfl, .inl (.inl (hid_Le _ _ hp)), fun p2 n => ?_⟩
    obtain ⟨l, r2⟩ := new_lst r1 n (fzs_rev f)
    exact an _ _ l r2
  · rename_i i
    split at e
    · rename_i ws' qq
      cases y : dats ws' with
      | none => rw [y] at e; cases e
      | some ds =>
        rw [y] at e; cases e
        obtain ⟨a, rfl, t, _⟩ := rv
        obtain ⟨vs, z, rr⟩ := r1.obj _ _ a qq t
        rw [dats_eq y] at rr
        refine ⟨a, vs, rfl, .inl (.inl z), fun p n => ?_⟩
        obtain ⟨le, r⟩ := new_lst r1 n (fzs_rev (dats_rel rr))
        exact an _ _ le r
    · cases e
  · cases e
end L3
namespace L3
open PySem PySem.Spec PyProof.Rows L2
def gEqS : Op2 := fun x y h => match x, y with
  | .d (.str a), .d (.str b) => some (.d (.bool (decide (a = b))))
  | x, y => gEq x y h
def gNeS : Op2 := fun x y h => match x, y with
  | .d (.str a), .d (.str b) => some (.d (.bool (!decide (a = b))))
  | x, y => gNe x y h
theorem os_eqS {X : Cx} (hu : X.A.units + 64 < cLine) : OpS2 X (compareOp .Eq) gEqS := by
  intro pins s σ H x y v u Q I rx ry q
  have q0 := q
  obtain ⟨th, h, w1, w2, w, r1, r2, rh, e, an⟩ := q
  unfold gEqS at e
  split at e
  · cases e
    have e1 := rel_str r1
    have e2 := rel_str r2
    subst e1; subst e2
    exact op_eq pins s σ H _ _ v u Q I rx ry ⟨rfl, by simpa using an H _ (Le.refl H) (.bl _)⟩
  · exact os_eq hu pins s σ H x y v u Q I rx ry ⟨th, h, _, _, w, r1, r2, rh, e, an⟩
theorem os_neS {X : Cx} (hu : X.A.units + 64 < cLine) : OpS2 X (compareOp .NotEq) gNeS := by
  intro pins s σ H x y v u Q I rx ry q
  obtain ⟨th, h, w1, w2, w, r1, r2, rh, e, an⟩ := q
  unfold gNeS at e
  split at e
  · cases e
    have e1 := rel_str r1
    have e2 := rel_str r2
    subst e1; subst e2
    exact op_ne pins s σ H _ _ v u Q I rx ry ⟨rfl, by simpa using an H _ (Le.refl H) (.bl _)⟩
  · exact os_ne hu pins s σ H x y v u Q I rx ry ⟨th, h, _, _, w, r1, r2, rh, e, an⟩
end L3

namespace L3
open PySem PySem.Spec PyProof.Rows L2
def isTup1 : PyData → Bool
  | .tuple (_ :: _) => true
  | _ => false
def notTup : PyData → Bool
  | .none => false
  | .tuple _ => false
  | _ => true
def okS (ds : List PyData) : Bool := ds.all (fun a => ds.all fun b => PySem.W.alike a b) && (ds.all isTup1 || ds.all notTup) && ds.all fun d => flat d && decide (d.depth ≤ 60)
def sortD (ds : List PyData) : List PyData := ds.mergeSort fun a b => !PySem.W.dataLt b a
theorem okS_split {ds : List PyData} (h : okS ds = true) : PySem.W.AllAlike ds ∧ PySem.W.Sortable ds ∧ (∀ d ∈ ds, flat d = true ∧ d.depth ≤ 60) := by
  unfold okS at h
  simp only [Bool.and_eq_true, Bool.or_eq_true, List.all_eq_true, decide_eq_true_eq] at h
  obtain ⟨⟨h1, h2⟩, h3⟩ := h
  refine ⟨fun d m d' m' => h1 d m d' m', ?_, h3⟩
  rcases h2 with h2 | h2
  · refine .inl fun d m => ?_
    have := h2 d m
    unfold isTup1 at this
    split at this
    · exact ⟨_, _, rfl⟩
    · cases this
  · refine .inr fun d m => ?_
    have := h2 d m
    constructor
    · rintro rfl; cases this
    · rintro xs rfl; cases this
section
variable {prog : Program} {w : World} {A : Around} {E : Value → Shared → Prop} {s : Shared} {β : Type} {R : Value → β → Prop} {enc : β → PyData} {vs : List Value} {bs : List β}
open PySem.W PySem.Calls
theorem sorted_any {l : Addr} {T : String} {o : Obj} {n : Nat} {Q : Value → Shared → Prop} (hT : T = "list" ∨ T = "tuple") (ho : s.heap.get? l = some o) (hc : o.cls = .type T) (hd : o.data = .seq vs.toArray n)
    (er : EachIs R vs bs) (rd : EachIs (fun v b => ∃ as, Reads s.heap v (enc b) as) vs bs) (al : AllAlike (bs.map enc)) (sb : Sortable (bs.map enc)) (hL : bs.length ≤ sizeLine) (hu : ∀ b ∈ bs, A.units + 2 + (enc b).depth < cLine)
    (fin : ∀ (h1 h' : Heap) (out : List Value) (ep : Nat), out.length = bs.length → EachIs R out (bs.mergeSort (dataLe false enc)) → (∀ b u, s.heap.get? b = some u → h1.get? b = some u) → (∀ b u, h1.get? b = some u → h'.get? b = some u) → h'.get? h1.objs.size = some (seqObj "list" out.toArray ep) → Q (.ref h1.objs.size) { s with heap := h' }) :
    wpAny (model prog w) A (call (.builtin "sorted") [.ref l]) Q E s := by
  have hv : vs.length = bs.length := er.length
  refine call_function_entry_kw kind_sorted plain_sorted entry_sorted (args_sorted1 _) ?_
  unfold Builtin.«sorted»
  refine wpAny_bind (m := checkCount "sorted" 1 1 _) (wpAny_pure ?_)
  refine wpAny_bind (wpAny_collect_seq l hT ho hc hd (fun h1 k1 => ?_) (by rw [List.size_toArray]; omega))
  have e1 : vs.toArray.toList = vs := by simp
  rw [e1]
  refine wpAny_bind (wpAny_newList ?_ (by show vs.length ≤ sizeLine; omega))
  obtain ⟨h2, eh2⟩ : ∃ h2, h2 = h1.push (seqObj "list" vs.toArray 0) := ⟨_, rfl⟩
  have at2 : h2.get? h1.objs.size = some (seqObj "list" vs.toArray 0) := by rw [eh2]; exact Heap.get?_push_size _ rfl
  have old2 : ∀ b u, h1.get? b = some u → b ≠ h1.objs.size ∧ b < h2.objs.size ∧ h2.get? b = some u := fun b u e => by
    have lt : b < h1.objs.size := Heap.lt_size e
    refine ⟨Nat.ne_of_lt lt, ?_, ?_⟩
    · rw [eh2, size_push']; exact Nat.lt_succ_of_lt lt
    · rw [eh2]; exact Heap.get?_push_of_some _ e
  show wpAny (model prog w) A.in1 _ _ _ { s with heap := h1.push (seqObj "list" vs.toArray 0) }
  rw [← eh2]
  have rd2 : EachIs (fun v b => ∃ as, Reads (sortingHeap h2 h1.objs.size vs) v (enc b) as) vs bs := rd.mono fun _ _ ⟨as, r⟩ => ⟨as, Reads.keeps (fun b u e => sortingHeap_old (old2 b u (k1 b u e)).1 (old2 b u (k1 b u e)).2.2) r⟩
  have S : SortsAt prog w A.in1.in1 { s with heap := sortingHeap h2 h1.objs.size vs } (dataKind (sortingHeap h2 h1.objs.size vs) (bs.map enc)) vs := SortsAt.data (each_map (R := fun v d => ∃ as, Reads (sortingHeap h2 h1.objs.size vs) v d as) enc rd2) al sb (bound_map hu)
  refine wpAny_bind (wpAny_holding (wpAny_call_entry_kw slot_list_sort ⟨_, at2, rfl⟩ entry_list_sort ?body (args_list_sort _)))
  case body =>
    show wpAny (model prog w) A.in1.in1 (Builtin.«list.sort» ⟨[.ref h1.objs.size], []⟩) _ _ _
    refine list_sort_vals (s := { s with heap := h2 }) at2 S (by omega) ⟨_, rfl, wpAny_pure ⟨_, rfl, ?_⟩⟩
    obtain ⟨ep, he⟩ := sortedHeap_at (vs := vs) (out := (sortVals (dataKind (sortingHeap h2 h1.objs.size vs) (bs.map enc)) false vs vs).toArray) at2
    refine fin h1 _ _ ep ((sortVals_length false rfl).trans hv) (sortVals_data false er rd2 al) k1 (fun b u e => ?_) he
    obtain ⟨z1, z2, z3⟩ := old2 b u e
    exact (sortedHeap_old z1 z2).trans z3
end
def gSorted : GB := fun xs h => match xs with
  | [w] => if notFz w then (items h w).bind fun ws => (dats ws).bind fun ds => if okS ds then some (.d (.list (sortD ds))) else none else none
  | _ => none
theorem each_of {K : PySem.W.Frag} {H : Hp} : ∀ {us : List Value} {vs : List V} {ds : List PyData}, Vals vs us → FzAll K H vs ds → PySem.W.EachIs (fun u b => RelV b.2 u ∧ Fz K H b.2 b.1) us (ds.zip vs)
  | _, _, _, .nil, .nil => .nil
  | _, _, _, .cons a r, .cons b q => .cons ⟨a, b⟩ (each_of r q)
theorem of_each {K : PySem.W.Frag} {H : Hp} : ∀ {us : List Value} {bs : List (PyData × V)}, PySem.W.EachIs (fun u b => RelV b.2 u ∧ Fz K H b.2 b.1) us bs → Vals (bs.map Prod.snd) us ∧ FzAll K H (bs.map Prod.snd) (bs.map Prod.fst)
  | _, _, .nil => ⟨.nil, .nil⟩
  | _, _, .cons ⟨a, b⟩ r => ⟨.cons a (of_each r).1, .cons b (of_each r).2⟩
theorem fst_zip {K : PySem.W.Frag} {H : Hp} : ∀ {vs : List V} {ds : List PyData}, FzAll K H vs ds → (ds.zip vs).map Prod.fst = ds
  | _, _, .nil => rfl
  | _, _, .cons _ r => congrArg (_ :: ·) (fst_zip r)
section
variable {X : Cx}
def rdSortC (K : PySem.W.Frag) (mg : MG) : List V → Hp → VK → Prop := fun xs H Q => ∃ th h w0 zs ds, RelWs K mg th h H [w0] xs ∧ RelH K mg th h H ∧ notFz w0 = true ∧ items h w0 = some zs ∧ dats zs = some ds ∧ okS ds = true ∧
  ∀ p vs, H p = none → FzAll K (hid th h H) vs (sortD ds) → Q (.ref p) (L2.upd H p (.lst vs))
theorem cs_sortedC (hu : X.A.units + 65 < cLine) : CallR X (.builtin "sorted") (rdSortC X.K (X.mg, X.w)) := by
  intro pins s σ H vs us Q I rv q
  obtain ⟨th, h, w0, zs, ds, rw_, rh, nf, y, y2, ok, an⟩ := q
  obtain ⟨al, sb, fl⟩ := okS_split ok
  obtain ⟨v, rfl, a⟩ := rws1 rw_
  obtain ⟨ad, ys, rfl, sq, rr⟩ := rel_items a rh nf y
  rw [dats_eq y2] at rr
  have fz := dats_rel rr
  obtain ⟨u, rfl, r1⟩ := Vals.one rv
  obtain rfl : u = Value.ref ad := r1
  obtain ⟨T, its, o, n, hT, ho, hc, hd, rvs, hz⟩ : ∃ (T : String) (its : List Value) (o : Obj) (n : Nat), (T = "list" ∨ T = "tuple") ∧ s.heap.get? ad = some o ∧ o.cls = .type T ∧ o.data = .seq its.toArray n ∧ Vals ys its ∧ ys.length ≤ sizeLine := by
    rcases sq with sq | sq
    · obtain ⟨its, rvs, ⟨o, n, ho, hc, _, hd⟩, hz⟩ := I.list sq
      exact ⟨_, its, o, n, .inl rfl, ho, hc, hd, rvs, hz⟩
    · obtain ⟨its, rvs, ⟨o, ho, hc, n, hd⟩, hz⟩ := I.tuple sq
      exact ⟨_, its, o, n, .inr rfl, ho, hc, hd, rvs, hz⟩
  have fe := fst_zip fz
  have hlz : (ds.zip ys).length = ys.length := by rw [List.length_zip, fzs_length fz, Nat.min_self]
  have each := each_of rvs fz
  refine sorted_any (enc := Prod.fst) hT ho hc hd each ?_ (by rw [fe]; exact al) (by rw [fe]; exact sb) (by rw [hlz]; exact hz) (fun b m => ?_) fun h1 h' out ep ol eo k1 k2 at_ => ?_
  · refine (PySem.W.each_mem each).mono fun u b ⟨⟨r, f⟩, m⟩ => ?_
    have : b.1 ∈ ds := by rw [← fe]; exact List.mem_map_of_mem (f := Prod.fst) m
    exact Dp.reads I b.1 b.2 u (hid_Le.dp (f.dp (fl _ this).1)) r
  · have : b.1 ∈ ds := by rw [← fe]; exact List.mem_map_of_mem (f := Prod.fst) m
    have := (fl _ this).2
    omega
  · obtain ⟨ro, fo⟩ := of_each eo
    have I1 : Inv X pins σ H { s with heap := h1 } := I.kept (t' := s.toks) k1
    have n0 : H h1.objs.size = none := I1.hok.fresh (Nat.le_refl _)
    have es : ((ds.zip ys).mergeSort (PySem.W.dataLe false Prod.fst)).map Prod.fst = sortD ds := by
      have z := List.map_mergeSort (f := Prod.fst) (r := PySem.W.dataLe false Prod.fst) (s := fun a b => !PySem.W.dataLt b a) (l := ds.zip ys) (fun a _ b _ => rfl)
      rw [fe] at z
      exact z
    rw [es] at fo
    refine ⟨.ref h1.objs.size, L2.upd H h1.objs.size (.lst (((ds.zip ys).mergeSort (PySem.W.dataLe false Prod.fst)).map Prod.snd)), I1.laid (t' := s.toks) k2 (Nat.le_refl _) ?_, rfl, an _ _ n0 fo⟩
    refine ⟨?_, out, ep, ro, at_⟩
    rw [List.length_map, List.length_mergeSort, hlz]; exact hz
theorem cs_sorted (hu : X.A.units + 65 < cLine) : CallS X (.builtin "sorted") gSorted := by
  intro pins s σ H vs us Q I rv q
  obtain ⟨th, h, ws, w, rw_, rh, e, an⟩ := q
  unfold gSorted at e
  split at e
  · rename_i w0
    split at e
    · rename_i nf
      cases y : items h w0 with
      | none => rw [y] at e; cases e
      | some zs =>
        rw [y] at e
        have e : ((dats zs).bind fun ds => if okS ds then some (W.d (.list (sortD ds))) else none) = some w := e
        cases y2 : dats zs with
        | none => rw [y2] at e; cases e
        | some ds =>
          rw [y2] at e
          have e : (if okS ds then some (W.d (.list (sortD ds))) else none) = some w := e
          split at e
          · rename_i ok
            cases e
            refine cs_sortedC hu pins s σ H vs us Q I rv ⟨th, h, w0, zs, ds, rw_, rh, nf, y, y2, ok, fun p vs' n fo => ?_⟩
            obtain ⟨le, r⟩ := new_lst rh n fo
            exact an _ _ le r
          · cases e
    · cases e
  · cases e
end
end L3

namespace L3
open PySem PySem.Spec PyProof.Rows L2
def starW (h : WH) (x : W) : Option (List W) := if notFz x then items h x else none
def aStar (d : Den) (r : DenA) : DenA := fun ws h => bindM (d ws h) fun x h1 => bindM (optM (starW h1 x) h1) fun xs h2 => bindM (r ws h2) fun ys h3 => some (.ok (xs ++ ys), h3)
section
variable {X : Cx} {pos p : Pos} {e : Expr} {es : List Expr} {de : Den} {dr : DenA}
end
def sAugI (i : Nat) (f : Int → Int → Int) (d : Den) : S := fun ws h => match ws[i]?.join with
  | some (.d (.int k)) => sE (d ws h) ws fun y h1 => match y with
    | .d (.int j) => some (.nx, ws.set i (some (.d (.int (f k j)))), h1)
    | _ => none
  | _ => none
section
variable {X : Cx} {pos : Pos} {e : Expr} {de : Den} {f : Int → Int → Int} {op : Operator}
end
def sAsg2 (d : Den) (g1 g2 : DenG) : S := fun ws h => sE (d ws h) ws fun w h1 => sE (g1 w ws h1) ws fun ws2 h2 => sE (g2 w ws2 h2) ws fun ws3 h3 => some (.nx, ws3, h3)
section
variable {X : Cx} {pos : Pos} {e t1 t2 : Expr} {de : Den} {i j : Nat}
end
inductive SJ (X : Cx) : List Expr → List Den → Prop
  | nil : SJ X [] []
  | cons {e : Expr} {d : Den} {es : List Expr} {ds : List Den} (h : SndE X e d) (r : SJ X es ds) : SJ X (e :: es) (d :: ds)
section
variable {X : Cx} {pos : Pos} {e : Expr} {de : Den}
end
end L3

namespace L3
open PySem PySem.Spec PyProof.Rows L2
abbrev pk0 (idx : List Nat) (ws us : List W) : List W := pick idx (ws ++ us)
abbrev pk1 (idx : List Nat) (mw : List W) (ws us : List W) : List W := pick idx (ws ++ mw ++ us)
end L3

namespace L3
open PySem PySem.Spec PyProof.Rows L2
def lstI (h : WH) : W → Option (List W)
  | .d (.list xs) => some (xs.map .d)
  | .loc l => match h[l]? with
    | some (.lst ws) => some ws
    | _ => none
  | _ => none
def addN (x y : W) : M W := fun h => match lstI h x, lstI h y with
  | some xs, some ys => if xs.length + ys.length ≤ sizeLine then newL (xs ++ ys) h else none
  | _, _ => none
def eAddN (da db : Den) : Den := fun ws h => bindM (da ws h) fun x h1 => bindM (db ws h1) fun y h2 => addN x y h2
end L3

namespace L3
open PySem PySem.Spec PyProof.Rows L2
noncomputable def D_pen : S :=
    sRet (eNew (aCons (eB gList (aCons (eSlice (eVar 0) (pNone) (pSome (eC (.d (.int 63))))) (aNil))) (aCons (eC (.d (.int 0))) (aCons (eC (.d (.int 0))) (aNil)))))
noncomputable def M_pen : List W → M W := fnK 1 1 (D_pen)
noncomputable def D_drawA (k0 k1 k2 k3 k4 k5 k6 k7 k8 : Int) : S :=
    sSeq (sIf (tB (eOp gGt (eOp gIx (eVar 0) (eC (.d (.int 2)))) (eC (.d (.int 0))))) (sSeq (sSet 2 (eOp gMod (eOp gIx (eVar 0) (eC (.d (.int 2)))) (eVar 1))) <|
    sSeq (sAsg (eOp gFdiv (eOp gIx (eVar 0) (eC (.d (.int 2)))) (eVar 1)) (gSubL (eVar 0) (eC (.d (.int 2))))) <|
    sRet (eVar 2)) (sSkip)) <|
    sSeq (sSet 3 (eOp gIx (eVar 0) (eC (.d (.int 1))))) <|
    sSeq (sAsg (eOp gAdd (eVar 3) (eC (.d (.int 1)))) (gSubL (eVar 0) (eC (.d (.int 1))))) <|
    sSeq (sSet 4 (eOp gAdd (eOp gMulT (eC (.d (.int k0))) (eVar 3)) (eC (.d (.int k1))))) <|
    sSeq (sIf (tB (eOp gNeS (eOp gIx (eVar 0) (eC (.d (.int 0)))) (eLst (aNil)))) (sSet 4 (eOp gIx (eOp gIx (eVar 0) (eC (.d (.int 0)))) (eOp gMod (eVar 3) (eB gLen (aCons (eOp gIx (eVar 0) (eC (.d (.int 0)))) (aNil)))))) (sSkip)) <|
    sSeq (sIf (tAndM (tB (eOp gLt (eVar 3) (eB gLen (aCons (eOp gIx (eVar 0) (eC (.d (.int 0)))) (aNil))))) (tB (eOp gGe (eB gAbs (aCons (eVar 4) (aNil))) (eOp gPow (eC (.d (.int 10))) (eC (.d (.int 18))))))) (sSeq (sSet 5 (eOp gAdd (eOp gMulT (eC (.d (.int 2))) (eB gAbs (aCons (eVar 4) (aNil)))) (eB gInt1 (aCons (eOp gLt (eVar 4) (eC (.d (.int 0)))) (aNil))))) <|
    sSeq (sAsg (eOp gFdiv (eVar 5) (eVar 1)) (gSubL (eVar 0) (eC (.d (.int 2))))) <|
    sRet (eOp gMod (eVar 5) (eVar 1))) (sSkip)) <|
    sSeq (sSet 6 (eOp gMod (eOp gPow (eOp gAdd (eOp gAdd (eOp gMod (eVar 4) (eC (.d (.int k2)))) (eOp gMulT (eC (.d (.int k3))) (eVar 3))) (eC (.d (.int k4)))) (eC (.d (.int 5)))) (eC (.d (.int k5))))) <|
    sSeq (sSet 6 (eOp gMod (eOp gPow (eOp gAdd (eOp gAdd (eOp gMulT (eVar 6) (eOp gAdd (eVar 3) (eC (.d (.int k6))))) (eOp gMulT (eOp gMulT (eC (.d (.int k7))) (eVar 3)) (eVar 3))) (eC (.d (.int 7)))) (eC (.d (.int 3)))) (eC (.d (.int k8))))) <|
    sRet (eOp gMod (eOp gFdiv (eVar 6) (eC (.d (.int 32)))) (eVar 1))
noncomputable def M_drawA (k0 k1 k2 k3 k4 k5 k6 k7 k8 : Int) : List W → M W := fnM 2 7 (D_drawA k0 k1 k2 k3 k4 k5 k6 k7 k8)
noncomputable def D_namesA (c0 : List W → M W) : S :=
    sSeq (sSet 2 (eC (.d (.str "abcdefghijklmnopqrstuvwxyz")))) <|
    sSeq (sSet 3 (eCall 2 0 (pk0 [0, 1]) c0 (aCons (eVar 0) (aCons (eC (.d (.int 4))) (aNil))) (aNil))) <|
    sSeq (sSet 4 (eCall 2 0 (pk0 [0, 1]) c0 (aCons (eVar 0) (aCons (eC (.d (.int 26))) (aNil))) (aNil))) <|
    sSeq (sSet 5 (eNew (aNil))) <|
    sSeq (sFor (iRange1 (eVar 1)) (gName1 6) (sSeq (sSet 7 (eOp gIx (eVar 2) (eOp gMod (eOp gAdd (eVar 4) (eOp gMulT (eC (.d (.int 7))) (eVar 6))) (eC (.d (.int 26)))))) <|
    sSeq (sSet 8 (eComp [9] (iRange1 (eCall 2 0 (pk0 [0, 1]) c0 (aCons (eVar 0) (aCons (eC (.d (.int 8))) (aNil))) (aNil))) (.one 9) (tTrue) (eOp gIx (eVar 2) (eCall 2 0 (pk0 [0, 1]) c0 (aCons (eVar 0) (aCons (eC (.d (.int 26))) (aNil))) (aNil))))) <|
    sDo (eLM mAppend (eVar 5) (aCons (eOp gIx (eLst (aCons (eOp gIx (eVar 2) (eVar 6)) (aCons (eVar 7) (aCons (eOp gAdd (eC (.d (.str "aaaaaaa"))) (eVar 7)) (aCons (eOp gAdd (eVar 7) (eSM gJoin (eC (.d (.str ""))) (aCons (eVar 8) aNil))) (aNil)))))) (eVar 3)) (aNil))))) <|
    sRet (eVar 5)
noncomputable def M_namesA (c0 : List W → M W) : List W → M W := fnM 2 10 (D_namesA c0)
noncomputable def D_numbersA (c0 : List W → M W) : S :=
    sSeq (sSet 3 (eCall 2 0 (pk0 [0, 1]) c0 (aCons (eVar 0) (aCons (eOp gAdd (eVar 2) (eC (.d (.int 2)))) (aNil))) (aNil))) <|
    sSeq (sSet 4 (eCall 2 0 (pk0 [0, 1]) c0 (aCons (eVar 0) (aCons (eC (.d (.int 3))) (aNil))) (aNil))) <|
    sSeq (sSet 5 (eLst (aCons (eTup (aCons (eVar 3) (aCons (eCall 2 0 (pk0 [0, 1]) c0 (aCons (eVar 0) (aCons (eOp gAdd (eVar 2) (eC (.d (.int 2)))) (aNil))) (aNil)) (aNil)))) (aCons (eTup (aCons (eOp gSub (eVar 2) (eVar 3)) (aCons (eOp gAdd (eVar 3) (eOp gFdiv (eVar 4) (eC (.d (.int 2))))) (aNil)))) (aCons (eTup (aCons (eVar 4) (aCons (eVar 3) (aNil)))) (aCons (eTup (aCons (eVar 3) (aCons (eVar 4) (aNil)))) (aNil))))))) <|
    sRet (eOp gIx (eOp gAdd (eVar 5) (eLst (aCons (eTup (aCons (eOp gSub (eOp gSub (eOp gPow (eC (.d (.int 10))) (eC (.d (.int 15)))) (eC (.d (.int 1)))) (eVar 3)) (aCons (eOp gAdd (eOp gSub (eC (.d (.int 1))) (eOp gPow (eC (.d (.int 10))) (eC (.d (.int 15))))) (eVar 4)) (aNil)))) (aCons (eTup (aCons (eOp gSub (eVar 3) (eOp gFdiv (eVar 2) (eC (.d (.int 2))))) (aCons (eOp gSub (eC (.d (.int 0))) (eVar 3)) (aNil)))) (aNil))))) (eVar 1))
noncomputable def M_numbersA (c0 : List W → M W) : List W → M W := fnM 3 6 (D_numbersA c0)
noncomputable def D_bagA (c0 c1 : List W → M W) : S :=
    sSeq (sSet 3 (eOp gIx (eLst (aCons (eVar 2) (aCons (eCall 2 0 (pk0 [0, 1]) c0 (aCons (eVar 0) (aCons (eOp gAdd (eVar 2) (eC (.d (.int 1)))) (aNil))) (aNil)) (aCons (eB gMin2 (aCons (eVar 2) (aCons (eOp gAdd (eC (.d (.int 1))) (eCall 2 0 (pk0 [0, 1]) c0 (aCons (eVar 0) (aCons (eC (.d (.int 6))) (aNil))) (aNil))) (aNil)))) (aNil))))) (eCall 2 0 (pk0 [0, 1]) c0 (aCons (eVar 0) (aCons (eC (.d (.int 3))) (aNil))) (aNil)))) <|
    sSeq (sSet 4 (eCall 2 0 (pk0 [0, 1]) c0 (aCons (eVar 0) (aCons (eC (.d (.int 6))) (aNil))) (aNil))) <|
    sSeq (sSet 5 (eOp gEqS (eCall 2 0 (pk0 [0, 1]) c0 (aCons (eVar 0) (aCons (eC (.d (.int 3))) (aNil))) (aNil)) (eC (.d (.int 0))))) <|
    sSeq (sSet 6 (eNew (aNil))) <|
    sSeq (sFor (iRange1 (eVar 3)) (gName1 7) (sSeq (sSet 8 (eOp gIx (eVar 1) (eCall 2 0 (pk0 [0, 1]) c0 (aCons (eVar 0) (aCons (eB gLen (aCons (eVar 1) (aNil))) (aNil))) (aNil)))) <|
    sSeq (sAsg (eCall 3 0 (pk0 [0, 1, 2]) c1 (aCons (eVar 0) (aCons (eOp gIx (eLst (aCons (eVar 4) (aCons (eCall 2 0 (pk0 [0, 1]) c0 (aCons (eVar 0) (aCons (eC (.d (.int 6))) (aNil))) (aNil)) (aNil)))) (eB gInt1 (aCons (eVar 5) (aNil)))) (aCons (eVar 3) (aNil)))) (aNil)) (gNamesN [9, 10])) <|
    sSeq (sWhile 4096 (tB (eOp gIn (eTup (aCons (eVar 8) (aCons (eVar 9) (aCons (eVar 10) (aNil))))) (eVar 6))) (sSet 9 (eOp gSub (eVar 9) (eC (.d (.int 1)))))) <|
    sDo (eLM mInsert (eVar 6) (aCons (eCall 2 0 (pk0 [0, 1]) c0 (aCons (eVar 0) (aCons (eOp gAdd (eB gLen (aCons (eVar 6) (aNil))) (eC (.d (.int 1)))) (aNil))) (aNil)) (aCons (eTup (aCons (eVar 8) (aCons (eVar 9) (aCons (eVar 10) (aNil))))) (aNil)))))) <|
    sRet (eVar 6)
noncomputable def M_bagA (c0 c1 : List W → M W) : List W → M W := fnM 3 11 (D_bagA c0 c1)
noncomputable def D_someA (c0 : List W → M W) : S :=
    sSeq (sSet 3 (eIf (tB (eOp gNeS (eVar 1) (eLst (aNil)))) (eCall 2 0 (pk0 [0, 1]) c0 (aCons (eVar 0) (aCons (eOp gAdd (eVar 2) (eC (.d (.int 1)))) (aNil))) (aNil)) (eC (.d (.int 0))))) <|
    sRet (eComp [4] (iRange1 (eVar 3)) (.one 4) (tTrue) (eOp gIx (eVar 1) (eCall 2 0 (pk0 [0, 1]) c0 (aCons (eVar 0) (aCons (eB gLen (aCons (eVar 1) (aNil))) (aNil))) (aNil))))
noncomputable def M_someA (c0 : List W → M W) : List W → M W := fnM 3 5 (D_someA c0)
end L3

namespace L3
open PySem PySem.Spec PyProof.Rows L2
section
variable {P : Program} {w : World}
def NoClass (P : Program) (w : World) (n : Nat) (s : Shared) (v : Value) : Prop := ∀ (A : Around) (E : Value → Shared → Prop) (Q : Bool → Shared → Prop), Q false s → wpAny (model P w) A (ofAClassStatement n v) Q E s
def ByVal (P : Program) (w : World) (n : Nat) (s : Shared) (v : Value) : Prop := ∀ (A : Around) (E : Value → Shared → Prop) (Q : Bool → Shared → Prop), (∀ b, Q b s) → wpAny (model P w) A (hashByValue n v) Q E s
theorem NoClass.tup {n : Nat} {s : Shared} {a : Addr} {o : Obj} {vs : Array Value} {m : Nat} (ho : s.heap.get? a = some o) (hc : o.cls = .type "tuple") (hd : o.data = .seq vs m) (each : ∀ v ∈ vs.toList, NoClass P w n s v) : NoClass P w (n + 1) s (.ref a) := fun A E Q fin => by
  unfold ofAClassStatement
  refine wpAny_bind (wpAny_typeOf (T := "tuple") ⟨o, ho, hc⟩ ?_)
  dsimp only
  have same : (("tuple" : String) == "tuple") = true := by decide
  simp only [same, if_true, Bool.not_true, Bool.false_eq_true, if_false]
  try refine wpAny_bind (wpAny_pure ?_)
  try simp only [Bool.not_true, Bool.false_eq_true, if_false]
  show wpAny _ _ (seqItems? (.ref a) >>= _) _ _ s
  refine wpAny_bind (wpAny_seqItems ho hd ?_)
  dsimp only
  refine wpAny_bind ?_
  show wpAny _ _ (forIn vs _ _) _ _ s
  rw [← Array.forIn_toList]
  refine wpAny_forIn_list _ (fun left r s' => r.1 = none ∧ s' = s ∧ ∀ v ∈ left, NoClass P w n s v) _ ?_ ?_ _ _ ⟨rfl, rfl, each⟩
  · rintro v left r s' ⟨z, rfl, q⟩
    refine wpAny_bind (q v List.mem_cons_self _ _ _ ?_)
    simp only [Bool.false_eq_true, if_false]
    exact wpAny_pure ⟨rfl, rfl, fun u m => q u (List.mem_cons_of_mem _ m)⟩
  · rintro ⟨r1, r2⟩ s' ⟨z, rfl, _⟩
    simp only at z
    subst z
    exact wpAny_pure fin
theorem ByVal.tup {n : Nat} {s : Shared} {a : Addr} {o : Obj} {vs : Array Value} {m : Nat} (ho : s.heap.get? a = some o) (hc : o.cls = .type "tuple") (hd : o.data = .seq vs m) (each : ∀ v ∈ vs.toList, ByVal P w n s v) : ByVal P w (n + 1) s (.ref a) := fun A E Q fin => by
  unfold hashByValue
  refine wpAny_bind (wpAny_specialOf (T := "tuple") ⟨o, ho, hc⟩ F.slot_tuple_hash.lookup ?_)
  show wpAny _ _ (seqItems? (.ref a) >>= _) _ _ s
  refine wpAny_bind (wpAny_seqItems ho hd ?_)
  refine wpAny_bind ?_
  show wpAny _ _ (forIn vs _ _) _ _ s
  rw [← Array.forIn_toList]
  refine wpAny_forIn_list _ (fun left r s' => (r.1 = none ∨ r.1 = some false) ∧ s' = s ∧ ∀ v ∈ left, ByVal P w n s v) _ ?_ ?_ _ _ ⟨.inl rfl, rfl, each⟩
  · rintro v left r s' ⟨z, rfl, q⟩
    refine wpAny_bind (q v List.mem_cons_self _ _ _ fun b => ?_)
    cases b with
    | true =>
      simp only [Bool.not_true, Bool.false_eq_true, if_false]
      exact wpAny_pure ⟨.inl rfl, rfl, fun u m => q u (List.mem_cons_of_mem _ m)⟩
    | false =>
      simp only [Bool.not_false, if_true]
      first
        | exact wpAny_bind (wpAny_pure (wpAny_pure (wpAny_pure (fin false))))
        | exact wpAny_pure (wpAny_pure (fin false))
  · rintro ⟨r1, r2⟩ s' ⟨z, rfl, _⟩
    simp only at z
    rcases z with rfl | rfl
    · exact wpAny_pure (fin true)
    · exact wpAny_pure (fin false)
end
abbrev KA := Addr × NestedKey
abbrev IsN (h : Heap) (k : NestedKey) (a : Addr) : Prop := NestedIs h k (.ref a) ∧ k.depth ≤ 8
theorem IsN.obj {h : Heap} {k : NestedKey} {a : Addr} (x : IsN h k a) : ∃ o vs n, h.get? a = some o ∧ o.cls = .type "tuple" ∧ o.data = .seq vs n := by
  obtain ⟨x, _⟩ := x
  cases x with
  | tup x1 x2 x3 _ => exact ⟨_, _, _, x1, x2, x3⟩
theorem IsN.one {h : Heap} {k k' : NestedKey} {a : Addr} (x : IsN h k a) (y : IsN h k' a) : k = k' := NestedIs.inj _ _ _ x.1 y.1
theorem IsN.up {h h' : Heap} {k : NestedKey} {a : Addr} (x : IsN h k a) (le : ∀ c o, h.get? c = some o → h'.get? c = some o) : IsN h' k a := ⟨NestedIs.at (fun b o _ _ e _ => le b o e) k _ x.1, x.2⟩
section
variable {P : Program} {w : World} {A : Around} {E : Value → Shared → Prop} {s : Shared}
end
def rowsN (w : World) (L : List KA) : List (Int × Value) := L.map fun p => (p.2.hash w, Value.ref p.1)
abbrev hsN (w : World) (L : List KA) : List Int := L.map fun p => p.2.hash w
structure SetN (w : World) (h : Heap) (a : Addr) (L : List KA) (es : Array (Int × Value)) (ep : Nat) (t : SetTable) : Prop where
  at_ : ∃ o, h.get? a = some o ∧ o.ExactSet ∧ o.data = .set es ep t
  row : es.toList = rowsN w L
  tb : TabOk t (hsN w L)
  dis : (L.map (·.2)).Nodup
  key : ∀ p ∈ L, IsN h p.2 p.1
  ld : w.params.followText "set-order" = true ∨ t.led = true
  rm : L.length * 5 < t.mask * 3
  sm : L.length < 64
section
variable {P : Program} {w : World} {A : Around} {E : Value → Shared → Prop} {s : Shared} {h : Heap} {a : Addr} {L : List KA} {es : Array (Int × Value)} {ep : Nat} {t : SetTable}
theorem SetN.get (R : SetN w h a L es ep t) {i : Nat} {p : KA} (e : L[i]? = some p) : es[i]? = some (p.2.hash w, Value.ref p.1) := by
  rw [← Array.getElem?_toList, R.row]
  unfold rowsN
  rw [List.getElem?_map, e] <;> rfl
theorem SetN.up {h' : Heap} (R : SetN w h a L es ep t) (le : ∀ c o, h.get? c = some o → h'.get? c = some o) : SetN w h' a L es ep t := by
  obtain ⟨o, e, q⟩ := R.at_
  exact ⟨⟨o, le a o e, q⟩, R.row, R.tb, R.dis, fun p m => (R.key p m).up le, R.ld, R.rm, R.sm⟩
end
end L3

namespace L3
open PySem PySem.Spec PyProof.Rows L2
mutual
def nkOf : PyData → Option NestedKey
  | .none => some .none
  | .int i => some (.num i)
  | .str x => some (.text x)
  | .tuple xs => (nksOf xs).map .tup
  | _ => none
def nksOf : List PyData → Option (List NestedKey)
  | [] => some []
  | x :: xs => (nkOf x).bind fun k => (nksOf xs).map (k :: ·)
end
theorem nk_inj {a b : NestedKey} (e : a.data = b.data) : a = b := by
  have all : ∀ k : NestedKey, nkOf k.data = some k := fun k => by
    have go : ∀ n, (∀ k : NestedKey, sizeOf k < n → nkOf k.data = some k) ∧ (∀ ks : List NestedKey, sizeOf ks < n → nksOf (NestedKey.datas ks) = some ks) := fun n => by
      induction n with
      | zero => exact ⟨fun _ z => absurd z (Nat.not_lt_zero _), fun _ z => absurd z (Nat.not_lt_zero _)⟩
      | succ n ih =>
        refine ⟨fun k z => ?_, fun ks z => ?_⟩
        · cases k with
          | none => rfl
          | num i => rfl
          | text x => rfl
          | tup ks => simp only [NestedKey.data, nkOf, ih.2 ks (by simp at z; omega), Option.map_some]
        · cases ks with
          | nil => rfl
          | cons k ks => simp only [NestedKey.datas, nksOf, ih.1 k (by simp at z; omega), ih.2 ks (by simp at z; omega), Option.bind_some, Option.map_some]
    exact (go _).1 k (Nat.lt_succ_self _)
  have := all a
  rw [e, all b] at this
  exact (Option.some.inj this).symm
mutual
theorem toks_one : ∀ (a b : NestedKey) (l m : List (Int ⊕ List Nat)), PySem.W.alike a.data b.data = true → PySem.W.keyToks a.data ++ l = PySem.W.keyToks b.data ++ m → a = b ∧ l = m
  | .none, b, l, m, al, e => by cases b <;> simp_all [NestedKey.data, PySem.W.alike, PySem.W.keyToks]
  | .num i, b, l, m, al, e => by cases b <;> simp_all [NestedKey.data, PySem.W.alike, PySem.W.keyToks]
  | .text x, b, l, m, al, e => by
    cases b with
    | text y =>
      simp only [NestedKey.data, PySem.W.keyToks, List.cons_append, List.nil_append, List.cons.injEq, Sum.inr.injEq] at e
      exact ⟨by rw [PySem.W.str_of_cps e.1], e.2⟩
    | _ => simp [NestedKey.data, PySem.W.alike] at al
  | .tup xs, b, l, m, al, e => by
    cases b with
    | tup ys =>
      simp only [NestedKey.data, PySem.W.alike, PySem.W.keyToks] at al e
      obtain ⟨q, r⟩ := toks_all xs ys l m al e
      exact ⟨by rw [q], r⟩
    | _ => simp [NestedKey.data, PySem.W.alike] at al
theorem toks_all : ∀ (a b : List NestedKey) (l m : List (Int ⊕ List Nat)), PySem.W.alikeAll (NestedKey.datas a) (NestedKey.datas b) = true → PySem.W.keyToksAll (NestedKey.datas a) ++ l = PySem.W.keyToksAll (NestedKey.datas b) ++ m → a = b ∧ l = m
  | [], [], l, m, al, e => by simp only [NestedKey.datas, PySem.W.keyToksAll, List.cons_append, List.nil_append, List.cons.injEq, true_and] at e; exact ⟨rfl, e⟩
  | [], y :: ys, l, m, al, e => by simp [NestedKey.datas, PySem.W.keyToksAll] at e
  | x :: xs, [], l, m, al, e => by simp [NestedKey.datas, PySem.W.keyToksAll] at e
  | x :: xs, y :: ys, l, m, al, e => by
    simp only [NestedKey.datas] at al e
    obtain ⟨a1, a2⟩ := PySem.W.alike_all_cons al
    simp only [PySem.W.keyToksAll, List.cons_append, List.cons.injEq, true_and, List.append_assoc] at e
    obtain ⟨q1, e⟩ := toks_one x y _ _ a1 e
    obtain ⟨q2, e⟩ := toks_all xs ys l m a2 e
    exact ⟨by rw [q1, q2], e⟩
end
theorem sortD_perm {xs ys : List NestedKey} (p : xs.Perm ys) (al : PySem.W.AllAlike (ys.map NestedKey.data)) : sortD (xs.map NestedKey.data) = sortD (ys.map NestedKey.data) := by
  have le : ∀ zs : List PyData, (sortD zs).Pairwise fun a b => (!PySem.W.dataLt b a) = true := fun zs => by
    refine List.pairwise_mergeSort (le := fun a b => !PySem.W.dataLt b a) (fun a b c h1 h2 => ?_) (fun a b => ?_) zs
    · simp only [Bool.not_eq_true'] at h1 h2 ⊢
      cases z : PySem.W.dataLt c a with
      | false => rfl
      | true =>
        rcases PyProof.Rows.lex_negTrans (O := PyProof.Rows.itemOrd) _ (PySem.W.keyToks b) _ z with q | q
        · rw [← h2]; exact q.symm
        · rw [← h1]; exact q.symm
    · cases z : PySem.W.dataLt b a with
      | false => rfl
      | true =>
        cases y : PySem.W.dataLt a b with
        | false => rfl
        | true =>
          have t := PyProof.Rows.lex_trans (O := PyProof.Rows.itemOrd) _ _ _ z y
          rw [PyProof.Rows.lex_irrefl] at t
          cases t
  have pm : (sortD (xs.map NestedKey.data)).Perm (sortD (ys.map NestedKey.data)) :=
    (List.mergeSort_perm _ _).trans ((p.map _).trans (List.mergeSort_perm _ _).symm)
  refine List.Perm.eq_of_pairwise (le := fun a b => (!PySem.W.dataLt b a) = true) (fun a b ma mb h1 h2 => ?_) (le _) (le _) pm
  simp only [Bool.not_eq_true'] at h1 h2
  have ma := (List.mergeSort_perm _ _).mem_iff.mp (pm.mem_iff.mp ma)
  have mb := (List.mergeSort_perm _ _).mem_iff.mp mb
  have e := PyProof.Rows.lex_total (O := PyProof.Rows.itemOrd) _ _ h2 h1
  have al := al a ma b mb
  obtain ⟨x, _, rfl⟩ := List.mem_map.mp ma
  obtain ⟨y, _, rfl⟩ := List.mem_map.mp mb
  have := (toks_one x y [] [] al (by rw [List.append_nil, List.append_nil]; exact e)).1
  rw [this]
section
variable {X : Cx} {pins : List (Addr × Obj)} {σ : L2.St} {H : Hp} {s : Shared} {a b : Addr} {L : List KA}
end
theorem perm_back {α β : Type} {f : α → β} {l m : List β} (p : l.Perm m) : ∀ L : List α, m = L.map f → ∃ L1 : List α, L1.Perm L ∧ l = L1.map f := by
  induction p with
  | nil =>
    intro L e
    cases L with
    | nil => exact ⟨[], List.Perm.nil, rfl⟩
    | cons x xs => cases e
  | cons x _ ih =>
    intro L e
    cases L with
    | nil => cases e
    | cons y ys =>
      obtain ⟨e1, e2⟩ := List.cons.inj e
      obtain ⟨L1, q, r⟩ := ih ys e2
      exact ⟨y :: L1, q.cons y, by rw [e1, r, List.map_cons]⟩
  | swap x y l =>
    intro L e
    match L, e with
    | u :: v :: us, e =>
      obtain ⟨e1, e2⟩ := List.cons.inj e
      obtain ⟨e2, e3⟩ := List.cons.inj e2
      exact ⟨v :: u :: us, .swap .., by rw [e1, e2, e3]; rfl⟩
  | trans _ _ ih1 ih2 =>
    intro L e
    obtain ⟨L2, q, r⟩ := ih2 L e
    obtain ⟨L1, q1, r1⟩ := ih1 L2 r
    exact ⟨L1, q1.trans q, r1⟩
section
variable {prog : Program} {w : World} {A : Around} {E : Value → Shared → Prop} {s : Shared} {a : Addr} {L : List KA} {es : Array (Int × Value)} {ep : Nat} {t : SetTable}
open PySem.W PySem.Calls
end
end L3

namespace L3
open PySem PySem.Spec PyProof.Rows L2
section
variable {K : PySem.W.Frag} {mg : MG} {th th0 : Th} {h h0 : WH} {H H0 : Hp} {l : Nat}
end
end L3

namespace L3
open PySem PySem.Spec PyProof.Rows L2
end L3

namespace L3
open PySem PySem.Spec PyProof.Rows L2
section
variable {K : PySem.W.Frag} {mg : MG} {th : Th} {h : WH} {H : Hp}
end
end L3

namespace L3
open PySem PySem.Spec PyProof.Rows L2
def keyK : PyData → Option Key
  | .int i => some (.inl i)
  | .str x => some (.inr x)
  | _ => none
def keysK : List PyData → Option (List Key)
  | [] => some []
  | x :: r => (keyK x).bind fun k => (keysK r).map (k :: ·)
def keyIs (k : List Key) : PyData → Bool
  | .tuple xs => decide (keysK xs = some k)
  | _ => false
section
variable {X : Cx} {pins : List (Addr × Obj)} {σ : L2.St} {H : Hp} {s : Shared}
end
end L3

namespace L3
open PySem PySem.Spec PyProof.Rows L2
end L3

namespace L3
open PySem PySem.Spec PyProof.Rows L2
section
variable {X : Cx} {pins : List (Addr × Obj)} {σ : L2.St} {H : Hp} {s : Shared} {A : Around} {E : Value → Shared → Prop}
end
theorem goes_mono {K : PySem.W.Frag} {mg : MG} {th th1 : Th} {h : WH} {H H1 : Hp} {α : Type} {r : R α} {ok : α → Th → WH → Hp → Prop} {bad : Bad} {h1 : WH} (g : Goes K mg th h H r ok bad) (s : Stay th h H th1 h1 H1) : Goes K mg th1 h1 H1 r ok bad := by
  unfold Goes at *
  split at g
  · exact g
  · exact fun th' H' s' q' => g th' H' (s.trans s') q'
  · exact fun th' H' s' q' => g th' H' (s.trans s') q'
section
variable {K : PySem.W.Frag} {mg : MG} {th : Th} {h : WH} {H : Hp}
end
section
variable {X : Cx} {o f : Expr} {es : List Expr} {kk : Nat} {d df : Den} {da : DenA} {apos cpos tpos : Pos}
end
end L3

namespace L3
open PySem PySem.Spec PyProof.Rows L2
open Classical in
noncomputable def addD (acc : List PyData) (x : PyData) : List PyData := if x ∈ acc then acc else acc ++ [x]
section
variable {X : Cx}
end
section
variable {X : Cx} {scope : Scope} {own : List (Str × Nat)} {tg elt iter : Expr} {ifs : List Expr} {t : Tg} {tt : DenT} {de : Den} {di : DenI}
variable {pos p cpos : Pos}
end
end L3

namespace L3
open PySem PySem.Spec PyProof.Rows L2
structure Has (ks : List KA) (i : Nat) (L : List KA) : Prop where
  sub : ∀ p ∈ L, p ∈ ks.take i
  all : ∀ p ∈ ks.take i, p.2 ∈ L.map (·.2)
  len : L.length ≤ i
theorem Has.zero (ks : List KA) : Has ks 0 [] := ⟨fun p m => (nomatch m), fun p m => (by simp at m), Nat.le_refl _⟩
theorem Has.next {ks L L' : List KA} {i : Nat} {x : KA} (g : Has ks i L) (e : ks[i]? = some x) (c1 : x.2 ∈ L.map (·.2) → L' = L) (c2 : x.2 ∉ L.map (·.2) → L'.Perm (x :: L)) : Has ks (i + 1) L' := by
  have tk : ks.take (i + 1) = ks.take i ++ [x] := by rw [List.take_succ, e] <;> rfl
  by_cases z : x.2 ∈ L.map (·.2)
  · have := c1 z
    subst this
    refine ⟨fun p m => ?_, fun p m => ?_, Nat.le_succ_of_le g.len⟩
    · rw [tk]; exact List.mem_append_left _ (g.sub p m)
    · rw [tk] at m
      rcases List.mem_append.mp m with m | m
      · exact g.all p m
      · rw [List.mem_singleton.mp m]; exact z
  · have pm := c2 z
    refine ⟨fun p m => ?_, fun p m => ?_, by rw [pm.length_eq, List.length_cons]; exact Nat.succ_le_succ g.len⟩
    · rw [tk]
      rcases List.mem_cons.mp (pm.mem_iff.mp m) with y | m
      · rw [y]; exact List.mem_append_right _ (List.mem_singleton.mpr rfl)
      · exact List.mem_append_left _ (g.sub p m)
    · rw [(pm.map (·.2)).mem_iff, List.map_cons]
      rw [tk] at m
      rcases List.mem_append.mp m with m | m
      · exact List.mem_cons_of_mem _ (g.all p m)
      · rw [List.mem_singleton.mp m]; exact List.mem_cons_self
abbrev set00 (w : World) : Obj := { cls := .type "set", dict := none, data := .set #[] 0 (.fresh 0 0 (!w.params.followText "set-order")) }
section
variable {P : Program} {w : World} {A : Around} {E : Value → Shared → Prop} {s : Shared}
end
section
variable {P : Program} {w : World} {A : Around} {E : Value → Shared → Prop} {s : Shared}
end

open Classical in
noncomputable def nubD (ds : List PyData) : List PyData := ds.foldl addD []
theorem nub_go : ∀ (ds acc : List PyData), acc.Nodup → (ds.foldl addD acc).Nodup ∧ ∀ x, x ∈ ds.foldl addD acc ↔ x ∈ acc ∨ x ∈ ds
  | [], acc, n => ⟨n, fun x => by simp⟩
  | d :: ds, acc, n => by
    have n2 : (addD acc d).Nodup := by
      unfold addD
      split
      · exact n
      · rename_i z
        exact List.nodup_append.mpr ⟨n, by simp, fun x mx y my e => z (by rw [List.mem_singleton.mp my] at e; exact e ▸ mx)⟩
    obtain ⟨q, r⟩ := nub_go ds (addD acc d) n2
    refine ⟨q, fun x => ?_⟩
    rw [List.foldl_cons, r x]
    unfold addD
    split
    · rename_i z
      constructor
      · exact fun m => m.imp id (List.mem_cons_of_mem _)
      · rintro (m | m)
        · exact .inl m
        · rcases List.mem_cons.mp m with e | m
          · exact .inl (e ▸ z)
          · exact .inr m
    · simp only [List.mem_append, List.mem_singleton, List.mem_cons, or_assoc, List.not_mem_nil, false_or]
theorem nub_nodup (ds : List PyData) : (nubD ds).Nodup := (nub_go ds [] List.nodup_nil).1
theorem nub_mem {ds : List PyData} {x : PyData} : x ∈ nubD ds ↔ x ∈ ds := by
  have := (nub_go ds [] List.nodup_nil).2 x
  simp only [List.not_mem_nil, false_or] at this
  exact this
section
variable {X : Cx}
end
end L3

namespace L3
open PySem PySem.Spec PyProof.Rows L2
def keyE (e : Int × Value) : Key := match e.2 with
  | .int k _ => .inl k
  | .str x _ => .inr x
  | _ => .inl 0
def GoodK (w : World) (e : Int × Value) : Prop := L2.keyIs (keyE e) e.2 = true ∧ e.1 = keyH w (keyE e)
theorem keyE_of {k : Key} {v : Value} {z : Int} (h : L2.keyIs k v = true) : keyE (z, v) = k := by
  rcases L2.keyIs_shape h with ⟨i, t, rfl, rfl⟩ | ⟨x, t, rfl, rfl⟩ <;> rfl
theorem GoodK.of {w : World} {k : Key} {v : Value} (h : L2.keyIs k v = true) : GoodK w (keyH w k, v) := by
  unfold GoodK
  rw [keyE_of h]
  exact ⟨h, rfl⟩
theorem keyIs_scan {k : Key} {v : Value} (h : L2.keyIs k v = true) : v.scannable = true := by
  rcases L2.keyIs_shape h with ⟨i, t, rfl, rfl⟩ | ⟨x, t, rfl, rfl⟩ <;> rfl
theorem goodK_is {w : World} {e : Int × Value} (g : GoodK w e) (k : Key) : L2.keyIs k e.2 = true ↔ keyE e = k := by
  constructor
  · intro q
    have z := keyE_of (z := e.1) q
    exact z
  · rintro rfl
    exact g.1
def SetQ (w : World) (h : Heap) (a : Addr) (L : List Key) : Prop :=
  ∃ (o : Obj) (es : Array (Int × Value)) (ep : Nat) (t : SetTable), (h.get? a = some o ∧ o.ExactSet ∧ o.data = .set es ep t) ∧ (∀ e ∈ es.toList, GoodK w e) ∧ es.toList.map keyE = L ∧ L.Nodup ∧
    (es.size < scanBound ∧ t.fits es.size = true) ∧ Ris t.place.toList ∧ (w.params.followText "set-order" = true ∨ t.led = true)
section
variable {P : Program} {w : World} {h h' : Heap} {a : Addr} {L : List Key}
theorem elemsK {l : List (Int × Value)} (g : ∀ e ∈ l, GoodK w e) : ElemsOf (mixKind P w) l := fun e m => ⟨⟨keyE e, (g e m).1, (g e m).2⟩, keyIs_scan (g e m).1⟩
theorem memK {l : List (Int × Value)} (g : ∀ e ∈ l, GoodK w e) (k : Key) : k ∈ l.map keyE ↔ ∃ e ∈ l, (mixKind P w).is k e.2 = true := by
  rw [List.mem_map]
  exact ⟨fun ⟨e, m, q⟩ => ⟨e, m, (goodK_is (g e m) k).mpr q⟩, fun ⟨e, m, q⟩ => ⟨e, m, (goodK_is (g e m) k).mp q⟩⟩
theorem SetQ.up (R : SetQ w h a L) (le : ∀ o, h.get? a = some o → h'.get? a = some o) : SetQ w h' a L := by
  obtain ⟨o, es, ep, t, ⟨e, q⟩, r⟩ := R
  exact ⟨o, es, ep, t, ⟨le o e, q⟩, r⟩
theorem SetQ.len (R : SetQ w h a L) : L.length < scanBound := by
  obtain ⟨o, es, ep, t, _, _, e, _, ⟨b, _⟩, _⟩ := R
  rw [← e, List.length_map, Array.length_toList]
  exact b
end
section
variable {P : Program} {w : World} {A : Around} {E : Value → Shared → Prop} {s : Shared} {a : Addr} {L : List Key}
theorem kAddTail {g : Bool → Sem Unit} (gw : ∀ (b : Bool) (z : Shared) (Q' : Unit → Shared → Prop), Q' () z → wpAny (model P w) A (g b) Q' E z) {o : Obj} {es es1 : Array (Int × Value)} {ep : Nat} {t t2 : SetTable}
    (ho : s.heap.get? a = some o) (hx : o.ExactSet) (hd : o.data = .set es ep t) (g1 : ∀ e ∈ es1.toList, GoodK w e) (e1 : (es1.toList.map keyE).Perm L) (nd : L.Nodup) (few : es1.size < scanBound) (ft : t2.fits es1.size = true) (ri : Ris t2.place.toList)
    (ld : w.params.followText "set-order" = true ∨ t2.led = true) {wd : Bool} {R : Option Bool → Shared → Prop} (fin : ∀ h' L', Heap.SameBut a s.heap h' → SetQ w h' a L' → L'.Perm L → R (some true) { s with heap := h' }) :
    wpAny (model P w) A (do storeSet a es1 t2; if (!wd && t2.tooFull) = true then (do g (relayAll t2 es1 (SetTable.grown es1.size)).2.2; storeSet a (relayAll t2 es1 (SetTable.grown es1.size)).1 (relayAll t2 es1 (SetTable.grown es1.size)).2.1; pure (some true)) else pure (some true)) R E s := by
  refine wpAny_bind (wpAny_storeSet_of ho hd ?_ (fits_of_scanBound few))
  have o1 := store_at (es' := es1) (t' := t2) ho hd
  have b1 := Heap.SameBut.update s.heap a (Obj.putSet es1 t2)
  split
  · have pm := relayAll_perm t2 es1 (SetTable.grown es1.size)
    have f3 := relayAll_fits t2 es1 (SetTable.grown es1.size)
    have r3 := relayAll_ris t2 es1 (SetTable.grown es1.size)
    have l3 := relayAll_led t2 es1 (SetTable.grown es1.size)
    generalize relayAll t2 es1 (SetTable.grown es1.size) = Z at pm f3 r3 l3 ⊢
    obtain ⟨es2, t3, gave⟩ := Z
    dsimp only at pm f3 r3 l3 ⊢
    have sz : es2.size = es1.size := by rw [← Array.length_toList, ← Array.length_toList]; exact pm.length_eq
    refine wpAny_bind (gw _ _ _ (wpAny_bind (wpAny_storeSet_of o1 rfl ?_ (fits_of_scanBound (sz ▸ few)))))
    have o2 := store_at (es' := es2) (t' := t3) o1 rfl
    have p2 := (pm.map keyE).trans e1
    exact wpAny_pure (fin _ _ (b1.trans (Heap.SameBut.update _ a _)) ⟨_, es2, _, t3, ⟨o2, hx, rfl⟩, fun e m => g1 e (pm.mem_iff.mp m), rfl, p2.nodup_iff.mpr nd, ⟨sz ▸ few, f3⟩, r3, ld.imp id fun z => l3.trans z⟩ p2)
  · exact wpAny_pure (fin _ _ b1 ⟨_, es1, _, t2, ⟨o1, hx, rfl⟩, g1, rfl, e1.nodup_iff.mpr nd, ⟨few, ft⟩, ri, ld⟩ e1)
theorem kAdd {k : Key} {v : Value} {Q : Bool → Shared → Prop} (hv : L2.keyIs k v = true) (R : SetQ w s.heap a L) (few : L.length + 1 < scanBound)
    (fin : ∀ b h' L', Heap.SameBut a s.heap h' → SetQ w h' a L' → (k ∈ L → L' = L) → (k ∉ L → L'.Perm (k :: L)) → Q b { s with heap := h' }) : wpAny (model P w) A (setAddHashed a v (keyH w k)) Q E s := by
  have R0 := R
  obtain ⟨o, es, ep, t, ⟨ho, hx, hd⟩, g, eL, nd, ⟨hb, hf⟩, hr, hl⟩ := R
  have sc : v.scannable = true := keyIs_scan hv
  have el : ElemsOf (mixKind P w) es.toList := elemsK g
  have kv : (mixKind P w).is k v = true := hv
  have len : es.size = L.length := by rw [← eL, List.length_map, Array.length_toList]
  unfold setAddHashed setAddHashedIn
  refine wpAny_holding (wpAny_bind (wpAny_setState_of ho hd hf ?_))
  dsimp only
  rw [byScan_of sc hb el]
  simp only [↓reduceIte]
  unfold setAddByScan
  refine wpAny_bind (wpAny_bind (wpAny_rule ?_))
  refine wpAny_bind (wpAny_setScan_of kv ho hd hf el ?_)
  cases hfi : List.findIdx? (fun e => (mixKind P w).is k e.2) es.toList with
  | some j =>
    dsimp only
    obtain ⟨lj, pj, _⟩ := List.findIdx?_eq_some_iff_getElem.mp hfi
    have kin : k ∈ L := by rw [← eL]; exact (memK (P := P) g k).mpr ⟨_, List.getElem_mem lj, pj⟩
    exact wpAny_pure (wpAny_pure (fin _ s.heap L (Heap.SameBut.refl a s.heap) R0 (fun _ => rfl) fun z => absurd kin z))
  | none =>
    dsimp only
    have kout : k ∉ L := fun z => by
      rw [← eL] at z
      obtain ⟨e, m, q⟩ := (memK (P := P) g k).mp z
      rw [List.findIdx?_eq_none_iff.mp hfi e m] at q
      cases q
    have quiet : ∀ (b : Bool) {z : Shared} {Q' : Unit → Shared → Prop}, Q' () z → wpAny (model P w) A (match b with | true => rule "set.scan.the-table-gave-way" | false => pure ()) Q' E z := fun b z Q' q => by cases b <;> first | exact wpAny_pure q | exact wpAny_rule q
    have eh : (mixKind P w).hash k = keyH w k := rfl
    have pm := layNew_perm t es (keyH w k) v
    have f1 := layNew_fits t es (keyH w k) v
    have r1 := layNew_ris t es (keyH w k) v hr
    have l1 := layNew_led t es (keyH w k) v
    generalize layNew t es (keyH w k) v = Z at pm f1 r1 l1 ⊢
    obtain ⟨es1, t1, wd, gave⟩ := Z
    dsimp only at pm f1 r1 l1 ⊢
    rw [Array.toList_push] at pm
    have pc : es1.toList.Perm ((keyH w k, v) :: es.toList) := pm.trans (List.perm_append_singleton _ _)
    have pk : (es1.toList.map keyE).Perm (k :: L) := by
      have z := pc.map keyE
      rw [List.map_cons, keyE_of hv, eL] at z
      exact z
    have g1 : ∀ e ∈ es1.toList, GoodK w e := fun e m => (List.mem_cons.mp (pc.mem_iff.mp m)).elim (fun z => z ▸ GoodK.of hv) (g e)
    have nd1 : (k :: L).Nodup := List.nodup_cons.mpr ⟨kout, nd⟩
    have sz : es1.size = L.length + 1 := by rw [← Array.length_toList, pc.length_eq, List.length_cons, Array.length_toList, len]
    have b1 : es1.size < scanBound := by rw [sz]; exact few
    have ld : w.params.followText "set-order" = true ∨ t1.led = true := hl.imp id fun z => l1.trans z
    refine wpAny_bind (quiet _ ?_)
    split
    · refine wpAny_bind ?_
      rw [hashByValue_scannable 8 sc]
      refine wpAny_pure (kAddTail ?_ ho hx hd g1 pk nd1 b1 ?_ ?_ ?_ ?_)
      · intro b z Q' q; cases b <;> first | exact wpAny_pure q | exact wpAny_rule q
      · first | (split <;> first | exact f1 | exact SetTable.fits_plain_off f1) | exact f1
      · first | (split <;> exact r1) | exact r1
      · first | (split <;> exact ld) | exact ld
      · intro h' L' sb r p; dsimp only; exact wpAny_pure (fin _ h' L' sb r (fun z => absurd z kout) fun _ => p)
    · refine wpAny_bind (wpAny_pure ?_)
      simp only [↓reduceIte]
      refine kAddTail ?_ ho hx hd g1 pk nd1 b1 f1 r1 ld ?_
      · intro b z Q' q; cases b <;> first | exact wpAny_pure q | exact wpAny_rule q
      · intro h' L' sb r p; dsimp only; exact wpAny_pure (fin _ h' L' sb r (fun z => absurd z kout) fun _ => p)
theorem kAddV {k : Key} {v : Value} {Q : Bool → Shared → Prop} (hv : L2.keyIs k v = true) (R : SetQ w s.heap a L) (few : L.length + 1 < scanBound)
    (fin : ∀ b h' tk L', s.toks ≤ tk → Heap.SameBut a s.heap h' → SetQ w h' a L' → (k ∈ L → L' = L) → (k ∉ L → L'.Perm (k :: L)) → Q b { s with heap := h', toks := tk }) : wpAny (model P w) A (setAdd a v) Q E s := by
  unfold setAdd
  refine wpAny_holding (wpAny_bind ((mixKind P w).pyHash (k := k) hv ?_))
  exact kAdd (s := { s with toks := s.toks + 1 }) hv R few fun b h' L' sb R' c1 c2 => fin b h' _ L' (Nat.le_succ _) sb R' c1 c2
theorem kNew (w : World) {h : Heap} {a : Addr} (e : h.get? a = some { cls := .type "set", dict := none, data := .set #[] 0 (.fresh 0 0 (!w.params.followText "set-order")) }) : SetQ w h a [] := by
  refine ⟨_, #[], 0, _, ⟨e, ⟨rfl, rfl, rfl⟩, rfl⟩, fun x m => (nomatch m), rfl, List.nodup_nil, ⟨by decide, rfl⟩, List.Pairwise.nil, ?_⟩
  show _ ∨ (!w.params.followText "set-order") = true
  cases w.params.followText "set-order"
  · exact .inr rfl
  · exact .inl rfl
end
def skO (w : World) (a : Addr) (L : List Key) : HO := .ext fun h => SetQ w h a L
theorem sk_ok {P : Program} {w : World} {H : Hp} {h : Heap} {a : Addr} {L : List Key} (f : SetQ w h a L) : ObjOk P w H h a (skO w a L) := by
  obtain ⟨o, _, _, _, ⟨e, _⟩, _⟩ := id f
  exact ⟨f, ⟨o, e⟩, fun h1 h2 g k => SetQ.up (show SetQ w h1 a L from g) (k ·)⟩
section
variable {X : Cx} {pins : List (Addr × Obj)} {σ : L2.St} {H : Hp} {s : Shared} {a b : Addr} {L : List Key}
theorem sk_get (I : Inv X pins σ H s) (e : H a = some (skO X.w a L)) : SetQ X.w s.heap a L := (I.hok a _ e).1
theorem sk_add {k : Key} {u : Value} {Q : Value → Shared → Prop} {E : Value → Shared → Prop} (I : Inv X pins σ H s) (e : H a = some (skO X.w a L)) (ru : RelV (kV k) u) (few : L.length + 1 < 64)
    (fin : ∀ s' L', (k ∈ L → L' = L) → (k ∉ L → L'.Perm (k :: L)) → Inv X pins σ (upd H a (skO X.w a L')) s' → Q .none s') : wpAny (model X.prog X.w) X.A (call (.builtin "set.add") [.ref a, u]) Q E s := by
  have R := sk_get I e
  obtain ⟨o, es, ep, t, ⟨ho, hx, hd⟩, _⟩ := id R
  refine wpAny_call_entry F.slot_set_add (show s.TypeIs (.ref a) "set" from ⟨o, ho, hx.1⟩) F.entry_set_add ?_ (F.args_set_add_2 _ _)
  unfold Builtin.«set.add» Builtin.Frozenset.oneOther
  simp only [List.isEmpty_nil, bind_assoc]
  unfold Builtin.Frozenset.addrOf
  refine wpAny_bind (wpAny_pure ?_)
  try dsimp only
  refine wpAny_bind (wpAny_pure ?_)
  try dsimp only
  refine wpAny_bind (kAddV (kV_is (P := X.prog) (w := X.w) ru) R (by unfold scanBound; omega) fun bb h' tk L' lt sb R' c1 c2 => ?_)
  show wpAny _ _ (ret Value.none) _ _ _
  obtain ⟨o', _, _, _, ⟨ho', _⟩, _⟩ := id R'
  exact wpAny_pure ⟨_, rfl, fin _ L' c1 c2 (I.write (e := a) (t' := tk) (by rw [e]; trivial) (.inl rfl) (fun c u hc hu => (sb.2 c hc).trans hu) ⟨o', ho'⟩ (sk_ok R'))⟩
def tSk (X : Cx) (wi : TI) (g : TG) (tt : TT) (te : TE) (vs : List Nat) : TE := fun σ H Q => wi σ H fun J H1 => ∀ D, H1 D = none → ∃ Z : Nat → Nat → Hp → Prop, (∃ m, Z 0 m (upd H1 D (skO X.w D []))) ∧ ∀ i m H, Z i m H →
  (J.stop i H ∧ Q (.ref D) H) ∨ (J.go i H ∧ ∃ N : Hp → Prop, (∀ H', N H' → ∃ m', m' < m ∧ Z (i + 1) m' H') ∧ ∀ x H', J.yld i H x H' → g x (wipe σ vs) H' fun σ2 H2 => wipe σ2 vs = wipe σ vs ∧ tt σ2 H2 fun b H3 =>
    if b = true then te σ2 H3 fun y H4 => ∃ k L, y = kV k ∧ H4 D = some (skO X.w D L) ∧ L.length + 1 < 64 ∧
      (∀ L', (k ∈ L → L' = L) → (k ∉ L → L'.Perm (k :: L)) → N (upd H4 D (skO X.w D L'))) else N H3)
theorem sk_core {Q : VK} {elt tg iter : Expr} {ifs : List Expr} {sc : Scope} {own : List (Str × Nat)} {pos pos2 : Pos} {wi : TI} {g : TG} {tt : TT} {te : TE} {use : Option (Value → Sem Unit)} {Qf : Value → Shared → Prop}
    (hu : X.A.units + 65 < cLine) (hc : X.calm = true) (hN : X.N.Nodup) (I : Inv X pins σ H s) (hi : PI X tg iter wi) (ok : BlkOk X.N X.env.scope sc own)
    (hg : ∀ (s : Shared) (H : Hp) (C : Addr) (cl : List (Str × Addr)) (fp : List Addr), PG (X.blk s H sc (compEnvC sc cl C X.env) fp) tg g) (ht : ∀ (s : Shared) (H : Hp) (C : Addr) (cl : List (Str × Addr)) (fp : List Addr), PTs (X.blk s H sc (compEnvC sc cl C X.env) fp) ifs tt)
    (he : ∀ (s : Shared) (H : Hp) (C : Addr) (cl : List (Str × Addr)) (fp : List Addr), PE (X.blk s H sc (compEnvC sc cl C X.env) fp) elt te) (hs : ∀ x, foldedSetIterable iter X.env x = pure x)
    (h : tSk X wi g tt te (own.map (·.2)) σ H Q)
    (out : ∀ D C s' m H', Inv X pins σ H' s' → Q (.ref D) H' → s'.heap.Ns C m → FpOk X pins H' C → compPost (model X.prog X.w) X.A X.xe use Qf (.ref D) C (.ok .next) s') :
    wpAny (model X.prog X.w) X.A (comprehension (.SetComp elt [⟨tg, iter, ifs, 0⟩] sc pos) sc X.env pos2 (newSet (.type "set")) false (eval iter X.env) use) Qf X.xe s := by
  have free : ∀ y ∈ sc.names, y.2 = .free → ∃ c, X.env.cells.lookup y.1 = some c := fun y my e => (ok.free y my e).elim (fun z => I.ok.has _ (.inl z)) fun z => I.ok.has _ (.inr z)
  refine wpAny_comprehension_free (use := use) rfl hs (closure_ok free) ok.kind (fun y my e => by rw [ok.uniq y my, e]) (thn (hi.run pins s σ H _ I h) fun v0 s1 q1 => thn q1 fun v1 s2 q2 => ?_)
  obtain ⟨it, fp, tn, J, H2, e, I2, T, t2, f2, q⟩ := q2
  subst e
  refine PpSet.newSet_ok (newEnv_comp ?_)
  obtain ⟨D, eD⟩ : ∃ D, s2.heap.objs.size = D := ⟨_, rfl⟩
  rw [eD]
  obtain ⟨Z, ⟨m0, z0⟩, turn⟩ := q D (I2.hok.fresh (Nat.le_of_eq eD))
  obtain ⟨s3, e3⟩ : ∃ s3 : Shared, ({ s2 with heap := s2.heap.push { cls := .type "set", dict := none, data := .set #[] 0 (.fresh 0 0 (!X.w.params.followText "set-order")) } } : Shared) = s3 := ⟨_, rfl⟩
  have hp3 : s3.heap = s2.heap.push { cls := .type "set", dict := none, data := .set #[] 0 (.fresh 0 0 (!X.w.params.followText "set-order")) } := by rw [← e3]
  obtain ⟨H3, eH⟩ : ∃ H3 : Hp, upd H2 D (skO X.w D []) = H3 := ⟨_, rfl⟩
  rw [eH] at z0
  have I3 : Inv X pins σ H3 s3 := by
    rw [← e3, ← eH]
    refine I2.laid (t' := s2.toks) (fun c o z => Heap.get?_push_of_some _ z) (Nat.le_of_eq eD) ?_
    rw [← eD]
    exact sk_ok (kNew X.w (Heap.get?_push_size _ rfl))
  have lt2 : ∀ c ∈ fp, c < s2.heap.objs.size := fun c mc => let ⟨o, z, _⟩ := T.obj _ _ t2 c mc; Heap.lt_size z
  have f3 : ∀ c ∈ fp, FpOk X pins H3 c ∧ c < s3.heap.objs.size := fun c mc => by
    have l := lt2 c mc
    refine ⟨⟨?_, (f2 c mc).2⟩, by rw [hp3, Heap.size_push]; exact Nat.lt_succ_of_lt l⟩
    rw [← eH, upd_ne (by rw [← eD]; exact Nat.ne_of_lt l)]
    exact (f2 c mc).1
  have t3 : tn 0 s3.heap := T.keep _ _ _ t2 fun c _ o z => by rw [hp3]; exact Heap.get?_push_of_some _ z
  have I4 := block_start I3 ok hN f3
  have gP := hg s3 H3 s3.heap.objs.size (cellsFrom (s3.heap.objs.size + 1) sc.names (cloFrom X.env.cells sc.names [])) fp
  have tP := ht s3 H3 s3.heap.objs.size (cellsFrom (s3.heap.objs.size + 1) sc.names (cloFrom X.env.cells sc.names [])) fp
  have eP := he s3 H3 s3.heap.objs.size (cellsFrom (s3.heap.objs.size + 1) sc.names (cloFrom X.env.cells sc.names [])) fp
  have no3 : ∀ c ∈ fp, H3 c = none := fun c mc => (f3 c mc).1.1
  rw [e3]
  obtain ⟨ce, ec⟩ : ∃ ce, compEnvC sc (cellsFrom (s3.heap.objs.size + 1) sc.names (cloFrom X.env.cells sc.names [])) s3.heap.objs.size X.env = ce := ⟨_, rfl⟩
  have lc : ce.locals = s3.heap.objs.size := by rw [← ec]; rfl
  rw [ec] at I4 gP tP eP
  obtain ⟨s4, e4⟩ : ∃ s4 : Shared, ({ s3 with heap := pushCells (s3.heap.push { cls := .type "dict", data := .dict #[] }) sc.names } : Shared) = s4 := ⟨_, rfl⟩
  rw [e4] at I4
  have t4 : tn 0 s4.heap := T.keep _ _ _ t3 fun c _ o z => by rw [← e4]; exact pushCells_keeps _ _ _ _ (Heap.get?_push_of_some _ z)
  have fps : ∀ {σ' : L2.St} {H' : Hp} {s' : Shared}, Inv (X.blk s3 H3 sc ce fp) [] σ' H' s' → (∀ c ∈ fp, H' c = none) → ∀ c ∈ fp, FpOk (X.blk s3 H3 sc ce fp) [] H' c := fun {σ' H' s'} J' no c mc =>
    ⟨no c mc, (J'.ok.exf c mc).1, J'.ok.exfs c mc, .inl mc, fun x d z => (J'.ok.exf c mc).2 x d z, fun p mp => absurd (show p ∈ ([] : List (Addr × Obj)) ++ [] from mp) (by simp)⟩
  have body : codeAny (model X.prog X.w) X.A (.compLoop (.SetComp elt [⟨tg, iter, ifs, 0⟩] sc pos) 0 (.ref it) (.ref D) ce) (compPost (model X.prog X.w) X.A X.xe use Qf (.ref D) s3.heap.objs.size) s4 := by
    refine PpSet.compLoopS_any (fun n s' => ∃ i H', Inv (X.blk s3 H3 sc ce fp) [] (wipe σ (own.map (·.2))) H' s' ∧ tn i s'.heap ∧ (∀ c ∈ fp, H' c = none) ∧ Z i n H') ?_ m0 ⟨0, H3, I4, t4, no3, z0⟩
    rintro n s5 ⟨i, H5, I5, t5, no5, z5⟩
    rcases turn i n H5 z5 with ⟨stop, fin⟩ | ⟨go, N, hN', step⟩
    · refine thnF (T.done (X.blk s3 H3 sc ce fp) rfl rfl rfl hc i [] s5 _ H5 (fun _ _ => False) I5 (fps I5 no5) t5 stop) fun r s6 ⟨er, I6⟩ => ?_
      subst er
      have I7 : Inv X pins σ H5 s6 := I3.call' (ch := fp) I6.os I6.base I6.hok I6.bare fun c mc => ⟨(f3 c mc).1.2.2.2.1, (f3 c mc).1.2.1, (f3 c mc).1.2.2.2.2.1, (f3 c mc).1.2.2.2.2.2⟩
      have nC : H5 s3.heap.objs.size = none := by rw [← lc]; exact I6.free
      obtain ⟨m, ns, _⟩ := I6.loc
      have ns : s6.heap.Ns ce.locals m := ns
      rw [lc] at ns
      exact out D s3.heap.objs.size s6 m H5 I7 fin ns (I3.fpOk (Nat.le_refl _) nC)
    · refine thnF (T.item (X.blk s3 H3 sc ce fp) rfl rfl rfl hc i [] s5 _ H5 (fun _ _ => False) I5 (fps I5 no5) t5 go) fun r s6 ⟨u, er, q6⟩ => ?_
      subst er
      refine thnF q6 fun _ s7 ⟨x, H7, I7, r7, y7, t7, no7⟩ => ?_
      refine thnF (gP.run _ s7 _ H7 x u _ (I7.pinned (fps I7 no7) (T.obj _ _ t7)) r7 (step x H7 y7)) fun _ s8 ⟨σ8, H8, I8, w8, q8⟩ => ?_
      refine thnF (tP.run _ s8 σ8 H8 _ I8 q8) fun b s9 ⟨H9, I9, q9⟩ => ?_
      have again : ∀ {s' : Shared} {H' : Hp}, Inv (X.blk s3 H3 sc ce fp) ([] ++ pinsAt fp s7.heap) σ8 H' s' → N H' → ∃ m, m < n ∧ ∃ i H', Inv (X.blk s3 H3 sc ce fp) [] (wipe σ (own.map (·.2))) H' s' ∧ tn i s'.heap ∧ (∀ c ∈ fp, H' c = none) ∧ Z i m H' := fun {s' H'} J' nx => by
        obtain ⟨m', lm, z'⟩ := hN' H' nx
        have pin : ∀ c ∈ fp, ∀ o, s7.heap.get? c = some o → s'.heap.get? c = some o ∧ H' c = none := fun c mc o z =>
          let y := J'.pin (c, o) (List.mem_append_right _ (List.mem_append_right _ (mem_pinsAt mc z)))
          ⟨y.1, y.2.1⟩
        refine ⟨m', lm, i + 1, H', (J'.unpinned (pins := [])).weak (by rw [← w8, wipe_length]) (fun j v z => by rw [← w8] at z; exact (wipe_some z).1), T.keep _ _ _ t7 fun c mc o z => (pin c mc o z).1, fun c mc => ?_, z'⟩
        obtain ⟨o, z, _⟩ := T.obj _ _ t7 c mc
        exact (pin c mc o z).2
      cases b with
      | false =>
        simp only [Bool.false_eq_true, if_false] at q9 ⊢
        exact again I9 q9
      | true =>
        simp only [if_true] at q9 ⊢
        refine thnF (eP.run _ s9 σ8 H9 _ I9 q9) fun vv s10 ⟨z, H10, I10, r10, k, L, ey, hD, hz, nx⟩ => ?_
        subst ey
        exact sk_add (X := X.blk s3 H3 sc ce fp) I10 hD r10 hz fun s11 L' c1 c2 I11 => again I11 (nx L' c1 c2)
  show codeAny _ _ (.compStart (.SetComp elt [⟨tg, iter, ifs, 0⟩] sc pos) 0 (.ref it) (.ref D) (compEnvC sc (cellsFrom (s3.heap.objs.size + 1) sc.names (cloFrom X.env.cells sc.names [])) s3.heap.objs.size X.env)) (compPost (model X.prog X.w) X.A X.xe use Qf (.ref D) s3.heap.objs.size) { s3 with heap := pushCells (s3.heap.push { cls := .type "dict", data := .dict #[] }) sc.names }
  rw [ec, e4]
  exact PpSet.codeAny_compStart_set body (T.self X.A 0 _ _ _ t4 body)
theorem pe_sk {elt tg iter : Expr} {ifs : List Expr} {sc : Scope} {own : List (Str × Nat)} {pos : Pos} {wi : TI} {g : TG} {tt : TT} {te : TE} (hu : X.A.units + 65 < cLine) (hc : X.calm = true) (hN : X.N.Nodup) (hi : PI X tg iter wi) (ok : BlkOk X.N X.env.scope sc own)
    (hg : ∀ (s : Shared) (H : Hp) (C : Addr) (cl : List (Str × Addr)) (fp : List Addr), PG (X.blk s H sc (compEnvC sc cl C X.env) fp) tg g) (ht : ∀ (s : Shared) (H : Hp) (C : Addr) (cl : List (Str × Addr)) (fp : List Addr), PTs (X.blk s H sc (compEnvC sc cl C X.env) fp) ifs tt)
    (he : ∀ (s : Shared) (H : Hp) (C : Addr) (cl : List (Str × Addr)) (fp : List Addr), PE (X.blk s H sc (compEnvC sc cl C X.env) fp) elt te) (hs : ∀ x, foldedSetIterable iter X.env x = pure x) :
    PE X (.SetComp elt [⟨tg, iter, ifs, 0⟩] sc pos) (tSk X wi g tt te (own.map (·.2))) := ⟨fun pins s σ H Q I h => by
  rw [PpSet.eval_SetComp]
  refine sk_core hu hc hN I hi ok hg ht he hs h fun D C s' m H' I' q ns f => ⟨m, ns, fun h2 sb => ?_⟩
  obtain ⟨f0, f1, f2, f3, f4, f5⟩ := f
  exact ⟨.ref D, H', I'.turned (t' := s'.toks) (fun c o z y => (sb.2 c z).trans y) f0 f1 f3 f4 f5, rfl, q⟩⟩
end
def kN : Key → NestedKey
  | .inl i => .num i
  | .inr x => .text x
theorem kN_data : ∀ k : Key, (kN k).data = keyD k
  | .inl _ => rfl
  | .inr _ => rfl
theorem kN_inj : ∀ {a b : Key}, kN a = kN b → a = b
  | .inl _, .inl _, e => by cases e; rfl
  | .inr _, .inr _, e => by cases e; rfl
  | .inl _, .inr _, e => by cases e
  | .inr _, .inl _, e => by cases e
theorem keyD_inj {a b : Key} (e : keyD a = keyD b) : a = b := by
  rw [← kN_data, ← kN_data] at e
  exact kN_inj (nk_inj e)
theorem keyD_deep : ∀ k : Key, (keyD k).depth = 0
  | .inl _ => rfl
  | .inr _ => rfl
theorem keyD_reads {h : Heap} {k : Key} {v : Value} (e : L2.keyIs k v = true) : Reads h v (keyD k) [] := by
  rcases L2.keyIs_shape e with ⟨i, t, rfl, rfl⟩ | ⟨x, t, rfl, rfl⟩
  · exact .int _ _
  · exact .str _ _
section
variable {prog : Program} {w : World} {A : Around} {E : Value → Shared → Prop} {s : Shared} {a : Addr} {L : List Key}
open PySem.W PySem.Calls
theorem each_key {vs : List Value} (g : ∀ v ∈ vs, ∃ z, GoodK w (z, v)) : EachIs (fun v (k : Key) => L2.keyIs k v = true) vs (vs.map fun v => keyE (0, v)) := by
  induction vs with
  | nil => exact .nil
  | cons v vs ih =>
    obtain ⟨z, e, _⟩ := g v List.mem_cons_self
    exact .cons e (ih fun u m => g u (List.mem_cons_of_mem _ m))
theorem sorted_keys {Q : Value → Shared → Prop} (R : SetQ w s.heap a L) (small : L.length < 64) (hh : A.handled = none) (al : AllAlike (L.map keyD)) (sb : Sortable (L.map keyD)) (hu : A.units + 2 < cLine)
    (fin : ∀ (s' : Shared) (p : Addr) (Lo : List Key) (vs : List Value) (n : Nat), (∀ b o, s.heap.get? b = some o → s'.heap.get? b = some o) → s'.gens = s.gens → s'.os = s.os → s.heap.objs.size ≤ p → s'.heap.get? p = some (seqObj "list" vs.toArray n) → EachIs (fun v (k : Key) => L2.keyIs k v = true) vs Lo → Lo.Perm L → Lo.map keyD = sortD (L.map keyD) → Q (.ref p) s') :
    wpAny (model prog w) A (call (.builtin "sorted") [.ref a]) Q E s := by
  obtain ⟨o, es, ep, t, ⟨ho, hex, hd⟩, g, eL, nd, ⟨hb, hf⟩, hr, hl⟩ := R
  refine call_function_entry_kw kind_sorted plain_sorted entry_sorted (args_sorted1 _) ?_
  unfold Builtin.«sorted»
  refine wpAny_bind (m := checkCount "sorted" 1 1 _) (wpAny_pure ?_)
  refine wpAny_bind (collect_set (A := A.in1) hh ⟨o, ho, hex.1, hd⟩ hf hb hr hl fun s1 vs k1 z1 g1 o1 pm => ?_)
  have er : EachIs (fun v (k : Key) => L2.keyIs k v = true) vs (vs.map fun v => keyE (0, v)) := each_key (w := w) fun v m => by
    obtain ⟨e, me, rfl⟩ := List.mem_map.mp (pm.mem_iff.mp m)
    exact ⟨e.1, g e me⟩
  have p1 : (vs.map fun v => keyE (0, v)).Perm L := by
    have z := pm.map fun v => keyE (0, v)
    rw [List.map_map] at z
    rw [← eL]
    exact z
  generalize (vs.map fun v => keyE (0, v)) = L1 at er p1
  have vl : vs.length < 64 := by rw [er.length, p1.length_eq]; exact small
  refine wpAny_bind (wpAny_newList ?_ (by rw [sizeLine_eq]; omega))
  obtain ⟨h2, eh2⟩ : ∃ h2, h2 = s1.heap.push (seqObj "list" vs.toArray 0) := ⟨_, rfl⟩
  have at2 : h2.get? s1.heap.objs.size = some (seqObj "list" vs.toArray 0) := by rw [eh2]; exact Heap.get?_push_size _ rfl
  have old2 : ∀ b u, s1.heap.get? b = some u → b ≠ s1.heap.objs.size ∧ b < h2.objs.size ∧ h2.get? b = some u := fun b u e => by
    have lt : b < s1.heap.objs.size := Heap.lt_size e
    refine ⟨Nat.ne_of_lt lt, ?_, ?_⟩
    · rw [eh2, size_push']; exact Nat.lt_succ_of_lt lt
    · rw [eh2]; exact Heap.get?_push_of_some _ e
  show wpAny (model prog w) A.in1 _ _ _ { s1 with heap := s1.heap.push (seqObj "list" vs.toArray 0) }
  rw [← eh2]
  have rd2 : EachIs (fun v (k : Key) => ∃ as, Reads (sortingHeap h2 s1.heap.objs.size vs) v (keyD k) as) vs L1 := er.mono fun v k q => ⟨[], keyD_reads q⟩
  have al1 : AllAlike (L1.map keyD) := fun x mx y my => al x ((p1.map _).mem_iff.mp mx) y ((p1.map _).mem_iff.mp my)
  have sb1 : Sortable (L1.map keyD) := sb.imp (fun z x mx => z x ((p1.map _).mem_iff.mp mx)) fun z x mx => z x ((p1.map _).mem_iff.mp mx)
  have hu1 : ∀ k ∈ L1, A.units + 2 + (keyD k).depth < cLine := fun k m => by rw [keyD_deep]; exact hu
  have S : SortsAt prog w A.in1.in1 { s1 with heap := sortingHeap h2 s1.heap.objs.size vs } (dataKind (sortingHeap h2 s1.heap.objs.size vs) (L1.map keyD)) vs :=
    SortsAt.data (each_map (R := fun v d => ∃ as, Reads (sortingHeap h2 s1.heap.objs.size vs) v d as) keyD rd2) al1 sb1 (bound_map hu1)
  refine wpAny_bind (wpAny_holding (wpAny_call_entry_kw slot_list_sort ⟨_, at2, rfl⟩ entry_list_sort ?body (args_list_sort _)))
  case body =>
    show wpAny (model prog w) A.in1.in1 (Builtin.«list.sort» ⟨[.ref s1.heap.objs.size], []⟩) _ _ _
    refine list_sort_vals (s := { s1 with heap := h2 }) at2 S (by rw [sizeLine_eq]; omega) ⟨_, rfl, wpAny_pure ⟨_, rfl, ?_⟩⟩
    obtain ⟨n, he⟩ := sortedHeap_at (vs := vs) (out := (sortVals (dataKind (sortingHeap h2 s1.heap.objs.size vs) (L1.map keyD)) false vs vs).toArray) at2
    have so := sortVals_data false er rd2 al1
    generalize sortVals (dataKind (sortingHeap h2 s1.heap.objs.size vs) (L1.map keyD)) false vs vs = vo at he so ⊢
    refine fin _ s1.heap.objs.size _ vo n (fun b u e => ?_) g1 o1 z1 he so ((List.mergeSort_perm _ _).trans p1) ?_
    · obtain ⟨q1, q2, q3⟩ := old2 b u (k1 b u e)
      exact (sortedHeap_old q1 q2).trans q3
    · have z := List.map_mergeSort (f := keyD) (r := dataLe false keyD) (s := fun a b => !dataLt b a) (l := L1) (fun a _ b _ => rfl)
      have e0 : ∀ l : List Key, l.map keyD = (l.map kN).map NestedKey.data := fun l => by
        rw [List.map_map]; exact List.map_congr_left fun k _ => (kN_data k).symm
      have y := sortD_perm (p1.map kN) (by rw [← e0]; exact al)
      rw [← e0, ← e0] at y
      exact z.trans y
end
end L3

namespace L3
open PySem PySem.Spec PyProof.Rows L2
def okK (x : PyData) : Bool := match x with
  | .int _ => true
  | .str _ => true
  | _ => false
theorem okK_key {x : PyData} (h : okK x = true) : ∃ k : Key, keyD k = x := by
  cases x with
  | int i => exact ⟨.inl i, rfl⟩
  | str x => exact ⟨.inr x, rfl⟩
  | _ => cases h
theorem fz_key {K : PySem.W.Frag} {H : Hp} : ∀ {k : Key} {v : V}, Fz K H v (keyD k) → v = kV k
  | .inl _, _, .int _ => rfl
  | .inr _, _, .str _ => rfl
theorem key_fz {K : PySem.W.Frag} {H : Hp} : ∀ k : Key, Fz K H (kV k) (keyD k)
  | .inl _ => .int _
  | .inr _ => .str _
noncomputable def compK (g : DenG) (tt : DenT) (de : Den) (ws0 : WSt) (gd : WH → Prop) : List W → List PyData → M (List PyData)
  | [], acc, h => some (.ok acc, h)
  | w :: r, acc, h => match g w ws0 h with
    | some (.ok ws2, h2) => match tt ws2 h2 with
      | some (.ok b, h3) => if b = true then (match de ws2 h3 with
        | some (.ok (.d y), h4) => if okK y = true ∧ acc.length < 63 then (open Classical in if gd h4 then compK g tt de ws0 gd r (addD acc y) h4 else none) else none
        | _ => none) else open Classical in if gd h3 then compK g tt de ws0 gd r acc h3 else none
      | _ => none
    | _ => none
noncomputable def eSetK (vs : List Nat) (di : DenI) (t : Tg) (tt : DenT) (de : Den) : WSt → M (List PyData) := fun ws h => bindM (di ws h) fun wk h1 => compK t.dn tt de (wipeW ws vs) wk.gd wk.xs [] h1
noncomputable def eSortK (vs : List Nat) (di : DenI) (t : Tg) (tt : DenT) (de : Den) : Den := fun ws h => bindM (eSetK vs di t tt de ws h) fun acc h2 => optM (if okS acc then some (W.d (.list (sortD acc))) else none) h2
def rSortK (X : Cx) : List V → Hp → VK → Prop := fun xs H Q => ∃ a L, xs = [V.ref a] ∧ H a = some (skO X.w a L) ∧ L.length < 64 ∧ PySem.W.AllAlike (L.map keyD) ∧ PySem.W.Sortable (L.map keyD) ∧
  ∀ (p : Addr) (Ls : List Key), H p = none → Ls.Perm L → Ls.map keyD = sortD (L.map keyD) → Q (.ref p) (L2.upd H p (.lst (Ls.map kV)))
theorem vals_keys {vs : List Value} {L : List Key} (e : PySem.W.EachIs (fun v (k : Key) => L2.keyIs k v = true) vs L) : Vals (L.map kV) vs := by
  induction e with
  | nil => exact .nil
  | cons x _ ih =>
    refine .cons ?_ ih
    rcases L2.keyIs_shape x with ⟨i, t, rfl, rfl⟩ | ⟨y, t, rfl, rfl⟩ <;> exact ⟨_, rfl⟩
section
variable {X : Cx}
theorem cr_sortK (hu : X.A.units + 65 < cLine) (hc : X.calm = true) : CallR X (.builtin "sorted") (rSortK X) := by
  intro pins s σ H vs us Q I rv h
  obtain ⟨a, L, rfl, e, sm, al, sb, q⟩ := h
  obtain ⟨u, rfl, r1⟩ := Vals.one rv
  obtain rfl : u = Value.ref a := r1
  refine sorted_keys (sk_get I e) sm (I.ok.hd hc) al sb (by omega) fun s' p Ls ws n k g o hp hg ek pm es2 => ?_
  have nn : H p = none := I.hok.fresh hp
  have few : Ls.length < 64 := by rw [pm.length_eq]; exact sm
  have J : Inv X pins σ (L2.upd H p (.lst (Ls.map kV))) { s with heap := s'.heap, gens := s'.gens, drawn := s'.drawn, toks := s'.toks } :=
    I.call (ch := []) (Un.laid k hp nn) (I.hok.laid k hp ⟨by rw [List.length_map, sizeLine_eq]; omega, _, n, vals_keys ek, hg⟩) (by rw [g]; exact I.bare) (fun _ z => nomatch z)
  have es' : s' = { s with heap := s'.heap, gens := s'.gens, drawn := s'.drawn, toks := s'.toks } := by
    cases s'; cases s; cases o; rfl
  rw [es']
  exact ⟨.ref p, _, J, rfl, q p Ls nn pm es2⟩
end
section
variable {X : Cx} {scope : Scope} {own : List (Str × Nat)} {tg elt iter : Expr} {ifs : List Expr} {t : Tg} {tt : DenT} {de : Den} {di : DenI}
theorem sck_read {Wx : WX} {σ : L2.St} {H : Hp} {Q Q' : VK} {kk : List PyData → M W} (C : CompIn X scope own tg elt ifs t tt de) (hgd : ∀ ws h wk h1, di ws h = some (.ok wk, h1) → wk.gd h1)
    (hk : ∀ {th0 : Th} {h0 : WH} {H0 : Hp} {th : Th} {h : WH} {H : Hp} {acc : List PyData} {L : List Key} {D : Addr}, RelH X.K (X.mg, X.w) th0 h0 H0 → H0 D = none → Stay th0 h0 H0 th h H → RelH X.K (X.mg, X.w) th h H → th.hd D → H D = some (skO X.w D L) → L.length < 64 → acc.Perm (L.map keyD) →
      Goes X.K (X.mg, X.w) th0 h0 H0 (kk acc h) (okV X.K (X.mg, X.w) Q) (badW X.K (X.mg, X.w) Wx σ) → Q' (.ref D) H)
    (q : rdE X.K (X.mg, X.w) Wx (fun ws h => bindM (eSetK (own.map (·.2)) di t tt de ws h) kk) σ H Q) :
    tSk X (rdI X.K (X.mg, X.w) Wx di) (t.v X.K) (rdT X.K (X.mg, X.w) W0 tt) (rdE X.K (X.mg, X.w) W0 de) (own.map (·.2)) σ H Q' := by
  obtain ⟨th, h, ws, rs, rh, g⟩ := q
  have hgd := hgd ws h
  have g : Goes X.K (X.mg, X.w) th h H (bindM (bindM (di ws h) fun wk h1 => compK t.dn tt de (wipeW ws (own.map (·.2))) wk.gd wk.xs [] h1) kk) (okV X.K (X.mg, X.w) Q) (badW X.K (X.mg, X.w) Wx σ) := g
  refine ⟨th, h, ws, rs, rh, ?_⟩
  match q : di ws h with
  | none => rw [q] at g; exact g
  | some (.exc c fs, h1) => rw [q] at g; exact g
  | some (.ok wk, h1) =>
    rw [q] at g
    intro th1 H1 s1 r1 J ok D nD
    have g1 : Goes X.K (X.mg, X.w) th1 h1 H1 (bindM (compK t.dn tt de (wipeW ws (own.map (·.2))) wk.gd wk.xs [] h1) kk) (okV X.K (X.mg, X.w) Q) (badW X.K (X.mg, X.w) Wx σ) := goes_mono g s1
    have rs1 := rs.stay s1
    obtain ⟨s2, r2⟩ := r1.hideNew nD (skO X.w D [])
    refine ⟨fun i m H2 => m = wk.xs.length - i ∧ i ≤ wk.xs.length ∧ ∃ th2 h2 acc L, Stay th1 h1 H1 th2 h2 H2 ∧ RelH X.K (X.mg, X.w) th2 h2 H2 ∧ th2.hd D ∧ wk.gd h2 ∧ H2 D = some (skO X.w D L) ∧ L.length < 64 ∧ acc.Perm (L.map keyD) ∧
      Goes X.K (X.mg, X.w) th1 h1 H1 (bindM (compK t.dn tt de (wipeW ws (own.map (·.2))) wk.gd (wk.xs.drop i) acc h2) kk) (okV X.K (X.mg, X.w) Q) (badW X.K (X.mg, X.w) Wx σ),
      ⟨_, rfl, Nat.zero_le _, _, h1, [], [], s2, r2, .inr rfl, hgd wk h1 q, upd_same, (by decide), List.Perm.nil, g1⟩, fun i m H2 w => ?_⟩
    obtain ⟨rfl, hi, th2, h2, acc, L, st, rh2, hD, gd2, eD, ra, pm, g2⟩ := w
    by_cases hl : i < wk.xs.length
    · refine .inr ⟨(ok.go th2 h2 H2 st rh2 gd2 i _ (List.getElem?_eq_getElem hl)).1, fun H' => ∃ th2 h2 acc L, Stay th1 h1 H1 th2 h2 H' ∧ RelH X.K (X.mg, X.w) th2 h2 H' ∧ th2.hd D ∧ wk.gd h2 ∧ H' D = some (skO X.w D L) ∧ L.length < 64 ∧ acc.Perm (L.map keyD) ∧
        Goes X.K (X.mg, X.w) th1 h1 H1 (bindM (compK t.dn tt de (wipeW ws (own.map (·.2))) wk.gd (wk.xs.drop (i + 1)) acc h2) kk) (okV X.K (X.mg, X.w) Q) (badW X.K (X.mg, X.w) Wx σ),
        fun H' n => ⟨wk.xs.length - (i + 1), by omega, rfl, hl, n⟩, fun x H3 y => ?_⟩
      obtain ⟨le, rw_⟩ := (ok.go th2 h2 H2 st rh2 gd2 i _ (List.getElem?_eq_getElem hl)).2 x H3 y
      obtain ⟨s3, r3⟩ := rh2.grow le
      have rs3 := ((rs1.stay st).stay s3).wipe (own.map (·.2))
      rw [List.drop_eq_getElem_cons hl] at g2
      unfold compK at g2
      match qg : t.dn wk.xs[i] (wipeW ws (own.map (·.2))) h2 with
      | none => simp only [qg] at g2; exact g2.elim
      | some (.exc c fs, h4) => simp only [qg] at g2; exact g2.elim
      | some (.ok ws4, h4) =>
        simp only [qg] at g2
        obtain ⟨rfl, hv⟩ := tg_v rs3 rw_ r3 qg
        refine hv _ fun σ4 rs4 wp => ⟨(wp _ C.sl).trans (wipe_wipe _ _), ?_⟩
        refine ⟨th2, h4, ws4, rs4, r3, ?_⟩
        match qt : tt ws4 h4 with
        | none => simp only [qt] at g2; exact g2.elim
        | some (.exc c fs, h5) => simp only [qt] at g2; exact g2.elim
        | some (.ok b, h5) =>
          simp only [qt] at g2
          intro th5 H5 s5 r5
          have st5 := (st.trans s3).trans s5
          have hD3 : ¬ Pl th2 h4 D := fun ⟨l, o, x, y, t⟩ => r3.off l o D x y t hD
          have hD5 : th5.hd D := s5.hds D hD
          have eD5 : H5 D = some (skO X.w D L) := s5.keep D _ (le D _ eD) hD3
          have ra5 : L.length < 64 := ra
          cases b with
          | false =>
            rw [if_neg Bool.false_ne_true] at g2
            refine iteF ?_
            split at g2
            · rename_i gd5
              exact ⟨th5, h5, acc, L, st5, r5, hD5, gd5, eD5, ra5, pm, g2⟩
            · exact g2.elim
          | true =>
            rw [if_pos rfl] at g2
            refine iteT ⟨th5, h5, ws4, rs4.stay s5, r5, ?_⟩
            match qe : de ws4 h5 with
            | none => simp only [qe] at g2; exact g2.elim
            | some (.exc c fs, h6) => simp only [qe] at g2; exact g2.elim
            | some (.ok y, h6) =>
              rw [qe] at g2
              intro th6 H6 s6 r6 v rv
              have hD6 : th6.hd D := s6.hds D hD5
              have hD5' : ¬ Pl th5 h5 D := fun ⟨l, o, x, y, t⟩ => r5.off l o D x y t hD5
              have eD6 : H6 D = some (skO X.w D L) := s6.keep D _ eD5 hD5'
              split at g2
              case h_2 => exact g2.elim
              rename_i y' h6' e6
              cases e6
              split at g2
              case isFalse => exact g2.elim
              rename_i ok2
              obtain ⟨okn, len⟩ := ok2
              split at g2
              case isFalse => exact g2.elim
              rename_i gd6
              obtain ⟨k, ek⟩ := okK_key okn
              have fz : Fz X.K (hid th6 h6 H6) v (keyD k) := by rw [ek]; exact rv
              obtain rfl := fz_key fz
              have ll := pm.length_eq
              rw [List.length_map] at ll
              refine ⟨k, L, rfl, eD6, by omega, fun L' c1 c2 => ?_⟩
              have mem : k ∈ L ↔ y' ∈ acc := by
                constructor
                · intro m
                  exact pm.mem_iff.mpr (List.mem_map.mpr ⟨k, m, ek⟩)
                · intro m
                  obtain ⟨p, mp, e⟩ := List.mem_map.mp (pm.mem_iff.mp m)
                  rw [← keyD_inj (e.trans ek.symm)]
                  exact mp
              refine ⟨th6, h6, addD acc y', L', (st5.trans s6).poke nD _, r6.poke hD6 _, hD6, gd6, upd_same, ?_, ?_, g2⟩
              · by_cases kin : k ∈ L
                · rw [c1 kin]; exact ra5
                · rw [(c2 kin).length_eq, List.length_cons]; omega
              · unfold addD
                by_cases kin : k ∈ L
                · rw [if_pos (mem.mp kin), c1 kin]; exact pm
                · rw [if_neg fun z => kin (mem.mpr z)]
                  have z := ((c2 kin).map keyD).symm
                  rw [List.map_cons, ek] at z
                  exact (List.perm_append_comm.trans (pm.cons y')).trans z
    · refine .inl ⟨ok.stop th2 h2 H2 st rh2 gd2 i (by omega), ?_⟩
      have : i = wk.xs.length := by omega
      subst this
      rw [List.drop_length] at g2
      exact hk r1 nD st rh2 hD eD ra pm g2
theorem okS_permK {acc : List PyData} {L : List Key} (pm : acc.Perm (L.map keyD)) (ok : okS acc = true) : PySem.W.AllAlike (L.map keyD) ∧ PySem.W.Sortable (L.map keyD) ∧ sortD (L.map keyD) = sortD acc := by
  obtain ⟨al, sb, _⟩ := okS_split ok
  have al2 : PySem.W.AllAlike (L.map keyD) := fun x mx y my => al x (pm.mem_iff.mpr mx) y (pm.mem_iff.mpr my)
  refine ⟨al2, sb.imp (fun z x mx => z x (pm.mem_iff.mpr mx)) (fun z x mx => z x (pm.mem_iff.mpr mx)), ?_⟩
  have e0 : ∀ l : List Key, l.map keyD = (l.map kN).map NestedKey.data := fun l => by
    rw [List.map_map]; exact List.map_congr_left fun k _ => (kN_data k).symm
  rw [e0] at pm ⊢
  obtain ⟨L1, p1, e1⟩ := perm_back pm _ rfl
  rw [e1]
  exact (sortD_perm p1 (by rw [← e0]; exact al2)).symm
theorem fzs_keysK {K : PySem.W.Frag} {H : Hp} : ∀ L : List Key, FzAll K H (L.map kV) (L.map keyD)
  | [] => .nil
  | k :: L => .cons (key_fz k) (fzs_keysK L)
variable {pos p cpos : Pos}
theorem sn_setCK {Wx : WX} {kk : List PyData → M W} {r : List V → Hp → VK → Prop} {id : String} {x : Str} (hu : X.A.units + 65 < cLine) (hc : X.calm = true) (hN : X.N.Nodup) (hr : CallR X (.builtin id) r) (hg : Gl X x) (hm : X.mg x = none) (hv : bootBuiltins x = some (.builtin id)) (C : CompIn X scope own tg elt ifs t tt de) (hi : SndI X tg iter di)
    (hgd : ∀ ws h wk h1, di ws h = some (.ok wk, h1) → wk.gd h1) (hn : x ≠ "__name__") (hdb : (x == ("__debug__" : Str)) = false) (hs : ∀ x, foldedSetIterable iter X.env x = pure x) (tk : Takes X Wx)
    (he : starEach [.SetComp elt [⟨tg, iter, ifs, 0⟩] scope pos] X.env = (false, eval (.SetComp elt [⟨tg, iter, ifs, 0⟩] scope pos) X.env) :: starEach [] X.env) (hpl : (backTo cpos (starEach [] X.env)).any (·.1) = false)
    (hk : ∀ {σ : L2.St} {Q : VK} {th0 : Th} {h0 : WH} {H0 : Hp} {th : Th} {h : WH} {H : Hp} {acc : List PyData} {L : List Key} {D : Addr}, RelH X.K (X.mg, X.w) th0 h0 H0 → H0 D = none → Stay th0 h0 H0 th h H → RelH X.K (X.mg, X.w) th h H → th.hd D → H D = some (skO X.w D L) → L.length < 64 → acc.Perm (L.map keyD) →
      Goes X.K (X.mg, X.w) th0 h0 H0 (kk acc h) (okV X.K (X.mg, X.w) Q) (badW X.K (X.mg, X.w) Wx σ) → r [.ref D] H Q) :
    PE X (.Call (.Name x p) [.SetComp elt [⟨tg, iter, ifs, 0⟩] scope pos] [] cpos) (rdE X.K (X.mg, X.w) Wx (fun ws h => bindM (eSetK (own.map (·.2)) di t tt de ws h) kk)) :=
  pe_imp (pe_callB hr hg hm hv (pa_cons (pe_sk hu hc hN (hi Wx tk) C.ok C.hg (fun s H Ca cl fp => C.ht s H Ca cl fp W0 takes0) (fun s H Ca cl fp => C.he s H Ca cl fp W0 takes0) hs) pa_nil he) hn hdb he hpl) fun σ H Q q => sck_read (Q' := fun x H2 => r [x] H2 Q) C hgd hk q
theorem keys_putK {K : PySem.W.Frag} {H : Hp} {acc : List PyData} {L Ls : List Key} (ok : okS acc = true) (pm : acc.Perm (L.map keyD)) (e : Ls.map keyD = sortD (L.map keyD)) : FzAll K H (Ls.map kV) (sortD acc) := by
  rw [← (okS_permK pm ok).2.2, ← e]
  exact fzs_keysK Ls
theorem sn_sortK (hu : X.A.units + 65 < cLine) (hc : X.calm = true) (hN : X.N.Nodup) (hg : Gl X "sorted") (hm : X.mg "sorted" = none) (hv : bootBuiltins "sorted" = some (.builtin "sorted")) (C : CompIn X scope own tg elt ifs t tt de) (hi : SndI X tg iter di)
    (hgd : ∀ ws h wk h1, di ws h = some (.ok wk, h1) → wk.gd h1) (hs : ∀ x, foldedSetIterable iter X.env x = pure x := by intro _; rfl)
    (he : starEach [.SetComp elt [⟨tg, iter, ifs, 0⟩] scope pos] X.env = (false, eval (.SetComp elt [⟨tg, iter, ifs, 0⟩] scope pos) X.env) :: starEach [] X.env := by rfl) (hpl : (backTo cpos (starEach [] X.env)).any (·.1) = false := by rfl) :
    SndE X (.Call (.Name "sorted" p) [.SetComp elt [⟨tg, iter, ifs, 0⟩] scope pos] [] cpos) (eSortK (own.map (·.2)) di t tt de) := fun Wx tk =>
  sn_setCK hu hc hN (cr_sortK hu hc) hg hm hv C hi hgd (by decide) (by decide) hs tk he hpl fun {σ Q th0 h0 H0 th h H acc L D} a1 a2 a3 a4 a5 a6 a7 a8 g => by
    by_cases ok : okS acc = true
    · rw [if_pos ok] at g
      obtain ⟨al, sb, _⟩ := okS_permK a8 ok
      refine ⟨D, L, rfl, a6, a7, al, sb, fun p Ls nn pm es => ?_⟩
      obtain ⟨s2, r2, z⟩ := a4.fresh nn (o := .lst (Ls.map kV))
      exact g _ _ (a3.trans s2) r2 (.ref p) (.lst z (keys_putK ok a8 es))
    · rw [if_neg ok] at g; exact g.elim
end
end L3

namespace L3
open PySem PySem.Spec PyProof.Rows L2
structure HasK (ks : List Key) (i : Nat) (L : List Key) : Prop where
  mem : ∀ k, k ∈ L ↔ k ∈ ks.take i
  len : L.length ≤ i
theorem HasK.zero (ks : List Key) : HasK ks 0 [] := ⟨fun k => by simp, Nat.le_refl _⟩
theorem HasK.next {ks L L' : List Key} {i : Nat} {x : Key} (g : HasK ks i L) (e : ks[i]? = some x) (c1 : x ∈ L → L' = L) (c2 : x ∉ L → L'.Perm (x :: L)) : HasK ks (i + 1) L' := by
  have tk : ks.take (i + 1) = ks.take i ++ [x] := by rw [List.take_succ, e] <;> rfl
  by_cases z : x ∈ L
  · obtain rfl := c1 z
    refine ⟨fun k => ?_, Nat.le_succ_of_le g.len⟩
    rw [tk, List.mem_append, List.mem_singleton, ← g.mem]
    exact ⟨.inl, fun q => q.elim id fun e => e ▸ z⟩
  · have pm := c2 z
    refine ⟨fun k => ?_, by rw [pm.length_eq, List.length_cons]; exact Nat.succ_le_succ g.len⟩
    rw [tk, List.mem_append, List.mem_singleton, pm.mem_iff, List.mem_cons, g.mem]
    exact Or.comm
section
variable {P : Program} {w : World} {A : Around}
theorem set_loopK {I : Addr} {fp wr : List Addr} {G : Array GenState → Array GenState → Prop} {n : Nat} {Pv : Nat → Value → Prop} {St : Nat → Shared → Prop} {R : Result → Shared → Prop} (W : WalksS P w A.in1 I fp wr G n Pv St) (S : Addr) (out : S ∉ fp)
    (ks : List Key) (len : n = ks.length) (few : ks.length < 64) (val : ∀ i v, Pv i v → ∃ p, ks[i]? = some p ∧ L2.keyIs p v = true) (h0 : Heap) (nS : h0.get? S = none) (nw : ∀ b ∈ wr, h0.get? b = none) :
    ∀ (k i : Nat) (s : Shared), n - i = k → i ≤ n → St i s → (∀ b o, h0.get? b = some o → s.heap.get? b = some o) → (∃ L, SetQ w s.heap S L ∧ HasK ks i L) →
      (∀ s' L, Moved (S :: wr) G s s' → SetQ w s'.heap S L → HasK ks n L → (∀ b o, h0.get? b = some o → s'.heap.get? b = some o) → R (.ok (.ret .none)) s') →
      codeAny (model P w) A (.builtin "set.update.loop" ⟨[.ref S, .ref I], []⟩) R s := by
  have nSw : S ∉ wr := fun z => out (W.sub _ z)
  have up : ∀ b ∈ wr, b ∈ S :: wr := fun b m => List.mem_cons_of_mem _ m
  have old : ∀ {s s' : Shared}, Moved wr G s s' → (∀ b o, h0.get? b = some o → s.heap.get? b = some o) → ∀ b o, h0.get? b = some o → s'.heap.get? b = some o := fun mv kp b o e =>
    mv.heap b o (fun m => by rw [nw b m] at e; cases e) (kp b o e)
  intro k
  induction k with
  | zero =>
    rintro i s hk hi st kp ⟨L, hS, g⟩ fin
    obtain rfl : i = n := by omega
    refine codeAny_builtin F.entry_set_update_loop ?_
    rw [Around.under_plainId F.plain_set_update_loop _]
    show wpAny _ A.in1 (pyNext (.ref I) >>= _) _ _ s
    refine wpAny_bind (W.done s _ _ st fun s' mv => ?_)
    show wpAny _ A.in1 (ret Value.none) _ _ s'
    exact wpAny_pure (fin s' L (mv.mono up) (hS.up fun o e => mv.heap S o nSw e) g (old mv kp))
  | succ k ih =>
    rintro i s hk hi st kp ⟨L, hS, g⟩ fin
    have hlt : i < n := by omega
    refine codeAny_builtin F.entry_set_update_loop ?_
    rw [Around.under_plainId F.plain_set_update_loop _]
    show wpAny _ A.in1 (pyNext (.ref I) >>= _) _ _ s
    refine wpAny_bind (W.item i s _ _ hlt st fun v s' pv st' mv => ?_)
    obtain ⟨p, hp, kv⟩ := val i v pv
    have kp' := old mv kp
    have hS' : SetQ w s'.heap S L := hS.up fun o e => mv.heap S o nSw e
    show wpAny _ A.in1 (holding [v] (setAdd S v) >>= _) _ _ s'
    refine wpAny_bind (wpAny_holding ?_)
    refine kAddV kv hS' (by have := g.len; unfold scanBound; omega) fun b h' tk L' lt sb R' c1 c2 => ?_
    have kp2 : ∀ b o, h0.get? b = some o → h'.get? b = some o := fun b o e => (sb.2 b (fun z => by rw [z, nS] at e; cases e)).trans (kp' b o e)
    refine wpAny_pure ⟨plainId_quiet F.plain_set_update_loop _, ih (i + 1) _ (by omega) hlt (W.frame _ s' _ _ st' lt fun b m o e => ?_) kp2 ⟨L', R', g.next hp c1 c2⟩ fun s'' L2 mv2 R2 g2 kp3 => ?_⟩
    · rw [sb.2 b (fun z : b = S => out (z ▸ m))]; exact e
    · refine fin s'' L2 (Moved.trans W.gtrans ((mv.mono up).then_heap lt fun b o m e => ?_) mv2) R2 g2 kp3
      rw [sb.2 b (fun z : b = S => m (z ▸ List.mem_cons_self))]; exact e
end
theorem is_at : ∀ {ks : List Key} {us : List Value} (i : Nat) (v : Value), Vals (ks.map kV) us → us[i]? = some v → ∃ p, ks[i]? = some p ∧ L2.keyIs p v = true
  | [], _, i, v, .nil, e => by cases e
  | k :: ks, _, 0, v, .cons r t, e => by
    obtain rfl := Option.some.inj e
    exact ⟨k, rfl, by cases k <;> (obtain ⟨t, rfl⟩ := r; first | exact L2.keyIs_int _ _ | exact L2.keyIs_str _ _)⟩
  | k :: ks, _, i + 1, v, .cons r t, e => is_at (ks := ks) i v t e
section
variable {P : Program} {w : World} {A : Around} {E : Value → Shared → Prop} {s : Shared}
set_option maxHeartbeats 3200000 in
theorem set_call_lst {l : Addr} {its : Array Value} (ks : List Key) {Q : Value → Shared → Prop} (hh : A.handled = none) (at_ : s.heap.IsList l its) (row : Vals (ks.map kV) its.toList) (few : ks.length < 64)
    (fin : ∀ (h' : Heap) (tk : Nat) L, SetQ w h' s.heap.objs.size L → HasK ks ks.length L → (∀ b o, s.heap.get? b = some o → h'.get? b = some o) → Q (.ref s.heap.objs.size) { s with heap := h', toks := tk }) : wpAny (model P w) A (call (.type "set") [.ref l]) Q E s := by
  have sz : its.size = ks.length := by rw [← Array.length_toList, ← row.length, List.length_map]
  obtain ⟨cc, tl, mro⟩ := F.called_set.mro
  have made := F.called_set.made
  have hsub := F.called_set.sub
  refine wpAny_call (codeAny_of_tree ?_)
  show wpAny _ _ (callAny (.type "set") _) _ _ _
  refine wpAny_pure ⟨Code.quiet_builtin _ (by decide +kernel), codeAny_builtin F.entry_type_call ?_⟩
  rw [Around.under_plain (weight_type_call_type "set" [.ref l] []) rfl]
  have w1 := F.called_set.notType
  have w2 := F.called_set.canCreate
  have w3 := F.typeCall_set_1 (.ref l)
  repeat (any_goals (first | assumption | wp_step))
  refine codeAny_mono (L2.code_set_led1 (.ref l) (E := E) (Q₁ := fun u s1 => u = .ref s.heap.objs.size ∧ s1 = { s with heap := s.heap.push (set00 w) }) ⟨rfl, rfl⟩) fun r s1 hr => ?_
  match r, hr with
  | .error e, hr => exact hr
  | .ok (.ret u), hr =>
    obtain ⟨rfl, rfl⟩ := hr
    have hS : (s.heap.push (set00 w)).get? s.heap.objs.size = some (set00 w) := Heap.get?_push_size _ rfl
    have hT : Shared.TypeIs { s with heap := s.heap.push (set00 w) } (.ref s.heap.objs.size) "set" := ⟨_, hS, rfl⟩
    have w4 := F.called_set.init.lookup
    have w5 := F.called_set.init.bind (.ref s.heap.objs.size)
    repeat (any_goals (first | assumption | wp_step))
    refine codeAny_mono (codeAny_call_builtin (R := wants (fun r s2 => r = .none ∧ ∃ h' tk L, s2 = { s with heap := h', toks := tk } ∧ SetQ w h' s.heap.objs.size L ∧ HasK ks ks.length L ∧ ∀ b o, s.heap.get? b = some o → h'.get? b = some o) E) F.called_set.init.plain F.entry_set_init (check_set_init_1 hT ?_)) fun r2 s2 hr2 => ?_
    · obtain ⟨⟨oc, od, oa, os⟩, ho, hc, nl, hd⟩ := at_
      simp only at hc hd
      subst hc; subst hd
      have ho1 : (s.heap.push (set00 w)).get? l = some { cls := .type "list", dict := od, data := .seq its nl, slots := os } := Heap.get?_push_of_some _ ho
      have q1 := F.sub_list_set
      have q2 := F.sub_list_frozenset
      have q3 : (Value.type "list" == Value.type "dict") = false := by decide
      have at1 : (s.heap.push (set00 w)).IsList l its := ⟨_, ho1, rfl, nl, rfl⟩
      unfold Builtin.«set.__init__» noKeywords Builtin.Frozenset.updateFrom
      generalize hPI : pyIter = PI
      wp_walk
      subst hPI
      refine wpAny_pyIter_list at1 ?_
      refine wpAny_bind (wpAny_runValue ?_)
      have lS : l < s.heap.objs.size := Heap.lt_size ho
      have h3 : A.in1.in1.in1.handled = none := by simp [hh]
      have z1 : (s.heap.push (set00 w)).objs.size = s.heap.objs.size + 1 := Heap.size_push ..
      have none_of : ∀ b, s.heap.objs.size ≤ b → s.heap.get? b = none := fun b hb => by
        cases q : s.heap.get? b with
        | none => rfl
        | some o => exact absurd (Heap.lt_size q) (Nat.not_lt.mpr hb)
      refine set_loopK ((Walks.list h3 _ l (by rw [z1]; exact Nat.ne_of_lt (Nat.lt_succ_of_lt lS)) its).toS) s.heap.objs.size ?_ ks sz few (fun i v hv => ?_) s.heap (none_of _ (Nat.le_refl _)) (fun b hb => none_of b (by rw [List.mem_singleton.mp hb, z1]; exact Nat.le_succ _))
        (its.size - 0) 0 _ (by omega) (Nat.zero_le _) ⟨⟨_, Heap.get?_push_size _ rfl, rfl, rfl⟩, at1.push _⟩ (fun b o e => Heap.get?_push_of_some _ (Heap.get?_push_of_some _ e)) ?kA ?kB
      · rw [z1]
        simp only [List.mem_cons, List.mem_singleton, List.not_mem_nil, or_false, not_or]
        exact ⟨Nat.ne_of_lt (Nat.lt_succ_self _), Nat.ne_of_gt lS⟩
      · have q : its.toList[i]? = some v := by rw [Array.getElem?_toList]; exact hv
        exact is_at i v row q
      case kA => exact ⟨[], kNew w (Heap.get?_push_of_some _ hS), HasK.zero ks⟩
      case kB =>
        rintro ⟨h', g2, d', tk', os'⟩ L mv R g kp
        obtain rfl : g2 = s.gens := mv.gens
        obtain rfl : d' = s.drawn := mv.drawn
        obtain rfl : os' = s.os := mv.os
        show wpAny _ _ _ _ _ _
        refine wpAny_pure ?_
        show wpAny _ _ (ret Value.none) _ _ _
        rw [sz] at g
        exact wpAny_pure ⟨rfl, h', tk', L, rfl, R, g, kp⟩
    · match r2, hr2 with
      | .error e, hr2 => exact hr2
      | .ok (.ret r), hr2 =>
        obtain ⟨rfl, h', tk, L, rfl, R, g, kp⟩ := hr2
        repeat (any_goals (first | assumption | wp_step))
        exact fin _ _ _ R g kp
end
theorem keys_back {K : PySem.W.Frag} {H : Hp} : ∀ {xs : List V} {ds : List PyData}, FzAll K H xs ds → (∀ d ∈ ds, okK d = true) → ∃ ks : List Key, xs = ks.map kV ∧ ks.map keyD = ds
  | _, _, .nil, _ => ⟨[], rfl, rfl⟩
  | _, d :: _, .cons a r, ok => by
    obtain ⟨ks, e1, e2⟩ := keys_back r fun y m => ok y (List.mem_cons_of_mem _ m)
    obtain ⟨k, ek⟩ := okK_key (ok d (List.mem_cons_self ..))
    exact ⟨k :: ks, by rw [e1, List.map_cons]; rw [← ek] at a; rw [fz_key a], by rw [List.map_cons, e2, ek]⟩
section
variable {X : Cx}
def tSetL (X : Cx) (ta : TE) (r : List V → Hp → VK → Prop) : TE := fun σ H Q => ta σ H fun x H1 => ∃ (l : Addr) (ks : List Key), x = V.ref l ∧ SqL X.K H1 l (ks.map kV) ∧ ks.length < 64 ∧
  ∀ (D : Addr) (L : List Key), H1 D = none → L.Nodup → (∀ k, k ∈ L ↔ k ∈ ks) → L.length < 64 → r [.ref D] (upd H1 D (skO X.w D L)) Q
theorem pe_setL {a : Expr} {ta : TE} {p p2 q pos : Pos} {id : String} {x : Str} {r : List V → Hp → VK → Prop} (hr : CallR X (.builtin id) r) (hc : X.calm = true) (hg : Gl X x) (hm : X.mg x = none) (hv : bootBuiltins x = some (.builtin id)) (hg2 : Gl X "set") (hm2 : X.mg "set" = none) (ha : PE X a ta)
    (hn : x ≠ "__name__") (hdb : (x == ("__debug__" : Str)) = false) (na : starEach [a] X.env = (false, eval a X.env) :: starEach [] X.env := by rfl) : PE X (.Call (.Name x p) [.Call (.Name "set" p2) [a] [] q] [] pos) (tSetL X ta r) := by
  refine ⟨fun pins s σ H Q I h => ?_⟩
  refine Call_ (ld_blt I hg hm hv ?_ hn hdb)
  refine PyProof.Rows.callWith_builtin1 (PyProof.Rows.args_cons ?_ rfl) rfl rfl
  refine Call_ (ld_blt I hg2 hm2 PyProof.Rows.boot_set ?_)
  refine PyProof.Rows.callWith_type1 (PyProof.Rows.args_cons (thn (ha.run pins s σ H _ I h) fun v s1 ⟨x, H1, I1, r1, q1⟩ => PyProof.Rows.args_nil ?_) na) na rfl
  obtain ⟨l, ks, rfl, sq, few, fin⟩ := q1
  cases r1
  obtain ⟨its, rv, ⟨o, n, ho, hc1, _, hd⟩, hz⟩ := I1.list sq
  refine set_call_lst ks (I1.ok.hd hc) (its := its.toArray) ⟨o, ho, hc1, n, hd⟩ (by simpa using rv) few fun h' tk L R g kp => PyProof.Rows.args_nil ?_
  have nn : H1 s1.heap.objs.size = none := I1.hok.fresh (Nat.le_refl _)
  have I2 : Inv X pins σ (upd H1 s1.heap.objs.size (skO X.w s1.heap.objs.size L)) { s1 with heap := h', toks := tk } := I1.laid (t' := tk) kp (Nat.le_refl _) (sk_ok R)
  obtain ⟨_, _, _, _, _, _, _, nd, _⟩ := _root_.id R
  have gl := g.len
  exact hr pins _ σ _ [.ref s1.heap.objs.size] [.ref s1.heap.objs.size] Q I2 (.cons rfl .nil) (fin _ L nn nd (fun k => by rw [g.mem, List.take_length]) (by omega))
noncomputable def eSetL (d : Den) (kk : List PyData → M W) : Den := fun ws h => bindM (d ws h) fun x h1 => match x with
  | .d (.list ds) => if ds.all okK = true ∧ ds.length < 64 then kk (nubD ds) h1 else none
  | _ => none
noncomputable def eSortL (d : Den) : Den := eSetL d fun acc h2 => optM (if okS acc then some (W.d (.list (sortD acc))) else none) h2
theorem snL_core {Wx : WX} {a : Expr} {d : Den} {kk : List PyData → M W} {r : List V → Hp → VK → Prop} (ha : SndE X a d) (tk : Takes X Wx) (σ : L2.St) (H : Hp) (Q : VK)
    (hk : ∀ {th : Th} {h : WH} {H : Hp} {acc : List PyData} {L : List Key} {D : Addr}, RelH X.K (X.mg, X.w) th h H → H D = none → acc.Perm (L.map keyD) → L.length < 64 → Goes X.K (X.mg, X.w) th h H (kk acc h) (okV X.K (X.mg, X.w) Q) (badW X.K (X.mg, X.w) Wx σ) → r [.ref D] (upd H D (skO X.w D L)) Q)
    (q : rdE X.K (X.mg, X.w) Wx (eSetL d kk) σ H Q) : tSetL X (rdE X.K (X.mg, X.w) Wx d) r σ H Q := by
  obtain ⟨th, h, ws, rs, rh, g⟩ := q
  refine ⟨th, h, ws, rs, rh, (Goes.bind g).imp (fun x th1 h1 H1 s1 r1 g1 v rv => ?_) fun _ _ _ _ _ _ _ z => z⟩
  split at g1
  case h_2 => exact g1.elim
  rename_i ds
  split at g1
  case isFalse => exact g1.elim
  rename_i ok
  obtain ⟨okn, few⟩ := ok
  cases rv with
  | lst e fz =>
    obtain ⟨ks, e1, e2⟩ := keys_back fz (List.all_eq_true.mp okn)
    subst e1
    have ll : ks.length = ds.length := by rw [← e2, List.length_map]
    refine ⟨_, ks, rfl, hid_Le.sqL (.inl (.inl e)), by omega, fun D L nD nd mem sm => ?_⟩
    refine hk r1 nD ?_ sm g1
    refine (List.perm_ext_iff_of_nodup (nub_nodup ds) (List.pairwise_map.mpr (nd.imp fun {a b} ne e => ne (keyD_inj e)))).mpr fun x => ?_
    rw [nub_mem, ← e2, List.mem_map, List.mem_map]
    exact ⟨fun ⟨k, m, e⟩ => ⟨k, (mem k).mpr m, e⟩, fun ⟨k, m, e⟩ => ⟨k, (mem k).mp m, e⟩⟩
variable {a : Expr} {d : Den} {p p2 q pos : Pos}
theorem sn_sortL (hu : X.A.units + 65 < cLine) (hc : X.calm = true) (hg : Gl X "sorted") (hm : X.mg "sorted" = none) (hv : bootBuiltins "sorted" = some (.builtin "sorted")) (hg2 : Gl X "set") (hm2 : X.mg "set" = none) (ha : SndE X a d) (na : starEach [a] X.env = (false, eval a X.env) :: starEach [] X.env := by rfl) :
    SndE X (.Call (.Name "sorted" p) [.Call (.Name "set" p2) [a] [] q] [] pos) (eSortL d) := fun Wx tk =>
  pe_imp (pe_setL (cr_sortK hu hc) hc hg hm hv hg2 hm2 (ha Wx tk) (by decide) (by decide) na) fun σ H Q q => snL_core ha tk σ H Q (fun {th h H acc L D} rh nD pm sm g => by
    by_cases ok : okS acc = true
    · rw [if_pos ok] at g
      obtain ⟨al, sb, _⟩ := okS_permK pm ok
      obtain ⟨s1, r1, _⟩ := rh.fresh (o := skO X.w D L) nD
      refine ⟨D, L, rfl, upd_same, sm, al, sb, fun p Ls nn pm2 es => ?_⟩
      obtain ⟨s2, r2, z⟩ := r1.fresh nn (o := .lst (Ls.map kV))
      exact g _ _ (s1.trans s2) r2 (.ref p) (.lst z (keys_putK ok pm es))
    · rw [if_neg ok] at g; exact g.elim) q
end
end L3

namespace K06
open PySem PySem.Spec PyProof.Rows L2 L3
def topS (i : Nat) : Stmt := PySem.Challenge.pw_crossrank_k06_kinds_of_values.main.body.getD i (.Pass ⟨0, 0, 0, 0⟩)
abbrev s_kinds_of : Stmt := topS 1
theorem sc_kinds_of : FnScope ["values", "value"] ["values"] (defScope s_kinds_of) := ⟨rfl, rfl, rfl, by decide +kernel, rfl, by decide +kernel, by decide +kernel⟩
abbrev s_of_kind : Stmt := topS 2
theorem sc_of_kind : FnScope ["values", "kind", "value"] ["values", "kind"] (defScope s_of_kind) := ⟨rfl, rfl, rfl, by decide +kernel, rfl, by decide +kernel, by decide +kernel⟩
abbrev s_law_pen : Stmt := topS 4
theorem sc_law_pen : FnScope ["_law_script"] ["_law_script"] (defScope s_law_pen) := ⟨rfl, rfl, rfl, by decide +kernel, rfl, by decide +kernel, by decide +kernel⟩
abbrev s_law_draw : Stmt := topS 5
theorem sc_law_draw : FnScope ["_law_pen_here", "_law_bound", "_law_digit", "_law_index", "_law_cell", "_law_great", "_law_mixed"] ["_law_pen_here", "_law_bound"] (defScope s_law_draw) := ⟨rfl, rfl, rfl, by decide +kernel, rfl, by decide +kernel, by decide +kernel⟩
abbrev s_law_names : Stmt := topS 6
theorem sc_law_names : FnScope ["_law_pen_here", "_law_many", "_law_letters", "_law_way", "_law_start", "_law_found", "_law_k", "_law_name", "_law_tail", "_law_j"] ["_law_pen_here", "_law_many"] (defScope s_law_names) := ⟨rfl, rfl, rfl, by decide +kernel, rfl, by decide +kernel, by decide +kernel⟩
abbrev s_law_numbers : Stmt := topS 7
theorem sc_law_numbers : FnScope ["_law_pen_here", "_law_way", "_law_size", "_law_one", "_law_two", "_law_some_here"] ["_law_pen_here", "_law_way", "_law_size"] (defScope s_law_numbers) := ⟨rfl, rfl, rfl, by decide +kernel, rfl, by decide +kernel, by decide +kernel⟩
abbrev s_law_bag : Stmt := topS 8
theorem sc_law_bag : FnScope ["_law_pen_here", "_law_names_here", "_law_most", "_law_size", "_law_way", "_law_mixed", "_law_found", "_law_k", "_law_label", "_law_own", "_law_measure"] ["_law_pen_here", "_law_names_here", "_law_most"] (defScope s_law_bag) := ⟨rfl, rfl, rfl, by decide +kernel, rfl, by decide +kernel, by decide +kernel⟩
abbrev s_law_some : Stmt := topS 9
theorem sc_law_some : FnScope ["_law_pen_here", "_law_things", "_law_most", "_law_many", "_law_k"] ["_law_pen_here", "_law_things", "_law_most"] (defScope s_law_some) := ⟨rfl, rfl, rfl, by decide +kernel, rfl, by decide +kernel, by decide +kernel⟩
abbrev s_law : Stmt := topS 10
theorem sc_law : FnScope ["_law_script", "_law_pen_here", "_law_turn", "_law_names_here", "_law_bag_here", "_law_kept", "_law_kinds", "_law_whole", "_law_name", "_law_due", "_law_value"] ["_law_script"] (defScope s_law) := ⟨rfl, rfl, rfl, by decide +kernel, rfl, by decide +kernel, by decide +kernel⟩
def g_bn0 (ws us : List W) : List W := pick [0, 1] (ws ++ us)
def g_bn1 (ws us : List W) : List W := pick [0, 1, 2] (ws ++ us)
def g_bn2 (ws us : List W) : List W := pick [0, 1] (ws ++ us)
def g_bn3 (ws us : List W) : List W := pick [0] (ws ++ us)
def g_bn4 (ws us : List W) : List W := pick [1, 0] (ws ++ us)
def g_bn5 (ws us : List W) : List W := pick [0] (ws ++ us)
def g_bn6 (ws us : List W) : List W := pick [0, 1, 2] (ws ++ us)
def g_bn7 (ws us : List W) : List W := pick [0, 1] (ws ++ us)
def g_bn8 (ws us : List W) : List W := pick [0] (ws ++ us)
noncomputable def d_kinds_of : S :=
    sRet (eB gTuple (aCons (eSortK [1] (iVal (eVar 0)) (.one 1) (tTrue) (eOp gIx (eVar 1) (eC (.d (.int 0))))) (aNil)))
noncomputable def m_kinds_of : List W → M W := fnM 1 2 d_kinds_of
noncomputable def d_of_kind : S :=
    sRet (eB gTuple (aCons (eB gSorted (aCons (eComp [2] (iVal (eVar 0)) (.one 2) (tB (eOp gEqS (eOp gIx (eVar 2) (eC (.d (.int 0)))) (eVar 1))) (eVar 2)) (aNil))) (aNil)))
noncomputable def m_of_kind : List W → M W := fnM 2 3 d_of_kind
noncomputable def m_law_pen : List W → M W := M_pen
noncomputable def m_law_draw : List W → M W := M_drawA 40177 1361 2147483423 40177 1361 2147483629 30071 60101 2147483587
noncomputable def m_law_names : List W → M W := M_namesA m_law_draw
noncomputable def m_law_numbers : List W → M W := M_numbersA m_law_draw
noncomputable def m_law_bag : List W → M W := M_bagA m_law_draw m_law_numbers
noncomputable def m_law_some : List W → M W := M_someA m_law_draw
noncomputable def d_law : S :=
    sSeq (sSet 1 (eCall 1 0 g_bn8 m_law_pen (aCons (eVar 0) (aNil)) (aNil))) <|
    sSeq (sFor (iRange1 (eC (.d (.int 4)))) (gName1 2) (sSeq (sSet 3 (eCall 2 0 g_bn7 m_law_names (aCons (eVar 1) (aCons (eOp gAdd (eC (.d (.int 1))) (eCall 2 0 g_bn0 m_law_draw (aCons (eVar 1) (aCons (eC (.d (.int 6))) (aNil))) (aNil))) (aNil))) (aNil))) <|
    sSeq (sSet 4 (eCall 3 0 g_bn6 m_law_bag (aCons (eVar 1) (aCons (eVar 3) (aCons (eC (.d (.int 40))) (aNil)))) (aNil))) <|
    sSeq (sSet 5 (eB gRepr (aCons (eVar 4) (aNil)))) <|
    sSeq (sSet 6 (eB gTuple (aCons (eSortL (eComp [10] (iVal (eVar 4)) (.one 10) (tTrue) (eOp gIx (eVar 10) (eC (.d (.int 0)))))) (aNil)))) <|
    sSeq (sIf (tB (eOp gNeS (eB gRepr (aCons (eLst (aCons (eCall 1 0 g_bn3 m_kinds_of (aCons (eVar 4) (aNil)) (aNil)) (aCons (eCall 1 0 g_bn3 m_kinds_of (aCons (eB gTuple (aCons (eVar 4) (aNil))) (aNil)) (aNil)) (aCons (eCall 0 1 g_bn5 m_kinds_of (aNil) (aCons (eUn gRev (eVar 4)) (aNil))) (aNil))))) (aNil))) (eB gRepr (aCons (eOp gMulT (eLst (aCons (eVar 6) (aNil))) (eC (.d (.int 3)))) (aNil))))) (sRet (eC (.d (.bool false)))) (sSkip)) <|
    sSeq (sSet 7 (eLst (aNil))) <|
    sSeq (sFor (iVal (eOp gAdd (eVar 3) (eLst (aCons (eC (.d (.str "q"))) (aCons (eOp gAdd (eSlice (eOp gIx (eVar 3) (eC (.d (.int 0)))) (pNone) (pSome (eC (.d (.int 7))))) (eC (.d (.str "q")))) (aCons (eSlice (eOp gIx (eVar 3) (eC (.d (.int 0)))) (pNone) (pSome (eC (.d (.int 1))))) (aNil))))))) (gName1 8) (sSeq (sSet 9 (eB gTuple (aCons (eB gSorted (aCons (eComp [10] (iVal (eVar 4)) (.one 10) (tB (eOp gEqS (eOp gIx (eVar 10) (eC (.d (.int 0)))) (eVar 8))) (eVar 10)) (aNil))) (aNil)))) <|
    sSeq (sIf (tB (eOp gNeS (eB gRepr (aCons (eLst (aCons (eCall 2 0 g_bn2 m_of_kind (aCons (eVar 4) (aCons (eVar 8) (aNil))) (aNil)) (aCons (eCall 0 2 g_bn4 m_of_kind (aNil) (aCons (eVar 8) (aCons (eB gTuple (aCons (eVar 4) (aNil))) (aNil)))) (aNil)))) (aNil))) (eB gRepr (aCons (eLst (aCons (eVar 9) (aCons (eVar 9) (aNil)))) (aNil))))) (sRet (eC (.d (.bool false)))) (sSkip)) <|
    sSet 7 (eOp gAdd (eVar 7) (eComp [10] (iVal (eVar 9)) (.one 10) (tAndM (tB (eOp gIn (eVar 8) (eVar 3))) (tB (eOp gNotIn (eVar 10) (eVar 7)))) (eVar 10))))) <|
    sIf (tOrM (tB (eOp gNeS (eB gSorted (aCons (eVar 7) (aNil))) (eB gSorted (aCons (eVar 4) (aNil))))) (tB (eOp gNeS (eB gRepr (aCons (eVar 4) (aNil))) (eVar 5)))) (sRet (eC (.d (.bool false)))) (sSkip))) <|
    sRet (eAnd (eOp gEqS (eCall 1 0 g_bn3 m_kinds_of (aCons (eLst (aNil)) (aNil)) (aNil)) (eTup (aNil))) (eOp gEqS (eCall 2 0 g_bn2 m_of_kind (aCons (eLst (aNil)) (aCons (eC (.d (.str "a"))) (aNil))) (aNil)) (eTup (aNil))))
noncomputable def m_law : List W → M W := fnM 1 11 d_law
structure Txt (K : PySem.W.Frag) (mg : Str → Option Value) where
  a_kinds_of : Addr
  fd_kinds_of : FuncData
  D_kinds_of : FunD K "kinds_of" "kinds_of" (defArgs s_kinds_of) (defBody s_kinds_of) (defScope s_kinds_of) [] [] a_kinds_of fd_kinds_of
  h_kinds_of : mg "kinds_of" = some (.ref a_kinds_of)
  a_of_kind : Addr
  fd_of_kind : FuncData
  D_of_kind : FunD K "of_kind" "of_kind" (defArgs s_of_kind) (defBody s_of_kind) (defScope s_of_kind) [] [] a_of_kind fd_of_kind
  h_of_kind : mg "of_kind" = some (.ref a_of_kind)
  a_law_pen : Addr
  fd_law_pen : FuncData
  D_law_pen : FunD K "_law_pen" "_law_pen" (defArgs s_law_pen) (defBody s_law_pen) (defScope s_law_pen) [] [] a_law_pen fd_law_pen
  h_law_pen : mg "_law_pen" = some (.ref a_law_pen)
  a_law_draw : Addr
  fd_law_draw : FuncData
  D_law_draw : FunD K "_law_draw" "_law_draw" (defArgs s_law_draw) (defBody s_law_draw) (defScope s_law_draw) [] [] a_law_draw fd_law_draw
  h_law_draw : mg "_law_draw" = some (.ref a_law_draw)
  a_law_names : Addr
  fd_law_names : FuncData
  D_law_names : FunD K "_law_names" "_law_names" (defArgs s_law_names) (defBody s_law_names) (defScope s_law_names) [] [] a_law_names fd_law_names
  h_law_names : mg "_law_names" = some (.ref a_law_names)
  a_law_numbers : Addr
  fd_law_numbers : FuncData
  D_law_numbers : FunD K "_law_numbers" "_law_numbers" (defArgs s_law_numbers) (defBody s_law_numbers) (defScope s_law_numbers) [] [] a_law_numbers fd_law_numbers
  h_law_numbers : mg "_law_numbers" = some (.ref a_law_numbers)
  a_law_bag : Addr
  fd_law_bag : FuncData
  D_law_bag : FunD K "_law_bag" "_law_bag" (defArgs s_law_bag) (defBody s_law_bag) (defScope s_law_bag) [] [] a_law_bag fd_law_bag
  h_law_bag : mg "_law_bag" = some (.ref a_law_bag)
  a_law_some : Addr
  fd_law_some : FuncData
  D_law_some : FunD K "_law_some" "_law_some" (defArgs s_law_some) (defBody s_law_some) (defScope s_law_some) [] [] a_law_some fd_law_some
  h_law_some : mg "_law_some" = some (.ref a_law_some)
  a_law : Addr
  fd_law : FuncData
  D_law : FunD K "law" "law" (defArgs s_law) (defBody s_law) (defScope s_law) [] [] a_law fd_law
  h_law : mg "law" = some (.ref a_law)
  z_abs : mg "abs" = none
  z_int : mg "int" = none
  z_len : mg "len" = none
  z_list : mg "list" = none
  z_min : mg "min" = none
  z_range : mg "range" = none
  z_repr : mg "repr" = none
  z_set : mg "set" = none
  z_sorted : mg "sorted" = none
  z_tuple : mg "tuple" = none
section
variable {P : Program} {w : World} {K : PySem.W.Frag} {mg : Str → Option Value} {base : Heap}
theorem bn0 (T : Txt K mg) : Bnd K mg T.fd_law_draw ["_law_pen_here", "_law_bound"] 2 [] g_bn0 :=
  bndP T.D_law_draw 2 [] [0, 1] rfl (by decide) (fun _ _ _ _ _ _ us ws l1 l2 => match us, ws, l1, l2 with | [_, _], [], _, _ => rfl)
theorem bn1 (T : Txt K mg) : Bnd K mg T.fd_law_numbers ["_law_pen_here", "_law_way", "_law_size"] 3 [] g_bn1 :=
  bndP T.D_law_numbers 3 [] [0, 1, 2] rfl (by decide) (fun _ _ _ _ _ _ us ws l1 l2 => match us, ws, l1, l2 with | [_, _, _], [], _, _ => rfl)
theorem bn2 (T : Txt K mg) : Bnd K mg T.fd_of_kind ["values", "kind"] 2 [] g_bn2 :=
  bndP T.D_of_kind 2 [] [0, 1] rfl (by decide) (fun _ _ _ _ _ _ us ws l1 l2 => match us, ws, l1, l2 with | [_, _], [], _, _ => rfl)
theorem bn3 (T : Txt K mg) : Bnd K mg T.fd_kinds_of ["values"] 1 [] g_bn3 :=
  bndP T.D_kinds_of 1 [] [0] rfl (by decide) (fun _ _ _ _ _ _ us ws l1 l2 => match us, ws, l1, l2 with | [_], [], _, _ => rfl)
theorem bn4 (T : Txt K mg) : Bnd K mg T.fd_of_kind ["values", "kind"] 0 ["kind", "values"] g_bn4 :=
  bndP T.D_of_kind 0 ["kind", "values"] [1, 0] rfl (by decide) (fun _ _ _ _ _ _ us ws l1 l2 => match us, ws, l1, l2 with | [], [_, _], _, _ => rfl)
theorem bn5 (T : Txt K mg) : Bnd K mg T.fd_kinds_of ["values"] 0 ["values"] g_bn5 :=
  bndP T.D_kinds_of 0 ["values"] [0] rfl (by decide) (fun _ _ _ _ _ _ us ws l1 l2 => match us, ws, l1, l2 with | [], [_], _, _ => rfl)
theorem bn6 (T : Txt K mg) : Bnd K mg T.fd_law_bag ["_law_pen_here", "_law_names_here", "_law_most"] 3 [] g_bn6 :=
  bndP T.D_law_bag 3 [] [0, 1, 2] rfl (by decide) (fun _ _ _ _ _ _ us ws l1 l2 => match us, ws, l1, l2 with | [_, _, _], [], _, _ => rfl)
theorem bn7 (T : Txt K mg) : Bnd K mg T.fd_law_names ["_law_pen_here", "_law_many"] 2 [] g_bn7 :=
  bndP T.D_law_names 2 [] [0, 1] rfl (by decide) (fun _ _ _ _ _ _ us ws l1 l2 => match us, ws, l1, l2 with | [_, _], [], _, _ => rfl)
theorem bn8 (T : Txt K mg) : Bnd K mg T.fd_law_pen ["_law_script"] 1 [] g_bn8 :=
  bndP T.D_law_pen 1 [] [0] rfl (by decide) (fun _ _ _ _ _ _ us ws l1 l2 => match us, ws, l1, l2 with | [_], [], _, _ => rfl)
theorem ok_kinds_of (T : Txt K mg) : FnG P w K mg base 1 T.a_kinds_of T.fd_kinds_of ["values"] m_kinds_of :=
  fnG_of (FunT.of T.D_kinds_of) sc_kinds_of fun cdv A outer s H E hr =>
    have scND := sc_kinds_of.nd
    sb_one (ss_ret (sn_callTy cs_tuple rfl T.z_tuple (by decide +kernel) (sa_cons (sn_sortK (own := [("value", 1)]) hr.u65 rfl scND rfl T.z_sorted (by decide +kernel) (CompIn.mk (own := [("value", 1)]) (t := .one 1) (blkOk_by (N := ["values", "value"]) (sc := defScope s_kinds_of) (by decide +kernel)) (by decide) (fun _ _ _ _ _ => tgV 1 (scND)) (fun _ _ _ _ _ => sts_nil) (fun _ _ _ _ _ => sn_ix (vr 1) (sn_int))) (si_val (vr 0)) (gd_val _)) (sa_nil))))
theorem ok_of_kind (T : Txt K mg) : FnG P w K mg base 1 T.a_of_kind T.fd_of_kind ["values", "kind"] m_of_kind :=
  fnG_of (FunT.of T.D_of_kind) sc_of_kind fun cdv A outer s H E hr =>
    have scND := sc_of_kind.nd
    sb_one (ss_ret (sn_callTy cs_tuple rfl T.z_tuple (by decide +kernel) (sa_cons (sn_callB (cs_sorted hr.u65) rfl T.z_sorted (by decide +kernel) (sa_cons (sn_comp (own := [("value", 2)]) rfl scND (CompIn.mk (own := [("value", 2)]) (t := .one 2) (blkOk_by (N := ["values", "kind", "value"]) (sc := defScope s_of_kind) (by decide +kernel)) (by decide) (fun _ _ _ _ _ => tgV 2 (scND)) (fun _ _ _ _ _ => sts_one (st_cmp (os_eqS hr.u64) (sn_ix (vr 2) (sn_int)) (vr 1) (nomark _))) (fun _ _ _ _ _ => vr 2)) (si_val (vr 0)) (gd_val _)) (sa_nil))) (sa_nil))))
theorem ok_law_pen (T : Txt K mg) : FnG P w K mg base 1 T.a_law_pen T.fd_law_pen ["_law_script"] m_law_pen :=
  fnK_of (FunT.of T.D_law_pen) sc_law_pen fun cdv A outer s H E hr =>
    have scND := sc_law_pen.nd
    sb_one (ss_ret (sn_new (sa_cons (sn_callTy cs_list rfl T.z_list (by decide +kernel) (sa_cons (sn_slice (vr 0) (sp_none) (sp_some (sn_int))) (sa_nil))) (sa_cons (sn_int) (sa_cons (sn_int) (sa_nil))))))
theorem ok_law_draw (T : Txt K mg) : FnG P w K mg base 1 T.a_law_draw T.fd_law_draw ["_law_pen_here", "_law_bound"] m_law_draw :=
  fnG_of (FunT.of T.D_law_draw) sc_law_draw fun cdv A outer s H E hr =>
    have scND := sc_law_draw.nd
    sb_cons (ss_if (st_cmp os_gt (sn_ix (vr 0) (sn_int)) (sn_int) (nomark _)) (sb_cons (setS 2 (sn_op os_mod (sn_ix (vr 0) (sn_int)) (vr 1)) scND) <|
    sb_cons (ss_asg (sn_op os_fdiv (sn_ix (vr 0) (sn_int)) (vr 1)) (sg_sub (vr 0) (sn_int))) <|
    sb_one (ss_ret (vr 2))) (sb_nil)) <|
    sb_cons (setS 3 (sn_ix (vr 0) (sn_int)) scND) <|
    sb_cons (ss_asg (sn_op os_add (vr 3) (sn_int)) (sg_sub (vr 0) (sn_int))) <|
    sb_cons (setS 4 (sn_op os_add (sn_op os_mulT (sn_int) (vr 3)) (sn_int)) scND) <|
    sb_cons (ss_if (st_cmp (os_neS hr.u64) (sn_ix (vr 0) (sn_int)) (sn_lst (sa_nil)) (nomark _)) (sb_one (setS 4 (sn_ix (sn_ix (vr 0) (sn_int)) (sn_op os_mod (vr 3) (sn_callB cs_len rfl T.z_len (by decide +kernel) (sa_cons (sn_ix (vr 0) (sn_int)) (sa_nil))))) scND)) (sb_nil)) <|
    sb_cons (ss_if (SndW.t (st_and (st_cmp os_lt (vr 3) (sn_callB cs_len rfl T.z_len (by decide +kernel) (sa_cons (sn_ix (vr 0) (sn_int)) (sa_nil))) (nomark _)) (st_and1 (st_cmp os_ge (sn_callB cs_abs rfl T.z_abs (by decide +kernel) (sa_cons (vr 4) (sa_nil))) (sn_op os_pow (sn_int) (sn_int)) (nomark _))))) (sb_cons (setS 5 (sn_op os_add (sn_op os_mulT (sn_int) (sn_callB cs_abs rfl T.z_abs (by decide +kernel) (sa_cons (vr 4) (sa_nil)))) (sn_callTy cs_int1 rfl T.z_int (by decide +kernel) (sa_cons (sn_cmp os_lt (vr 4) (sn_int) (nomark _)) (sa_nil)))) scND) <|
    sb_cons (ss_asg (sn_op os_fdiv (vr 5) (vr 1)) (sg_sub (vr 0) (sn_int))) <|
    sb_one (ss_ret (sn_op os_mod (vr 5) (vr 1)))) (sb_nil)) <|
    sb_cons (setS 6 (sn_op os_mod (sn_op os_pow (sn_op os_add (sn_op os_add (sn_op os_mod (vr 4) (sn_int)) (sn_op os_mulT (sn_int) (vr 3))) (sn_int)) (sn_int)) (sn_int)) scND) <|
    sb_cons (setS 6 (sn_op os_mod (sn_op os_pow (sn_op os_add (sn_op os_add (sn_op os_mulT (vr 6) (sn_op os_add (vr 3) (sn_int))) (sn_op os_mulT (sn_op os_mulT (sn_int) (vr 3)) (vr 3))) (sn_int)) (sn_int)) (sn_int)) scND) <|
    sb_one (ss_ret (sn_op os_mod (sn_op os_fdiv (vr 6) (sn_int)) (vr 1)))
theorem ok_law_names (T : Txt K mg) (G_law_draw : FnG P w K mg base 1 T.a_law_draw T.fd_law_draw ["_law_pen_here", "_law_bound"] m_law_draw) : FnG P w K mg base 2 T.a_law_names T.fd_law_names ["_law_pen_here", "_law_many"] m_law_names :=
  fnG_of (FunT.of T.D_law_names) sc_law_names fun cdv A outer s H E hr =>
    have scND := sc_law_names.nd
    sb_cons (setS 2 (sn_str) scND) <|
    sb_cons (setS 3 (sn_call (ks := []) G_law_draw (hr.mono (by decide)) rfl T.h_law_draw T.D_law_draw.kp (bn0 T) (sa_cons (vr 0) (sa_cons (sn_int) (sa_nil))) (sk_nil)) scND) <|
    sb_cons (setS 4 (sn_call (ks := []) G_law_draw (hr.mono (by decide)) rfl T.h_law_draw T.D_law_draw.kp (bn0 T) (sa_cons (vr 0) (sa_cons (sn_int) (sa_nil))) (sk_nil)) scND) <|
    sb_cons (setS 5 (sn_new (sa_nil)) scND) <|
    sb_cons (ss_for rfl (si_range1 rfl T.z_range (vr 1)) (tgN 6 scND) (sb_cons (setS 7 (sn_ix (vr 2) (sn_op os_mod (sn_op os_add (vr 4) (sn_op os_mulT (sn_int) (vr 6))) (sn_int))) scND) <|
    sb_cons (ss_setComp 8 rfl rfl scND rfl rfl (sw_true rfl rfl rfl (by decide +kernel)) (CompIn.mk (own := [("_law_j", 9)]) (t := .one 9) (blkOk_by (N := ["_law_pen_here", "_law_many", "_law_letters", "_law_way", "_law_start", "_law_found", "_law_k", "_law_name", "_law_tail", "_law_j"]) (sc := defScope s_law_names) (by decide +kernel)) (by decide) (fun _ _ _ _ _ => tgV 9 (scND)) (fun _ _ _ _ _ => sts_nil) (fun _ _ _ _ _ => sn_ix (vr 2) (sn_call (ks := []) G_law_draw (hr.mono (by decide)) rfl T.h_law_draw T.D_law_draw.kp (bn0 T) (sa_cons (vr 0) (sa_cons (sn_int) (sa_nil))) (sk_nil)))) (si_range1 rfl T.z_range (sn_call (ks := []) G_law_draw (hr.mono (by decide)) rfl T.h_law_draw T.D_law_draw.kp (bn0 T) (sa_cons (vr 0) (sa_cons (sn_int) (sa_nil))) (sk_nil))) (gd_r1 _) rd_data) <|
    sb_one (ss_do (sn_lm PySem.F.slot_list_append PySem.F.type_list_append ms_append (vr 5) (sa_cons (sn_ix (sn_lst (sa_cons (sn_ix (vr 2) (vr 6)) (sa_cons (vr 7) (sa_cons (sn_op os_add (sn_str) (vr 7)) (sa_cons (sn_op os_add (vr 7) (sn_sm1 F.slot_str_join F.type_str_join sm_join (sn_str) (vr 8))) (sa_nil)))))) (vr 3)) (sa_nil))))) (gd_r1 _)) <|
    sb_one (ss_ret (vr 5))
theorem ok_law_numbers (T : Txt K mg) (G_law_draw : FnG P w K mg base 1 T.a_law_draw T.fd_law_draw ["_law_pen_here", "_law_bound"] m_law_draw) : FnG P w K mg base 2 T.a_law_numbers T.fd_law_numbers ["_law_pen_here", "_law_way", "_law_size"] m_law_numbers :=
  fnG_of (FunT.of T.D_law_numbers) sc_law_numbers fun cdv A outer s H E hr =>
    have scND := sc_law_numbers.nd
    sb_cons (setS 3 (sn_call (ks := []) G_law_draw (hr.mono (by decide)) rfl T.h_law_draw T.D_law_draw.kp (bn0 T) (sa_cons (vr 0) (sa_cons (sn_op os_add (vr 2) (sn_int)) (sa_nil))) (sk_nil)) scND) <|
    sb_cons (setS 4 (sn_call (ks := []) G_law_draw (hr.mono (by decide)) rfl T.h_law_draw T.D_law_draw.kp (bn0 T) (sa_cons (vr 0) (sa_cons (sn_int) (sa_nil))) (sk_nil)) scND) <|
    sb_cons (setS 5 (sn_lst (sa_cons (sn_tup (sa_cons (vr 3) (sa_cons (sn_call (ks := []) G_law_draw (hr.mono (by decide)) rfl T.h_law_draw T.D_law_draw.kp (bn0 T) (sa_cons (vr 0) (sa_cons (sn_op os_add (vr 2) (sn_int)) (sa_nil))) (sk_nil)) (sa_nil)))) (sa_cons (sn_tup (sa_cons (sn_op os_sub (vr 2) (vr 3)) (sa_cons (sn_op os_add (vr 3) (sn_op os_fdiv (vr 4) (sn_int))) (sa_nil)))) (sa_cons (sn_tup (sa_cons (vr 4) (sa_cons (vr 3) (sa_nil)))) (sa_cons (sn_tup (sa_cons (vr 3) (sa_cons (vr 4) (sa_nil)))) (sa_nil)))))) scND) <|
    sb_one (ss_ret (sn_ix (sn_op os_add (vr 5) (sn_lst (sa_cons (sn_tup (sa_cons (sn_op os_sub (sn_op os_sub (sn_op os_pow (sn_int) (sn_int)) (sn_int)) (vr 3)) (sa_cons (sn_op os_add (sn_op os_sub (sn_int) (sn_op os_pow (sn_int) (sn_int))) (vr 4)) (sa_nil)))) (sa_cons (sn_tup (sa_cons (sn_op os_sub (vr 3) (sn_op os_fdiv (vr 2) (sn_int))) (sa_cons (sn_op os_sub (sn_int) (vr 3)) (sa_nil)))) (sa_nil))))) (vr 1)))
theorem ok_law_bag (T : Txt K mg) (G_law_draw : FnG P w K mg base 1 T.a_law_draw T.fd_law_draw ["_law_pen_here", "_law_bound"] m_law_draw) (G_law_numbers : FnG P w K mg base 2 T.a_law_numbers T.fd_law_numbers ["_law_pen_here", "_law_way", "_law_size"] m_law_numbers) : FnG P w K mg base 3 T.a_law_bag T.fd_law_bag ["_law_pen_here", "_law_names_here", "_law_most"] m_law_bag :=
  fnG_of (FunT.of T.D_law_bag) sc_law_bag fun cdv A outer s H E hr =>
    have scND := sc_law_bag.nd
    sb_cons (setS 3 (sn_ix (sn_lst (sa_cons (vr 2) (sa_cons (sn_call (ks := []) G_law_draw (hr.mono (by decide)) rfl T.h_law_draw T.D_law_draw.kp (bn0 T) (sa_cons (vr 0) (sa_cons (sn_op os_add (vr 2) (sn_int)) (sa_nil))) (sk_nil)) (sa_cons (sn_callB (cs_min2 rfl) rfl T.z_min (by decide +kernel) (sa_cons (vr 2) (sa_cons (sn_op os_add (sn_int) (sn_call (ks := []) G_law_draw (hr.mono (by decide)) rfl T.h_law_draw T.D_law_draw.kp (bn0 T) (sa_cons (vr 0) (sa_cons (sn_int) (sa_nil))) (sk_nil))) (sa_nil)))) (sa_nil))))) (sn_call (ks := []) G_law_draw (hr.mono (by decide)) rfl T.h_law_draw T.D_law_draw.kp (bn0 T) (sa_cons (vr 0) (sa_cons (sn_int) (sa_nil))) (sk_nil))) scND) <|
    sb_cons (setS 4 (sn_call (ks := []) G_law_draw (hr.mono (by decide)) rfl T.h_law_draw T.D_law_draw.kp (bn0 T) (sa_cons (vr 0) (sa_cons (sn_int) (sa_nil))) (sk_nil)) scND) <|
    sb_cons (setS 5 (sn_cmp (os_eqS hr.u64) (sn_call (ks := []) G_law_draw (hr.mono (by decide)) rfl T.h_law_draw T.D_law_draw.kp (bn0 T) (sa_cons (vr 0) (sa_cons (sn_int) (sa_nil))) (sk_nil)) (sn_int) (nomark _)) scND) <|
    sb_cons (setS 6 (sn_new (sa_nil)) scND) <|
    sb_cons (ss_for rfl (si_range1 rfl T.z_range (vr 3)) (tgN 7 scND) (sb_cons (setS 8 (sn_ix (vr 1) (sn_call (ks := []) G_law_draw (hr.mono (by decide)) rfl T.h_law_draw T.D_law_draw.kp (bn0 T) (sa_cons (vr 0) (sa_cons (sn_callB cs_len rfl T.z_len (by decide +kernel) (sa_cons (vr 1) (sa_nil))) (sa_nil))) (sk_nil))) scND) <|
    sb_cons (ss_asg (sn_call (ks := []) G_law_numbers (hr.mono (by decide)) rfl T.h_law_numbers T.D_law_numbers.kp (bn1 T) (sa_cons (vr 0) (sa_cons (sn_ix (sn_lst (sa_cons (vr 4) (sa_cons (sn_call (ks := []) G_law_draw (hr.mono (by decide)) rfl T.h_law_draw T.D_law_draw.kp (bn0 T) (sa_cons (vr 0) (sa_cons (sn_int) (sa_nil))) (sk_nil)) (sa_nil)))) (sn_callTy cs_int1 rfl T.z_int (by decide +kernel) (sa_cons (vr 5) (sa_nil)))) (sa_cons (vr 3) (sa_nil)))) (sk_nil)) (sg_names rfl (na_cons 9 scND (na_cons 10 scND (na_nil))))) <|
    sb_cons (ss_while 4096 (st_cmp (os_in hr.u65) (sn_tup (sa_cons (vr 8) (sa_cons (vr 9) (sa_cons (vr 10) (sa_nil))))) (vr 6) rfl) (sb_one (setS 9 (sn_op os_sub (vr 9) (sn_int)) scND))) <|
    sb_one (ss_do (sn_lm PySem.F.slot_list_insert PySem.F.type_list_insert ms_insert (vr 6) (sa_cons (sn_call (ks := []) G_law_draw (hr.mono (by decide)) rfl T.h_law_draw T.D_law_draw.kp (bn0 T) (sa_cons (vr 0) (sa_cons (sn_op os_add (sn_callB cs_len rfl T.z_len (by decide +kernel) (sa_cons (vr 6) (sa_nil))) (sn_int)) (sa_nil))) (sk_nil)) (sa_cons (sn_tup (sa_cons (vr 8) (sa_cons (vr 9) (sa_cons (vr 10) (sa_nil))))) (sa_nil)))))) (gd_r1 _)) <|
    sb_one (ss_ret (vr 6))
theorem ok_law_some (T : Txt K mg) (G_law_draw : FnG P w K mg base 1 T.a_law_draw T.fd_law_draw ["_law_pen_here", "_law_bound"] m_law_draw) : FnG P w K mg base 2 T.a_law_some T.fd_law_some ["_law_pen_here", "_law_things", "_law_most"] m_law_some :=
  fnG_of (FunT.of T.D_law_some) sc_law_some fun cdv A outer s H E hr =>
    have scND := sc_law_some.nd
    sb_cons (setS 3 (sn_if (st_cmp (os_neS hr.u64) (vr 1) (sn_lst (sa_nil)) (nomark _)) (sn_call (ks := []) G_law_draw (hr.mono (by decide)) rfl T.h_law_draw T.D_law_draw.kp (bn0 T) (sa_cons (vr 0) (sa_cons (sn_op os_add (vr 2) (sn_int)) (sa_nil))) (sk_nil)) (sn_int)) scND) <|
    sb_one (ss_ret (sn_comp (own := [("_law_k", 4)]) rfl scND (CompIn.mk (own := [("_law_k", 4)]) (t := .one 4) (blkOk_by (N := ["_law_pen_here", "_law_things", "_law_most", "_law_many", "_law_k"]) (sc := defScope s_law_some) (by decide +kernel)) (by decide) (fun _ _ _ _ _ => tgV 4 (scND)) (fun _ _ _ _ _ => sts_nil) (fun _ _ _ _ _ => sn_ix (vr 1) (sn_call (ks := []) G_law_draw (hr.mono (by decide)) rfl T.h_law_draw T.D_law_draw.kp (bn0 T) (sa_cons (vr 0) (sa_cons (sn_callB cs_len rfl T.z_len (by decide +kernel) (sa_cons (vr 1) (sa_nil))) (sa_nil))) (sk_nil)))) (si_range1 rfl T.z_range (vr 3)) (gd_r1 _)))
theorem ok_law (T : Txt K mg) (G_kinds_of : FnG P w K mg base 1 T.a_kinds_of T.fd_kinds_of ["values"] m_kinds_of) (G_of_kind : FnG P w K mg base 1 T.a_of_kind T.fd_of_kind ["values", "kind"] m_of_kind) (G_law_pen : FnG P w K mg base 1 T.a_law_pen T.fd_law_pen ["_law_script"] m_law_pen) (G_law_draw : FnG P w K mg base 1 T.a_law_draw T.fd_law_draw ["_law_pen_here", "_law_bound"] m_law_draw) (G_law_names : FnG P w K mg base 2 T.a_law_names T.fd_law_names ["_law_pen_here", "_law_many"] m_law_names) (G_law_bag : FnG P w K mg base 3 T.a_law_bag T.fd_law_bag ["_law_pen_here", "_law_names_here", "_law_most"] m_law_bag) : FnG P w K mg base 4 T.a_law T.fd_law ["_law_script"] m_law :=
  fnG_of (FunT.of T.D_law) sc_law fun cdv A outer s H E hr =>
    have scND := sc_law.nd
    sb_cons (setS 1 (sn_call (ks := []) G_law_pen (hr.mono (by decide)) rfl T.h_law_pen T.D_law_pen.kp (bn8 T) (sa_cons (vr 0) (sa_nil)) (sk_nil)) scND) <|
    sb_cons (ss_for rfl (si_range1 rfl T.z_range (sn_int)) (tgN 2 scND) (sb_cons (setS 3 (sn_call (ks := []) G_law_names (hr.mono (by decide)) rfl T.h_law_names T.D_law_names.kp (bn7 T) (sa_cons (vr 1) (sa_cons (sn_op os_add (sn_int) (sn_call (ks := []) G_law_draw (hr.mono (by decide)) rfl T.h_law_draw T.D_law_draw.kp (bn0 T) (sa_cons (vr 1) (sa_cons (sn_int) (sa_nil))) (sk_nil))) (sa_nil))) (sk_nil)) scND) <|
    sb_cons (setS 4 (sn_call (ks := []) G_law_bag (hr.mono (by decide)) rfl T.h_law_bag T.D_law_bag.kp (bn6 T) (sa_cons (vr 1) (sa_cons (vr 3) (sa_cons (sn_int) (sa_nil)))) (sk_nil)) scND) <|
    sb_cons (setS 5 (sn_callB (cs_repr hr.gs hr.u66) rfl T.z_repr (by decide +kernel) (sa_cons (vr 4) (sa_nil))) scND) <|
    sb_cons (setS 6 (sn_callTy cs_tuple rfl T.z_tuple (by decide +kernel) (sa_cons (sn_sortL hr.u65 rfl rfl T.z_sorted (by decide +kernel) rfl T.z_set (sn_comp (own := [("_law_value", 10)]) rfl scND (CompIn.mk (own := [("_law_value", 10)]) (t := .one 10) (blkOk_by (N := ["_law_script", "_law_pen_here", "_law_turn", "_law_names_here", "_law_bag_here", "_law_kept", "_law_kinds", "_law_whole", "_law_name", "_law_due", "_law_value"]) (sc := defScope s_law) (by decide +kernel)) (by decide) (fun _ _ _ _ _ => tgV 10 (scND)) (fun _ _ _ _ _ => sts_nil) (fun _ _ _ _ _ => sn_ix (vr 10) (sn_int))) (si_val (vr 4)) (gd_val _))) (sa_nil))) scND) <|
    sb_cons (ss_if (st_cmp (os_neS hr.u64) (sn_callB (cs_repr hr.gs hr.u66) rfl T.z_repr (by decide +kernel) (sa_cons (sn_lst (sa_cons (sn_call (ks := []) G_kinds_of (hr.mono (by decide)) rfl T.h_kinds_of T.D_kinds_of.kp (bn3 T) (sa_cons (vr 4) (sa_nil)) (sk_nil)) (sa_cons (sn_call (ks := []) G_kinds_of (hr.mono (by decide)) rfl T.h_kinds_of T.D_kinds_of.kp (bn3 T) (sa_cons (sn_callTy cs_tuple rfl T.z_tuple (by decide +kernel) (sa_cons (vr 4) (sa_nil))) (sa_nil)) (sk_nil)) (sa_cons (sn_callk (ks := ["values"]) G_kinds_of (hr.mono (by decide)) rfl T.h_kinds_of T.D_kinds_of.kp (bn5 T) (sk_cons (sn_rev (vr 4)) (sk_nil))) (sa_nil))))) (sa_nil))) (sn_callB (cs_repr hr.gs hr.u66) rfl T.z_repr (by decide +kernel) (sa_cons (sn_op os_mulT (sn_lst (sa_cons (vr 6) (sa_nil))) (sn_int)) (sa_nil))) (nomark _)) (sb_one (ss_ret (sn_bl))) (sb_nil)) <|
    sb_cons (setS 7 (sn_lst (sa_nil)) scND) <|
    sb_cons (ss_for rfl (si_val (sn_op os_add (vr 3) (sn_lst (sa_cons (sn_str) (sa_cons (sn_op os_add (sn_slice (sn_ix (vr 3) (sn_int)) (sp_none) (sp_some (sn_int))) (sn_str)) (sa_cons (sn_slice (sn_ix (vr 3) (sn_int)) (sp_none) (sp_some (sn_int))) (sa_nil))))))) (tgN 8 scND) (sb_cons (setS 9 (sn_callTy cs_tuple rfl T.z_tuple (by decide +kernel) (sa_cons (sn_callB (cs_sorted hr.u65) rfl T.z_sorted (by decide +kernel) (sa_cons (sn_comp (own := [("_law_value", 10)]) rfl scND (CompIn.mk (own := [("_law_value", 10)]) (t := .one 10) (blkOk_by (N := ["_law_script", "_law_pen_here", "_law_turn", "_law_names_here", "_law_bag_here", "_law_kept", "_law_kinds", "_law_whole", "_law_name", "_law_due", "_law_value"]) (sc := defScope s_law) (by decide +kernel)) (by decide) (fun _ _ _ _ _ => tgV 10 (scND)) (fun _ _ _ _ _ => sts_one (st_cmp (os_eqS hr.u64) (sn_ix (vr 10) (sn_int)) (vr 8) (nomark _))) (fun _ _ _ _ _ => vr 10)) (si_val (vr 4)) (gd_val _)) (sa_nil))) (sa_nil))) scND) <|
    sb_cons (ss_if (st_cmp (os_neS hr.u64) (sn_callB (cs_repr hr.gs hr.u66) rfl T.z_repr (by decide +kernel) (sa_cons (sn_lst (sa_cons (sn_call (ks := []) G_of_kind (hr.mono (by decide)) rfl T.h_of_kind T.D_of_kind.kp (bn2 T) (sa_cons (vr 4) (sa_cons (vr 8) (sa_nil))) (sk_nil)) (sa_cons (sn_callk (ks := ["kind", "values"]) G_of_kind (hr.mono (by decide)) rfl T.h_of_kind T.D_of_kind.kp (bn4 T) (sk_cons (vr 8) (sk_cons (sn_callTy cs_tuple rfl T.z_tuple (by decide +kernel) (sa_cons (vr 4) (sa_nil))) (sk_nil)))) (sa_nil)))) (sa_nil))) (sn_callB (cs_repr hr.gs hr.u66) rfl T.z_repr (by decide +kernel) (sa_cons (sn_lst (sa_cons (vr 9) (sa_cons (vr 9) (sa_nil)))) (sa_nil))) (nomark _)) (sb_one (ss_ret (sn_bl))) (sb_nil)) <|
    sb_one (setS 7 (sn_op os_add (vr 7) (sn_comp (own := [("_law_value", 10)]) rfl scND (CompIn.mk (own := [("_law_value", 10)]) (t := .one 10) (blkOk_by (N := ["_law_script", "_law_pen_here", "_law_turn", "_law_names_here", "_law_bag_here", "_law_kept", "_law_kinds", "_law_whole", "_law_name", "_law_due", "_law_value"]) (sc := defScope s_law) (by decide +kernel)) (by decide) (fun _ _ _ _ _ => tgV 10 (scND)) (fun _ _ _ _ _ => sts_one (SndW.t (st_and (st_cmp (os_in hr.u65) (vr 8) (vr 3) rfl) (st_and1 (st_cmp (os_notIn hr.u65) (vr 10) (vr 7) rfl))))) (fun _ _ _ _ _ => vr 10)) (si_val (vr 9)) (gd_val _))) scND)) (gd_val _)) <|
    sb_one (ss_if (SndW.t (st_or (st_cmp (os_neS hr.u64) (sn_callB (cs_sorted hr.u65) rfl T.z_sorted (by decide +kernel) (sa_cons (vr 7) (sa_nil))) (sn_callB (cs_sorted hr.u65) rfl T.z_sorted (by decide +kernel) (sa_cons (vr 4) (sa_nil))) (nomark _)) (st_or1 (st_cmp (os_neS hr.u64) (sn_callB (cs_repr hr.gs hr.u66) rfl T.z_repr (by decide +kernel) (sa_cons (vr 4) (sa_nil))) (vr 5) (nomark _))))) (sb_one (ss_ret (sn_bl))) (sb_nil))) (gd_r1 _)) <|
    sb_one (ss_ret (sn_and (sn_cmp (os_eqS hr.u64) (sn_call (ks := []) G_kinds_of (hr.mono (by decide)) rfl T.h_kinds_of T.D_kinds_of.kp (bn3 T) (sa_cons (sn_lst (sa_nil)) (sa_nil)) (sk_nil)) (sn_tup (sa_nil)) (nomark _)) (sn_one (sn_cmp (os_eqS hr.u64) (sn_call (ks := []) G_of_kind (hr.mono (by decide)) rfl T.h_of_kind T.D_of_kind.kp (bn2 T) (sa_cons (sn_lst (sa_nil)) (sa_cons (sn_str) (sa_nil))) (sk_nil)) (sn_tup (sa_nil)) (nomark _)))))
theorem ok_all (T : Txt K mg) : FnG P w K mg base 4 T.a_law T.fd_law ["_law_script"] m_law :=
  have G_kinds_of : FnG P w K mg base 1 T.a_kinds_of T.fd_kinds_of ["values"] m_kinds_of := ok_kinds_of T
  have G_of_kind : FnG P w K mg base 1 T.a_of_kind T.fd_of_kind ["values", "kind"] m_of_kind := ok_of_kind T
  have G_law_pen : FnG P w K mg base 1 T.a_law_pen T.fd_law_pen ["_law_script"] m_law_pen := ok_law_pen T
  have G_law_draw : FnG P w K mg base 1 T.a_law_draw T.fd_law_draw ["_law_pen_here", "_law_bound"] m_law_draw := ok_law_draw T
  have G_law_names : FnG P w K mg base 2 T.a_law_names T.fd_law_names ["_law_pen_here", "_law_many"] m_law_names := ok_law_names T G_law_draw
  have G_law_numbers : FnG P w K mg base 2 T.a_law_numbers T.fd_law_numbers ["_law_pen_here", "_law_way", "_law_size"] m_law_numbers := ok_law_numbers T G_law_draw
  have G_law_bag : FnG P w K mg base 3 T.a_law_bag T.fd_law_bag ["_law_pen_here", "_law_names_here", "_law_most"] m_law_bag := ok_law_bag T G_law_draw G_law_numbers
  have G_law_some : FnG P w K mg base 2 T.a_law_some T.fd_law_some ["_law_pen_here", "_law_things", "_law_most"] m_law_some := ok_law_some T G_law_draw
  ok_law T G_kinds_of G_of_kind G_law_pen G_law_draw G_law_names G_law_bag
end
theorem all_mk {l : PySem.W.OpenLaw} {w : World} {K : PySem.W.Frag} {h : Heap} {mg : Str → Option Value} {fa : Addr} {x_kinds_of : Addr} {od_kinds_of an_kinds_of : Option Addr} {sl_kinds_of : Array (Option Value)} {oc_kinds_of dc_kinds_of pm_kinds_of cd_kinds_of ct_kinds_of kv_kinds_of : Value} {x_of_kind : Addr} {od_of_kind an_of_kind : Option Addr} {sl_of_kind : Array (Option Value)} {oc_of_kind dc_of_kind pm_of_kind cd_of_kind ct_of_kind kv_of_kind : Value} {x_law_pen : Addr} {od_law_pen an_law_pen : Option Addr} {sl_law_pen : Array (Option Value)} {oc_law_pen dc_law_pen pm_law_pen cd_law_pen ct_law_pen kv_law_pen : Value} {x_law_draw : Addr} {od_law_draw an_law_draw : Option Addr} {sl_law_draw : Array (Option Value)} {oc_law_draw dc_law_draw pm_law_draw cd_law_draw ct_law_draw kv_law_draw : Value} {x_law_names : Addr} {od_law_names an_law_names : Option Addr} {sl_law_names : Array (Option Value)} {oc_law_names dc_law_names pm_law_names cd_law_names ct_law_names kv_law_names : Value} {x_law_numbers : Addr} {od_law_numbers an_law_numbers : Option Addr} {sl_law_numbers : Array (Option Value)} {oc_law_numbers dc_law_numbers pm_law_numbers cd_law_numbers ct_law_numbers kv_law_numbers : Value} {x_law_bag : Addr} {od_law_bag an_law_bag : Option Addr} {sl_law_bag : Array (Option Value)} {oc_law_bag dc_law_bag pm_law_bag cd_law_bag ct_law_bag kv_law_bag : Value} {x_law_some : Addr} {od_law_some an_law_some : Option Addr} {sl_law_some : Array (Option Value)} {oc_law_some dc_law_some pm_law_some cd_law_some ct_law_some kv_law_some : Value} {x_law : Addr} {od_law an_law : Option Addr} {sl_law : Array (Option Value)} {oc_law dc_law pm_law cd_law ct_law kv_law : Value}
    (X : K.In h) (G : h.Ns mainGlobals mg) (hfa : mg "law" = some (.ref fa))
    (a_kinds_of : PySem.W.nsIn K mainGlobals "kinds_of" = some (some (.ref x_kinds_of)))
    (l_kinds_of : K.lookup x_kinds_of = some ⟨oc_kinds_of, od_kinds_of, .func (PySem.W.fnOf "kinds_of" "kinds_of" (defArgs s_kinds_of) (defBody s_kinds_of) (defScope s_kinds_of) .none kv_kinds_of dc_kinds_of pm_kinds_of an_kinds_of cd_kinds_of ct_kinds_of), sl_kinds_of⟩)
    (c_kinds_of : PySem.W.codeIn K cd_kinds_of "kinds_of" = true)
    (k_kinds_of : PySem.W.keepIn K (.ref x_kinds_of) = true)
    (a_of_kind : PySem.W.nsIn K mainGlobals "of_kind" = some (some (.ref x_of_kind)))
    (l_of_kind : K.lookup x_of_kind = some ⟨oc_of_kind, od_of_kind, .func (PySem.W.fnOf "of_kind" "of_kind" (defArgs s_of_kind) (defBody s_of_kind) (defScope s_of_kind) .none kv_of_kind dc_of_kind pm_of_kind an_of_kind cd_of_kind ct_of_kind), sl_of_kind⟩)
    (c_of_kind : PySem.W.codeIn K cd_of_kind "of_kind" = true)
    (k_of_kind : PySem.W.keepIn K (.ref x_of_kind) = true)
    (a_law_pen : PySem.W.nsIn K mainGlobals "_law_pen" = some (some (.ref x_law_pen)))
    (l_law_pen : K.lookup x_law_pen = some ⟨oc_law_pen, od_law_pen, .func (PySem.W.fnOf "_law_pen" "_law_pen" (defArgs s_law_pen) (defBody s_law_pen) (defScope s_law_pen) .none kv_law_pen dc_law_pen pm_law_pen an_law_pen cd_law_pen ct_law_pen), sl_law_pen⟩)
    (c_law_pen : PySem.W.codeIn K cd_law_pen "_law_pen" = true)
    (k_law_pen : PySem.W.keepIn K (.ref x_law_pen) = true)
    (a_law_draw : PySem.W.nsIn K mainGlobals "_law_draw" = some (some (.ref x_law_draw)))
    (l_law_draw : K.lookup x_law_draw = some ⟨oc_law_draw, od_law_draw, .func (PySem.W.fnOf "_law_draw" "_law_draw" (defArgs s_law_draw) (defBody s_law_draw) (defScope s_law_draw) .none kv_law_draw dc_law_draw pm_law_draw an_law_draw cd_law_draw ct_law_draw), sl_law_draw⟩)
    (c_law_draw : PySem.W.codeIn K cd_law_draw "_law_draw" = true)
    (k_law_draw : PySem.W.keepIn K (.ref x_law_draw) = true)
    (a_law_names : PySem.W.nsIn K mainGlobals "_law_names" = some (some (.ref x_law_names)))
    (l_law_names : K.lookup x_law_names = some ⟨oc_law_names, od_law_names, .func (PySem.W.fnOf "_law_names" "_law_names" (defArgs s_law_names) (defBody s_law_names) (defScope s_law_names) .none kv_law_names dc_law_names pm_law_names an_law_names cd_law_names ct_law_names), sl_law_names⟩)
    (c_law_names : PySem.W.codeIn K cd_law_names "_law_names" = true)
    (k_law_names : PySem.W.keepIn K (.ref x_law_names) = true)
    (a_law_numbers : PySem.W.nsIn K mainGlobals "_law_numbers" = some (some (.ref x_law_numbers)))
    (l_law_numbers : K.lookup x_law_numbers = some ⟨oc_law_numbers, od_law_numbers, .func (PySem.W.fnOf "_law_numbers" "_law_numbers" (defArgs s_law_numbers) (defBody s_law_numbers) (defScope s_law_numbers) .none kv_law_numbers dc_law_numbers pm_law_numbers an_law_numbers cd_law_numbers ct_law_numbers), sl_law_numbers⟩)
    (c_law_numbers : PySem.W.codeIn K cd_law_numbers "_law_numbers" = true)
    (k_law_numbers : PySem.W.keepIn K (.ref x_law_numbers) = true)
    (a_law_bag : PySem.W.nsIn K mainGlobals "_law_bag" = some (some (.ref x_law_bag)))
    (l_law_bag : K.lookup x_law_bag = some ⟨oc_law_bag, od_law_bag, .func (PySem.W.fnOf "_law_bag" "_law_bag" (defArgs s_law_bag) (defBody s_law_bag) (defScope s_law_bag) .none kv_law_bag dc_law_bag pm_law_bag an_law_bag cd_law_bag ct_law_bag), sl_law_bag⟩)
    (c_law_bag : PySem.W.codeIn K cd_law_bag "_law_bag" = true)
    (k_law_bag : PySem.W.keepIn K (.ref x_law_bag) = true)
    (a_law_some : PySem.W.nsIn K mainGlobals "_law_some" = some (some (.ref x_law_some)))
    (l_law_some : K.lookup x_law_some = some ⟨oc_law_some, od_law_some, .func (PySem.W.fnOf "_law_some" "_law_some" (defArgs s_law_some) (defBody s_law_some) (defScope s_law_some) .none kv_law_some dc_law_some pm_law_some an_law_some cd_law_some ct_law_some), sl_law_some⟩)
    (c_law_some : PySem.W.codeIn K cd_law_some "_law_some" = true)
    (k_law_some : PySem.W.keepIn K (.ref x_law_some) = true)
    (a_law : PySem.W.nsIn K mainGlobals "law" = some (some (.ref x_law)))
    (l_law : K.lookup x_law = some ⟨oc_law, od_law, .func (PySem.W.fnOf "law" "law" (defArgs s_law) (defBody s_law) (defScope s_law) .none kv_law dc_law pm_law an_law cd_law ct_law), sl_law⟩)
    (c_law : PySem.W.codeIn K cd_law "law" = true)
    (k_law : PySem.W.keepIn K (.ref x_law) = true)
    (zz_abs : PySem.W.nsIn K mainGlobals "abs" = some none)
    (zz_int : PySem.W.nsIn K mainGlobals "int" = some none)
    (zz_len : PySem.W.nsIn K mainGlobals "len" = some none)
    (zz_list : PySem.W.nsIn K mainGlobals "list" = some none)
    (zz_min : PySem.W.nsIn K mainGlobals "min" = some none)
    (zz_range : PySem.W.nsIn K mainGlobals "range" = some none)
    (zz_repr : PySem.W.nsIn K mainGlobals "repr" = some none)
    (zz_set : PySem.W.nsIn K mainGlobals "set" = some none)
    (zz_sorted : PySem.W.nsIn K mainGlobals "sorted" = some none)
    (zz_tuple : PySem.W.nsIn K mainGlobals "tuple" = some none) :
    ∃ fd : FuncData, (∀ (s : Shared) (v : Value), BindsTo s fd ⟨[v], []⟩ [("_law_script", v)]) ∧ ∀ base : Heap, K.In base → base.Ns mainGlobals mg → FnG l.prog w K mg base 4 fa fd ["_law_script"] m_law := by
  have e := hfa.symm.trans (PySem.W.mg_of X G a_law)
  cases e
  let T : Txt K mg := {
    a_kinds_of := x_kinds_of,
    fd_kinds_of := _,
    D_kinds_of := ⟨⟨_, _, _, _, _, _, _, _, _, _, rfl, l_kinds_of, c_kinds_of, .inl ⟨rfl, rfl⟩, .inl rfl⟩, k_kinds_of⟩,
    h_kinds_of := PySem.W.mg_of X G a_kinds_of,
    a_of_kind := x_of_kind,
    fd_of_kind := _,
    D_of_kind := ⟨⟨_, _, _, _, _, _, _, _, _, _, rfl, l_of_kind, c_of_kind, .inl ⟨rfl, rfl⟩, .inl rfl⟩, k_of_kind⟩,
    h_of_kind := PySem.W.mg_of X G a_of_kind,
    a_law_pen := x_law_pen,
    fd_law_pen := _,
    D_law_pen := ⟨⟨_, _, _, _, _, _, _, _, _, _, rfl, l_law_pen, c_law_pen, .inl ⟨rfl, rfl⟩, .inl rfl⟩, k_law_pen⟩,
    h_law_pen := PySem.W.mg_of X G a_law_pen,
    a_law_draw := x_law_draw,
    fd_law_draw := _,
    D_law_draw := ⟨⟨_, _, _, _, _, _, _, _, _, _, rfl, l_law_draw, c_law_draw, .inl ⟨rfl, rfl⟩, .inl rfl⟩, k_law_draw⟩,
    h_law_draw := PySem.W.mg_of X G a_law_draw,
    a_law_names := x_law_names,
    fd_law_names := _,
    D_law_names := ⟨⟨_, _, _, _, _, _, _, _, _, _, rfl, l_law_names, c_law_names, .inl ⟨rfl, rfl⟩, .inl rfl⟩, k_law_names⟩,
    h_law_names := PySem.W.mg_of X G a_law_names,
    a_law_numbers := x_law_numbers,
    fd_law_numbers := _,
    D_law_numbers := ⟨⟨_, _, _, _, _, _, _, _, _, _, rfl, l_law_numbers, c_law_numbers, .inl ⟨rfl, rfl⟩, .inl rfl⟩, k_law_numbers⟩,
    h_law_numbers := PySem.W.mg_of X G a_law_numbers,
    a_law_bag := x_law_bag,
    fd_law_bag := _,
    D_law_bag := ⟨⟨_, _, _, _, _, _, _, _, _, _, rfl, l_law_bag, c_law_bag, .inl ⟨rfl, rfl⟩, .inl rfl⟩, k_law_bag⟩,
    h_law_bag := PySem.W.mg_of X G a_law_bag,
    a_law_some := x_law_some,
    fd_law_some := _,
    D_law_some := ⟨⟨_, _, _, _, _, _, _, _, _, _, rfl, l_law_some, c_law_some, .inl ⟨rfl, rfl⟩, .inl rfl⟩, k_law_some⟩,
    h_law_some := PySem.W.mg_of X G a_law_some,
    a_law := fa,
    fd_law := _,
    D_law := ⟨⟨_, _, _, _, _, _, _, _, _, _, rfl, l_law, c_law, .inl ⟨rfl, rfl⟩, .inl rfl⟩, k_law⟩,
    h_law := PySem.W.mg_of X G a_law,
    z_abs := PySem.W.mg_none_of X G zz_abs,
    z_int := PySem.W.mg_none_of X G zz_int,
    z_len := PySem.W.mg_none_of X G zz_len,
    z_list := PySem.W.mg_none_of X G zz_list,
    z_min := PySem.W.mg_none_of X G zz_min,
    z_range := PySem.W.mg_none_of X G zz_range,
    z_repr := PySem.W.mg_none_of X G zz_repr,
    z_set := PySem.W.mg_none_of X G zz_set,
    z_sorted := PySem.W.mg_none_of X G zz_sorted,
    z_tuple := PySem.W.mg_none_of X G zz_tuple }
  exact ⟨T.fd_law, fun s v => .of_eq rfl, fun base _ _ => ok_all T⟩
end K06

namespace L3
open PySem PySem.Spec PyProof.Rows L2
def Ok {α : Type} (r : R α) (Q : α → WH → Prop) : Prop := ∃ a h, r = some (.ok a, h) ∧ Q a h
def SOk (r : RS) (Q : Fl → WSt → WH → Prop) : Prop := ∃ f ws h, r = some (f, ws, h) ∧ Q f ws h
section
variable {α β : Type} {r : R α} {Q Q' : α → WH → Prop} {h : WH} {a : α}
theorem Ok.imp (o : Ok r Q) (i : ∀ a h, Q a h → Q' a h) : Ok r Q' := by
  obtain ⟨a, h, e, q⟩ := o; exact ⟨a, h, e, i a h q⟩
theorem SOk.imp {r : RS} {Q Q' : Fl → WSt → WH → Prop} (o : SOk r Q) (i : ∀ f ws h, Q f ws h → Q' f ws h) : SOk r Q' := by
  obtain ⟨a, b, h, e, q⟩ := o; exact ⟨a, b, h, e, i a b h q⟩
theorem ok_ok : Ok (some (.ok a, h)) Q ↔ Q a h := ⟨fun ⟨_, _, e, q⟩ => by cases e; exact q, fun q => ⟨_, _, rfl, q⟩⟩
theorem ok_bind {k : α → M β} {Q : β → WH → Prop} : Ok (bindM r k) Q ↔ Ok r fun a h => Ok (k a h) Q := by
  constructor
  · intro ⟨b, h', e, q⟩
    match r with
    | none => cases e
    | some (.exc c fs, h2) => cases e
    | some (.ok a, h2) => exact ⟨a, h2, rfl, b, h', e, q⟩
  · intro ⟨a, h2, e, b, h', e', q⟩
    subst e; exact ⟨b, h', e', q⟩
theorem ok_opt {o : Option α} : Ok (optM o h) Q ↔ ∃ a, o = some a ∧ Q a h := by
  constructor
  · intro ⟨b, h', e, q⟩
    match o with
    | none => cases e
    | some x => cases e; exact ⟨_, rfl, q⟩
  · intro ⟨x, e, q⟩; subst e; exact ⟨x, h, rfl, q⟩
theorem ok_optS {a : α} : Ok (optM (some a) h) Q ↔ Q a h := ok_ok
end
section
variable {h : WH} {ws : WSt} {Q : W → WH → Prop}
theorem ok_var {i : Nat} : Ok (eVar i ws h) Q ↔ ∃ w, ws[i]?.join = some w ∧ Q w h := ok_opt
theorem ok_c {w : W} : Ok (eC w ws h) Q ↔ Q w h := ok_optS
theorem ok_op {g : Op2} {a b : Den} : Ok (eOp g a b ws h) Q ↔ Ok (a ws h) fun x h1 => Ok (b ws h1) fun y h2 => ∃ w, g x y h2 = some w ∧ Q w h2 := by
  unfold eOp; simp only [ok_bind, ok_opt]
theorem ok_nil {Q : List W → WH → Prop} : Ok (aNil ws h) Q ↔ Q [] h := ok_ok
theorem ok_cons {a : Den} {b : DenA} {Q : List W → WH → Prop} : Ok (aCons a b ws h) Q ↔ Ok (a ws h) fun x h1 => Ok (b ws h1) fun xs h2 => Q (x :: xs) h2 := by
  unfold aCons; simp only [ok_bind, ok_ok]
theorem ok_grd {α : Type} {c : Prop} [Decidable c] {r : R α} {Q : α → WH → Prop} : Ok (if c then r else none) Q ↔ c ∧ Ok r Q := by
  by_cases hc : c
  · rw [if_pos hc]; exact ⟨fun q => ⟨hc, q⟩, fun q => q.2⟩
  · rw [if_neg hc]; exact ⟨fun ⟨_, _, e, _⟩ => by (cases e), fun q => (hc q.1).elim⟩
theorem ok_map {α β : Type} {o : Option α} {f : α → β} {h : WH} {Q : β → WH → Prop} : Ok (optM (o.map f) h) Q ↔ ∃ a, o = some a ∧ Q (f a) h := by
  cases o with
  | none => exact ⟨fun ⟨_, _, e, _⟩ => by (cases e), fun ⟨_, e, _⟩ => by (cases e)⟩
  | some a => exact ⟨fun ⟨_, _, e, q⟩ => by cases e; exact ⟨a, rfl, q⟩, fun ⟨_, e, q⟩ => by cases e; exact ⟨_, _, rfl, q⟩⟩
theorem ok_lst {b : DenA} : Ok (eLst b ws h) Q ↔ Ok (b ws h) fun xs h1 => xs.length ≤ sizeLine ∧ ∃ ds, dats xs = some ds ∧ Q (.d (.list ds)) h1 := by
  unfold eLst; simp only [ok_bind, ok_grd, ok_map]
theorem ok_tup {b : DenA} : Ok (eTup b ws h) Q ↔ Ok (b ws h) fun xs h1 => xs.length ≤ sizeLine ∧ ∃ ds, dats xs = some ds ∧ Q (.d (.tuple ds)) h1 := by
  unfold eTup; simp only [ok_bind, ok_grd, ok_map]
theorem ok_new {b : DenA} : Ok (eNew b ws h) Q ↔ Ok (b ws h) fun xs h1 => xs.length ≤ sizeLine ∧ Q (.loc h1.length) (h1 ++ [.lst xs]) := by
  unfold eNew newL; simp only [ok_bind, ok_grd, ok_ok]
theorem ok_b {g : GB} {b : DenA} : Ok (eB g b ws h) Q ↔ Ok (b ws h) fun xs h1 => ∃ w, g xs h1 = some w ∧ Q w h1 := by
  unfold eB; simp only [ok_bind, ok_opt]
theorem ok_call {n k : Nat} {gW : List W → List W → List W} {m : List W → M W} {a b : DenA} : Ok (eCall n k gW m a b ws h) Q ↔ Ok (a ws h) fun xs h1 => Ok (b ws h1) fun ys h2 => (xs.length = n ∧ ys.length = k) ∧ Ok (m (gW xs ys) h2) Q := by
  unfold eCall; simp only [ok_bind, ok_grd]
theorem ok_tB {d : Den} {Q : Bool → WH → Prop} : Ok (tB d ws h) Q ↔ Ok (d ws h) fun w h1 => ∃ k, asB w = some k ∧ Q k h1 := by
  unfold tB; simp only [ok_bind, ok_opt]
theorem ok_tAnd {a b : DenT} {Q : Bool → WH → Prop} : Ok (tAndM a b ws h) Q ↔ Ok (a ws h) fun k h1 => Ok (if k then b ws h1 else some (.ok false, h1)) Q := by
  unfold tAndM; simp only [ok_bind]
theorem ok_tTrue {Q : Bool → WH → Prop} : Ok (tTrue ws h) Q ↔ Q true h := ok_optS
theorem ok_sm {g : GB} {d : Den} {da : DenA} : Ok (eSM g d da ws h) Q ↔ Ok (d ws h) fun x h1 => isStr x = true ∧ Ok (da ws h1) fun as h2 => ∃ w, g (x :: as) h2 = some w ∧ Q w h2 := by
  unfold eSM; simp only [ok_bind, ok_grd, ok_opt]
end
theorem ok_lm {g : GM} {d : Den} {da : DenA} {ws : WSt} {h : WH} {Q : W → WH → Prop} {l : Nat} {xs : List W} (o : Ok (d ws h) fun x h1 => x = .loc l ∧ h1[l]? = some (.lst xs) ∧ Ok (da ws h1) fun as h2 => ∃ ys, h2[l]? = some (.lst ys) ∧ ∃ w ys', g ys as = some (w, ys') ∧ Q w (h2.set l (.lst ys'))) : Ok (eLM g d da ws h) Q := by
  unfold eLM
  rw [ok_bind]
  refine o.imp fun x h1 ⟨e1, e2, o2⟩ => ?_
  subst e1
  simp only [e2]
  rw [ok_bind]
  refine o2.imp fun as h2 ⟨ys, e3, w, ys', e4, q⟩ => ?_
  simp only [e3, e4]
  exact ok_ok.mpr q
def endF1 : Fl → Option W
  | .nx => some (.d .none)
  | .rt w => some w
  | _ => none
section
variable {h : WH} {ws : WSt} {Q : Fl → WSt → WH → Prop}
theorem sk_sE {α : Type} {r : R α} {k : α → WH → RS} (o : Ok r fun a h => SOk (k a h) Q) : SOk (sE r ws k) Q := by
  obtain ⟨a, h, e, q⟩ := o; subst e; exact q
theorem sk_ret' {f : Fl} : SOk (some (f, ws, h)) Q ↔ Q f ws h := ⟨fun ⟨_, _, _, e, q⟩ => by cases e; exact q, fun q => ⟨_, _, _, rfl, q⟩⟩
def thenQ (b : S) (Q : Fl → WSt → WH → Prop) : Fl → WSt → WH → Prop
  | .nx, ws, h => SOk (b ws h) Q
  | f, ws, h => Q f ws h
theorem sk_seq {a b : S} (o : SOk (a ws h) (thenQ b Q)) : SOk (sSeq a b ws h) Q := by
  obtain ⟨f, ws1, h1, e, q⟩ := o
  unfold sSeq
  rw [e]
  cases f with
  | nx => exact q
  | _ => exact ⟨_, _, _, rfl, q⟩
theorem sk_set {i : Nat} {d : Den} (o : Ok (d ws h) fun w h1 => Q .nx (ws.set i (some w)) h1) : SOk (sSet i d ws h) Q := sk_sE (o.imp fun _ _ q => sk_ret'.mpr q)
theorem sk_ret {d : Den} (o : Ok (d ws h) fun w h1 => Q (.rt w) ws h1) : SOk (sRet d ws h) Q := sk_sE (o.imp fun _ _ q => sk_ret'.mpr q)
theorem sk_do {d : Den} (o : Ok (d ws h) fun _ h1 => Q .nx ws h1) : SOk (sDo d ws h) Q := sk_sE (o.imp fun _ _ q => sk_ret'.mpr q)
theorem sk_skip (o : Q .nx ws h) : SOk (sSkip ws h) Q := sk_ret'.mpr o
theorem sk_if {c : DenT} {a b : S} (o : Ok (c ws h) fun k h1 => SOk (if k then a ws h1 else b ws h1) Q) : SOk (sIf c a b ws h) Q := sk_sE o
theorem sk_asg {d : Den} {g : DenG} (o : Ok (d ws h) fun w h1 => Ok (g w ws h1) fun ws2 h2 => Q .nx ws2 h2) : SOk (sAsg d g ws h) Q :=
  sk_sE (o.imp fun _ _ q => sk_sE (q.imp fun _ _ q => sk_ret'.mpr q))
theorem for_run {g : DenG} {b : S} {gd : WH → Prop} (I : List W → WSt → WH → Prop) 
    (st : ∀ w r ws h, I (w :: r) ws h → Ok (g w ws h) fun ws1 h1 => SOk (b ws1 h1) fun f ws2 h2 => match f with
        | .nx | .ct => gd h2 ∧ I r ws2 h2
        | .bk => Q .nx ws2 h2
        | f => Q f ws2 h2) (en : ∀ ws h, I [] ws h → Q .nx ws h) : ∀ (xs : List W) (ws : WSt) (h : WH), I xs ws h → SOk (forL gd g b xs ws h) Q
  | [], ws, h, i0 => sk_ret'.mpr (en _ _ i0)
  | w :: r, ws, h, i0 => by
    unfold forL
    refine sk_sE ((st w r ws h i0).imp fun ws1 h2 q => ?_)
    obtain ⟨f, ws2, h3, e, q⟩ := q
    rw [e]
    cases f with
    | nx => simp only [if_pos q.1]; exact for_run I st en r _ _ q.2
    | ct => simp only [if_pos q.1]; exact for_run I st en r _ _ q.2
    | bk => exact sk_ret'.mpr q
    | rt w => exact sk_ret'.mpr q
    | ex c fs => exact sk_ret'.mpr q
theorem sk_for {di : DenI} {g : DenG} {b : S} (I : List W → WSt → WH → Prop) (o : Ok (di ws h) fun wk h1 => I wk.xs ws h1 ∧
      (∀ w r ws h, I (w :: r) ws h → Ok (g w ws h) fun ws1 h1 => SOk (b ws1 h1) fun f ws2 h2 => match f with
        | .nx | .ct => wk.gd h2 ∧ I r ws2 h2
        | .bk => Q .nx ws2 h2
        | f => Q f ws2 h2) ∧ ∀ ws h, I [] ws h → Q .nx ws h) : SOk (sFor di g b ws h) Q :=
  sk_sE (o.imp fun wk h1 ⟨i0, st, en⟩ => for_run I st en _ _ _ i0)
theorem sk_while {c : DenT} {b : S} (I : Nat → WSt → WH → Prop) {n : Nat} {m : Nat} (hm : m < n) (i0 : I m ws h)
    (st : ∀ k ws h, I k ws h → Ok (c ws h) fun t h1 => if t then SOk (b ws h1) (fun f ws2 h2 => match f with
        | .nx | .ct => ∃ k', k' < k ∧ I k' ws2 h2
        | .bk => Q .nx ws2 h2
        | f => Q f ws2 h2) else Q .nx ws h1) : SOk (sWhile n c b ws h) Q := by
  unfold sWhile
  induction n generalizing m ws h with
  | zero => omega
  | succ n ih =>
    unfold whileL
    refine sk_sE ((st m ws h i0).imp fun t h1 q => ?_)
    cases t with
    | false => exact sk_ret'.mpr q
    | true =>
      obtain ⟨f, ws2, h3, e, q⟩ := q
      rw [if_pos rfl, e]
      cases f with
      | nx => obtain ⟨k', lt, q⟩ := q; exact ih (by omega) q
      | ct => obtain ⟨k', lt, q⟩ := q; exact ih (by omega) q
      | bk => exact sk_ret'.mpr q
      | rt w => exact sk_ret'.mpr q
      | ex c fs => exact sk_ret'.mpr q
end
theorem ok_fnM {np n : Nat} {d : S} {ws : List W} {h : WH} {Q : W → WH → Prop} (hl : ws.length = np)
    (o : SOk (d (ws.map some ++ List.replicate (n - np) none) h) fun f _ h' => keepP h h' ∧ ∃ w w', endF1 f = some w ∧ cut h.length h' w = some w' ∧ Q w' (h'.take h.length)) : Ok (fnM np n d ws h) Q := by
  obtain ⟨f, ws2, h', e, kp, w, w', e1, e2, q⟩ := o
  unfold fnM
  rw [if_pos hl, e]
  have e3 : endM (some (f, ws2, h')) = some (.ok w, h') := by
    cases f with
    | nx => cases e1; rfl
    | rt w => cases e1; rfl
    | _ => cases e1
  rw [e3]
  refine ⟨w', h'.take h.length, ?_, q⟩
  unfold clean
  simp only [if_pos kp, e2]
theorem ok_fnK {np n : Nat} {d : S} {ws : List W} {h : WH} {Q : W → WH → Prop} (hl : ws.length = np)
    (o : SOk (d (ws.map some ++ List.replicate (n - np) none) h) fun f _ h' => ∃ w, endF1 f = some w ∧ Q w h') : Ok (fnK np n d ws h) Q := by
  obtain ⟨f, ws2, h', e, w, e1, q⟩ := o
  unfold fnK
  rw [if_pos hl, e]
  cases f with
  | nx => cases e1; exact ⟨_, _, rfl, q⟩
  | rt w => cases e1; exact ⟨_, _, rfl, q⟩
  | _ => cases e1
section
variable {h : WH} {ws : WSt}
theorem comp_run {t : DenG} {tt : DenT} {de : Den} {ws0 : WSt} {gd : WH → Prop} {Q : List W → WH → Prop} (I : List W → List W → WH → Prop)
    (st : ∀ w r acc h, I (w :: r) acc h → acc.length < sizeLine ∧ Ok (t w ws0 h) fun ws2 h2 => Ok (tt ws2 h2) fun b h3 =>
        if b = true then Ok (de ws2 h3) fun y h4 => gd h4 ∧ I r (acc ++ [y]) h4 else gd h3 ∧ I r acc h3) (en : ∀ acc h, I [] acc h → Q acc h) :
    ∀ (xs acc : List W) (h : WH), I xs acc h → Ok (compL t tt de ws0 gd xs acc h) Q
  | [], acc, h, i0 => ok_ok.mpr (en _ _ i0)
  | w :: r, acc, h, i0 => by
    unfold compL
    obtain ⟨hl, ws2, h2, e, b, h3, e2, q⟩ := st w r acc h i0
    rw [e]
    simp only [e2]
    cases b with
    | true =>
      rw [if_pos rfl] at q
      obtain ⟨y, h4, e4, gd, i1⟩ := q
      simp only [if_true, e4, if_pos hl, if_pos gd]
      exact comp_run I st en _ _ _ i1
    | false =>
      rw [if_neg (by decide)] at q
      obtain ⟨gd, i1⟩ := q
      simp only [Bool.false_eq_true, if_false, if_pos gd]
      exact comp_run I st en _ _ _ i1
theorem ok_compA {vs : List Nat} {di : DenI} {t : Tg} {tt : DenT} {de : Den} {Q : List W → WH → Prop} (I : List W → List W → WH → Prop)
    (o : Ok (di ws h) fun wk h1 => I wk.xs [] h1 ∧ (∀ w r acc h, I (w :: r) acc h → acc.length < sizeLine ∧ Ok (t.dn w (wipeW ws vs) h) fun ws2 h2 => Ok (tt ws2 h2) fun b h3 =>
        if b = true then Ok (de ws2 h3) fun y h4 => wk.gd h4 ∧ I r (acc ++ [y]) h4 else wk.gd h3 ∧ I r acc h3) ∧ ∀ acc h, I [] acc h → Q acc h) : Ok (eCompA vs di t tt de ws h) Q := by
  unfold eCompA
  rw [ok_bind]
  exact o.imp fun wk h1 ⟨i0, st, en⟩ => comp_run I st en _ _ _ i0
theorem ok_comp {vs : List Nat} {di : DenI} {t : Tg} {tt : DenT} {de : Den} {Q : W → WH → Prop} : Ok (eComp vs di t tt de ws h) Q ↔ Ok (eCompA vs di t tt de ws h) fun acc h1 => ∃ ds, dats acc = some ds ∧ Q (.d (.list ds)) h1 := by
  unfold eComp; simp only [ok_bind, ok_map]
theorem ok_range1 {d : Den} {Q : Walkd → WH → Prop} : Ok (iRange1 d ws h) Q ↔ Ok (d ws h) fun x h1 => ∃ w, wRange1 x = some w ∧ Q w h1 := by
  unfold iRange1; simp only [ok_bind, ok_opt]
end
end L3

namespace L3
open PySem PySem.Spec PyProof.Rows L2
def PenO (ns : List Int) (n g : Int) : Ob := .lst [.d (.list (ns.map .int)), .d (.int n), .d (.int g)]
def Pen (n : Nat) (o : Ob) : Prop := ∃ (ns : List Int) (k g : Int), o = PenO ns k g ∧ 0 ≤ k ∧ k ≤ n ∧ 0 ≤ g
theorem Pen.mono {n m : Nat} {o : Ob} (p : Pen n o) (h : n ≤ m) : Pen m o := by
  obtain ⟨ns, k, g, e, a, b, c⟩ := p; exact ⟨ns, k, g, e, a, by omega, c⟩
theorem ex_eq {α : Type} {P : α → Prop} {x : α} : (∃ w, some x = some w ∧ P w) ↔ P x := by simp
theorem ok_varS {i : Nat} {x : W} {ws : WSt} {h : WH} {Q : W → WH → Prop} (e : ws[i]? = some (some x)) : Ok (eVar i ws h) Q ↔ Q x h := by
  rw [ok_var, e]; exact ex_eq
theorem ix_pen0 {a b c : W} {rest : WH} : gIx (.loc 0) (.d (.int 0)) (.lst [a, b, c] :: rest) = some a := rfl
theorem ix_pen1 {a b c : W} {rest : WH} : gIx (.loc 0) (.d (.int 1)) (.lst [a, b, c] :: rest) = some b := rfl
theorem ix_pen2 {a b c : W} {rest : WH} : gIx (.loc 0) (.d (.int 2)) (.lst [a, b, c] :: rest) = some c := rfl
theorem set_pen1 {a b c w : W} {ws : WSt} {rest : WH} {d di : Den} {Q : WSt → WH → Prop} (e : d ws (.lst [a, b, c] :: rest) = some (.ok (.loc 0), .lst [a, b, c] :: rest)) (e2 : di ws (.lst [a, b, c] :: rest) = some (.ok (.d (.int 1)), .lst [a, b, c] :: rest))
    (q : Q ws (.lst [a, w, c] :: rest)) : Ok (gSubL d di w ws (.lst [a, b, c] :: rest)) Q := by
  unfold gSubL; rw [e]; unfold bindM; simp only [e2]; exact ⟨_, _, rfl, q⟩
theorem set_pen2 {a b c w : W} {ws : WSt} {rest : WH} {d di : Den} {Q : WSt → WH → Prop} (e : d ws (.lst [a, b, c] :: rest) = some (.ok (.loc 0), .lst [a, b, c] :: rest)) (e2 : di ws (.lst [a, b, c] :: rest) = some (.ok (.d (.int 2)), .lst [a, b, c] :: rest))
    (q : Q ws (.lst [a, b, w] :: rest)) : Ok (gSubL d di w ws (.lst [a, b, c] :: rest)) Q := by
  unfold gSubL; rw [e]; unfold bindM; simp only [e2]; exact ⟨_, _, rfl, q⟩
theorem g_int {c : Int → Int → Bool} {f : Int → Int → Int} {i j : Int} {h : WH} (e : c i j = true) : gInt c f (.d (.int i)) (.d (.int j)) h = some (.d (.int (f i j))) := if_pos e
def mixed (c1 c2 c3 c4 c5 c6 c7 : Int) (cell n : Int) : Int := ((((((cell.fmod c1 + c2 * n + c3) ^ 5).fmod c4) * (n + c5) + c6 * n * n + 7) ^ 3).fmod c7)
def HLt (rest : WH) : Prop := ∀ o ∈ rest, o.lt (rest.length + 1) = true
theorem keep_pen {o o' : Ob} {rest : WH} (p : ∃ n, Pen n o') (hr : HLt rest) : keepP (o :: rest) (o' :: rest) := by
  refine ⟨Nat.le_refl _, .inr fun x hx => ?_⟩
  have e : List.take (o :: rest).length (o' :: rest) = o' :: rest := List.take_of_length_le (Nat.le_refl _)
  rw [e] at hx
  rcases List.mem_cons.mp hx with rfl | hx
  · obtain ⟨n, ns, k, g, rfl, _⟩ := p
    rfl
  · exact hr x hx
theorem fmod_pos {i j : Int} (h : 0 < j) : Int.fmod i j = i % j := Int.fmod_eq_emod_of_nonneg i (Int.le_of_lt h)
theorem gm_mod {i j : Int} {h : WH} (hj : 0 < j) : gMod (.d (.int i)) (.d (.int j)) h = some (.d (.int (i % j))) := by
  unfold gMod; rw [g_int (decide_eq_true (by omega)), fmod_pos hj]
theorem log2_le {n m : Nat} (h : n ≤ m) : n.log2 ≤ m.log2 := by
  by_cases h0 : n = 0
  · subst h0; show 0 ≤ _; omega
  · exact (Nat.le_log2 (by omega)).mpr (Nat.le_trans (Nat.log2_self_le h0) h)
theorem gm_div {i j : Int} {h : WH} (hj : 0 < j) (h1 : j ≤ 10 ^ 30) : gFdiv (.d (.int i)) (.d (.int j)) h = some (.d (.int (i / j))) := by
  unfold gFdiv
  refine g_int (decide_eq_true ⟨hj, ?_⟩)
  have := log2_le (n := j.natAbs) (m := 10 ^ 30) (by omega)
  have e : (10 ^ 30 : Nat).log2 = 99 := by decide +kernel
  omega
theorem gm_pow {i j : Int} {h : WH} (hj : 0 ≤ j ∧ j ≤ 1000) (hi : -(2 ^ 64) < i ∧ i < 2 ^ 64) : gPow (.d (.int i)) (.d (.int j)) h = some (.d (.int (i ^ j.toNat))) :=
  g_int (decide_eq_true ⟨hj.1, by omega, by omega⟩)
theorem gm_mul {i j : Int} {h : WH} (hi : (-(2 ^ 64) < i ∧ i < 2 ^ 64) ∨ (-(2 ^ 64) < j ∧ j < 2 ^ 64)) : gMulT (.d (.int i)) (.d (.int j)) h = some (.d (.int (i * j))) :=
  show gMul (.d (.int i)) (.d (.int j)) h = _ from if_pos (decide_eq_true hi)
theorem gm_add {i j : Int} {h : WH} : gAdd (.d (.int i)) (.d (.int j)) h = some (.d (.int (i + j))) := rfl
theorem gm_sub {i j : Int} {h : WH} : gSub (.d (.int i)) (.d (.int j)) h = some (.d (.int (i - j))) := rfl
theorem gm_lt {i j : Int} {h : WH} : gLt (.d (.int i)) (.d (.int j)) h = some (.d (.bool (decide (i < j)))) := rfl
theorem gm_le {i j : Int} {h : WH} : gLe (.d (.int i)) (.d (.int j)) h = some (.d (.bool (decide (i ≤ j)))) := rfl
theorem gm_gt {i j : Int} {h : WH} : gGt (.d (.int i)) (.d (.int j)) h = some (.d (.bool (decide (j < i)))) := rfl
theorem gm_ge {i j : Int} {h : WH} : gGe (.d (.int i)) (.d (.int j)) h = some (.d (.bool (decide (j ≤ i)))) := rfl
theorem asB_b {b : Bool} : asB (.d (.bool b)) = some b := rfl
theorem tru_b {b : Bool} {h : WH} : tru h (.d (.bool b)) = some b := rfl
theorem gm_len {xs : List PyData} {h : WH} : gLen [.d (.list xs)] h = some (.d (.int xs.length)) := by
  show ((some (xs.map W.d)).map fun ws => W.d (.int ws.length)) = _
  simp
theorem gm_lenT {xs : List PyData} {h : WH} : gLen [.d (.tuple xs)] h = some (.d (.int xs.length)) := by
  show ((some (xs.map W.d)).map fun ws => W.d (.int ws.length)) = _
  simp
theorem gm_abs {i : Int} {h : WH} : gAbs [.d (.int i)] h = some (.d (.int (if i < 0 then -i else i))) := rfl
theorem gm_intb {b : Bool} {h : WH} : gInt1 [.d (.bool b)] h = some (.d (.int (if b then 1 else 0))) := rfl
theorem ixN_in {n : Nat} {i : Int} (h0 : 0 ≤ i) (h1 : i < n) : ixN n i = some i.toNat := by
  unfold ixN; rw [if_pos h0, if_pos h1]
theorem at_in {α : Type} {xs : List α} {i : Int} (h0 : 0 ≤ i) (h1 : i < xs.length) : ∃ x, atI xs i = some x ∧ x ∈ xs := by
  unfold atI
  rw [ixN_in h0 h1]
  have h2 : i.toNat < xs.length := by omega
  exact ⟨xs[i.toNat], List.getElem?_eq_getElem h2, List.getElem_mem h2⟩
theorem ix_list {xs : List PyData} {i : Int} {h : WH} (h0 : 0 ≤ i) (h1 : i < xs.length) : ∃ x ∈ xs, gIx (.d (.list xs)) (.d (.int i)) h = some (.d x) := by
  obtain ⟨w, e, m⟩ := at_in (xs := xs.map W.d) h0 (by rw [List.length_map]; exact h1)
  obtain ⟨x, m2, rfl⟩ := List.mem_map.mp m
  exact ⟨x, m2, e⟩
theorem mul_bd {a b A B : Int} (h0 : 0 ≤ a) (h1 : a ≤ A) (h2 : 0 ≤ b) (h3 : b ≤ B) : 0 ≤ a * b ∧ a * b ≤ A * B :=
  ⟨Int.mul_nonneg h0 h2, Int.mul_le_mul h1 h3 h2 (Int.le_trans h0 h1)⟩
theorem mod_bd {i j : Int} (h : 0 < j) : 0 ≤ i % j ∧ i % j < j := ⟨Int.emod_nonneg _ (by omega), Int.emod_lt_of_pos _ h⟩
def Sd (k : Nat) (x : PyData) : Prop := x.canLay0 = true ∧ x.depth ≤ k
theorem sd_all {k : Nat} : ∀ {xs : List PyData}, (∀ x ∈ xs, Sd k x) → PyData.canLayAll0 xs = true ∧ PyData.depthAll xs ≤ k
  | [], _ => ⟨by unfold PyData.canLayAll0; rfl, by unfold PyData.depthAll; omega⟩
  | x :: xs, h => by
    obtain ⟨a, b⟩ := h x (List.mem_cons_self ..)
    obtain ⟨c, d⟩ := sd_all (xs := xs) fun y m => h y (List.mem_cons_of_mem _ m)
    refine ⟨?_, ?_⟩
    · unfold PyData.canLayAll0; rw [a, c]; rfl
    · unfold PyData.depthAll; omega
theorem sd_list {k : Nat} {xs : List PyData} (h : ∀ x ∈ xs, Sd k x) : Sd (k + 1) (.list xs) := by
  obtain ⟨a, b⟩ := sd_all h
  exact ⟨by unfold PyData.canLay0; exact a, by unfold PyData.depth; omega⟩
theorem sd_tup {k : Nat} {xs : List PyData} (h : ∀ x ∈ xs, Sd k x) : Sd (k + 1) (.tuple xs) := by
  obtain ⟨a, b⟩ := sd_all h
  exact ⟨by unfold PyData.canLay0; exact a, by unfold PyData.depth; omega⟩
theorem sd_int {k : Nat} {i : Int} : Sd k (.int i) := ⟨by unfold PyData.canLay0; rfl, by unfold PyData.depth; omega⟩
theorem Sd.mono {k j : Nat} {x : PyData} (h : Sd k x) (l : k ≤ j) : Sd j x := ⟨h.1, Nat.le_trans h.2 l⟩
theorem Sd.shaped {k : Nat} {x : PyData} (h : Sd k x) (l : k ≤ 64 := by decide) : SeqAt.shaped x = true := by
  unfold SeqAt.shaped
  rw [h.1, decide_eq_true (Nat.le_trans h.2 l)]; rfl
theorem gm_eq {x y : PyData} {k j : Nat} {h : WH} (a : Sd k x) (b : Sd j y) (hk : k ≤ 64 := by decide) (hj : j ≤ 64 := by decide) : gEq (.d x) (.d y) h = some (.d (.bool (PyData.eqv x y))) := by
  show (if SeqAt.shaped x && SeqAt.shaped y then _ else none) = _
  rw [a.shaped hk, b.shaped hj]; rfl
theorem gm_ne {x y : PyData} {k j : Nat} {h : WH} (a : Sd k x) (b : Sd j y) (hk : k ≤ 64 := by decide) (hj : j ≤ 64 := by decide) : gNe (.d x) (.d y) h = some (.d (.bool (!PyData.eqv x y))) := by
  show (if SeqAt.shaped x && SeqAt.shaped y then _ else none) = _
  rw [a.shaped hk, b.shaped hj]; rfl
theorem eqv_nil {xs : List PyData} : PyData.eqv (.list xs) (.list []) = xs.isEmpty := by
  cases xs <;> simp [PyData.eqv, PyData.eqvAll]
theorem eqv_str {u v : Str} : PyData.eqv (.str u) (.str v) = decide (u = v) := by
  unfold PyData.eqv; rw [Bool.eq_iff_iff]; simp
theorem eqv_int {u v : Int} : PyData.eqv (.int u) (.int v) = decide (u = v) := by
  unfold PyData.eqv; rw [Bool.eq_iff_iff]; simp
theorem gs_eq {x y : PyData} {k j : Nat} {h : WH} (a : Sd k x) (b : Sd j y) (hk : k ≤ 64 := by decide) (hj : j ≤ 64 := by decide) : gEqS (.d x) (.d y) h = some (.d (.bool (PyData.eqv x y))) := by
  unfold gEqS
  split
  · rename_i u v e1 e2
    cases e1; cases e2
    rw [eqv_str]
  · exact gm_eq a b hk hj
theorem gs_ne {x y : PyData} {k j : Nat} {h : WH} (a : Sd k x) (b : Sd j y) (hk : k ≤ 64 := by decide) (hj : j ≤ 64 := by decide) : gNeS (.d x) (.d y) h = some (.d (.bool (!PyData.eqv x y))) := by
  unfold gNeS
  split
  · rename_i u v e1 e2
    cases e1; cases e2
    rw [eqv_str]
  · exact gm_ne a b hk hj
theorem gs_eqs {x y : Str} {h : WH} : gEqS (.d (.str x)) (.d (.str y)) h = some (.d (.bool (decide (x = y)))) := rfl
theorem gs_nes {x y : Str} {h : WH} : gNeS (.d (.str x)) (.d (.str y)) h = some (.d (.bool (!decide (x = y)))) := rfl
theorem ix_str {z : Str} {i : Int} {h : WH} (hz : z.cps.size ≤ 1000) (h0 : 0 ≤ i) (h1 : i < z.cps.size) : ∃ c, c ∈ z.cps.toList ∧ gIx (.d (.str z)) (.d (.int i)) h = some (.d (.str ⟨#[c]⟩)) := by
  obtain ⟨c, e, m⟩ := at_in (xs := z.cps.toList) h0 (by rw [Array.length_toList]; exact h1)
  refine ⟨c, m, ?_⟩
  show (if z.length ≤ sizeLine then (atI z.cps.toList i).map fun c => W.d (.str ⟨#[c]⟩) else none) = _
  rw [if_pos (show z.length ≤ sizeLine from Nat.le_trans hz (by decide)), e]; rfl
theorem gm_adds {x y : Str} {h : WH} (hl : x.cps.size + y.cps.size ≤ 1000000) : gAdd (.d (.str x)) (.d (.str y)) h = some (.d (.str (x ++ y))) := if_pos (Nat.le_trans hl (by decide))
theorem gm_addl {x y : List PyData} {h : WH} (hl : x.length + y.length ≤ 1000000) : gAdd (.d (.list x)) (.d (.list y)) h = some (.d (.list (x ++ y))) := if_pos (Nat.le_trans hl (by decide))
theorem gm_addt {x y : List PyData} {h : WH} (hl : x.length + y.length ≤ 1000000) : gAdd (.d (.tuple x)) (.d (.tuple y)) h = some (.d (.tuple (x ++ y))) := if_pos (Nat.le_trans hl (by decide))
theorem str_app (x y : Str) : (x ++ y).cps = x.cps ++ y.cps := rfl
theorem rng_ok {j : Int} (h : -(2 ^ 30) ≤ j ∧ j ≤ 2 ^ 30) : wRange1 (.d (.int j)) = some ⟨rngL 0 j.toNat, fun _ => True⟩ := by
  show (if rngB j then some _ else none) = _
  refine if_pos ?_
  unfold rngB
  simp only [Bool.and_eq_true, decide_eq_true_eq]
  omega
theorem rng_mem {lo : Int} {n : Nat} {w : W} (m : w ∈ rngL lo n) : ∃ k : Int, w = .d (.int k) ∧ lo ≤ k ∧ k < lo + n := by
  unfold rngL at m
  obtain ⟨i, m2, rfl⟩ := List.mem_map.mp m
  have := List.mem_range.mp m2
  exact ⟨_, rfl, by omega, by omega⟩
theorem hlt_nil : HLt [] := fun _ m => nomatch m
theorem hlt_one {xs : List PyData} : HLt [.lst (xs.map .d)] := fun o m => by
  obtain rfl := List.mem_singleton.mp m
  show (xs.map W.d).all (W.lt _) = true
  rw [List.all_map, List.all_eq_true]
  exact fun x _ => rfl
theorem join_size : ∀ ys : List Str, (Str.join "" ys).cps.size = (ys.map fun y => y.cps.size).sum
  | [] => rfl
  | [y] => by show y.cps.size = _; simp
  | y :: z :: r => by
    show ((y ++ "") ++ Str.join "" (z :: r)).cps.size = _
    rw [str_app, str_app, Array.size_append, Array.size_append, join_size (z :: r)]
    show y.cps.size + 0 + _ = _
    simp
theorem join_mem : ∀ (ys : List Str) (c : Nat), c ∈ (Str.join "" ys).cps.toList → ∃ y ∈ ys, c ∈ y.cps.toList
  | [], c, m => nomatch m
  | [y], c, m => ⟨y, List.mem_singleton.mpr rfl, m⟩
  | y :: z :: r, c, m => by
    have m : c ∈ ((y ++ "") ++ Str.join "" (z :: r)).cps.toList := m
    rw [str_app, str_app, Array.toList_append, Array.toList_append, List.mem_append, List.mem_append] at m
    rcases m with (m | m) | m
    · exact ⟨y, List.mem_cons_self .., m⟩
    · exact nomatch m
    · obtain ⟨q, a, b⟩ := join_mem (z :: r) c m
      exact ⟨q, List.mem_cons_of_mem _ a, b⟩
theorem strsOf_map : ∀ ys : List Str, strsOf (ys.map .str) = some ys
  | [] => rfl
  | y :: ys => by
    show (strsOf (ys.map .str)).map (y :: ·) = _
    rw [strsOf_map ys]; rfl
theorem gm_join0 {ys : List Str} {h : WH} (hl : (ys.map fun y => y.cps.size).sum ≤ 1000000) : gJoin [.d (.str ""), .d (.list (ys.map .str))] h = some (.d (.str (Str.join "" ys))) := by
  show (strsOf (ys.map .str)).bind (fun ys => if (ys.map (·.length)).sum + ys.length * (("" : Str).length) ≤ 16777216 then some (W.d (.str (Txt.join "" ys))) else none) = _
  rw [strsOf_map, ← TL.join_eq]
  refine if_pos ?_
  have e : (ys.map (·.length)).sum = (ys.map fun y => y.cps.size).sum := rfl
  have e2 : ("" : Str).length = 0 := rfl
  rw [e, e2]; omega
theorem sum_ones : ∀ {ys : List Str}, (∀ y ∈ ys, y.cps.size = 1) → (ys.map fun y => y.cps.size).sum = ys.length
  | [], _ => rfl
  | y :: ys, h => by
    rw [List.map_cons, List.sum_cons, sum_ones fun z m => h z (List.mem_cons_of_mem _ m), h y (List.mem_cons_self ..), List.length_cons]; omega
theorem dats_of (xs : List PyData) : dats (xs.map W.d) = some xs := dats_map xs
theorem gm_min {i j : Int} {h : WH} : gMin2 [.d (.int i), .d (.int j)] h = some (.d (.int (if j < i then j else i))) := rfl
theorem gm_inL {x : PyData} {xs : List PyData} {l k j : Nat} {h : WH} (e : h[l]? = some (.lst (xs.map .d))) (a : Sd k x) (b : Sd j (.list xs)) (hk : k ≤ 64 := by decide) (hj : j ≤ 64 := by decide) :
    gIn (.d x) (.loc l) h = some (.d (.bool (xs.any fun z => PyData.eqv z x))) := by
  have e2 : dat h (.loc l) = some (.list xs) := by
    show (match h[l]? with | some (.lst ws) => (dats ws).map PyData.list | some (.tup ws) => (dats ws).map PyData.tuple | _ => none) = _
    rw [e]
    show (dats (xs.map W.d)).map PyData.list = _
    rw [dats_map]; rfl
  have e3 : inD h (.d x) (.loc l) = some (xs.any fun z => PyData.eqv z x) := by
    unfold inD
    rw [e2]
    show (if SeqAt.shaped x && SeqAt.shaped (.list xs) then _ else none) = _
    rw [a.shaped hk, b.shaped hj]; rfl
  unfold gIn; rw [e3]; rfl
theorem gm_niS {x : PyData} {xs : List PyData} {k j : Nat} {h : WH} (a : Sd k x) (b : Sd j (.list xs)) (hk : k ≤ 64 := by decide) (hj : j ≤ 64 := by decide) :
    gNotIn (.d x) (.d (.list xs)) h = some (.d (.bool (!xs.any fun z => PyData.eqv z x))) := by
  have e3 : inD h (.d x) (.d (.list xs)) = some (xs.any fun z => PyData.eqv z x) := by
    show (if SeqAt.shaped x && SeqAt.shaped (.list xs) then _ else none) = _
    rw [a.shaped hk, b.shaped hj]; rfl
  unfold gNotIn; rw [e3]; rfl
theorem cnt_le {α : Type} {p q : α → Bool} : ∀ {xs : List α}, (∀ x ∈ xs, q x = true → p x = true) → (xs.filter q).length ≤ (xs.filter p).length
  | [], _ => Nat.le_refl _
  | x :: xs, h => by
    have ih := cnt_le (xs := xs) fun y m => h y (List.mem_cons_of_mem _ m)
    rw [List.filter_cons, List.filter_cons]
    by_cases hq : q x = true
    · rw [if_pos hq, if_pos (h x (List.mem_cons_self ..) hq), List.length_cons, List.length_cons]; omega
    · rw [if_neg hq]
      split
      · rw [List.length_cons]; omega
      · exact ih
theorem cnt_lt {α : Type} {p q : α → Bool} : ∀ {xs : List α}, (∀ x ∈ xs, q x = true → p x = true) → (∃ x ∈ xs, p x = true ∧ q x = false) → (xs.filter q).length < (xs.filter p).length
  | [], _, h => by obtain ⟨_, m, _⟩ := h; exact nomatch m
  | x :: xs, h, ⟨z, m, hp, hq⟩ => by
    have h2 : ∀ y ∈ xs, q y = true → p y = true := fun y m => h y (List.mem_cons_of_mem _ m)
    rw [List.filter_cons, List.filter_cons]
    rcases List.mem_cons.mp m with rfl | m
    · rw [if_pos hp, if_neg (by rw [hq]; decide), List.length_cons]
      have := cnt_le h2; omega
    · have ih := cnt_lt h2 ⟨z, m, hp, hq⟩
      by_cases hq : q x = true
      · rw [if_pos hq, if_pos (h x (List.mem_cons_self ..) hq), List.length_cons, List.length_cons]; omega
      · rw [if_neg hq]
        split
        · rw [List.length_cons]; omega
        · exact ih
end L3

namespace L3
open PySem PySem.Spec PyProof.Rows L2
structure Gd (k w : Nat) (x : PyData) : Prop where
  sd : Sd k x
  ls : x.leavesShort 40 = true
  sh : x.showable = true
  wt : x.weight ≤ w
theorem Gd.mono {k w j v : Nat} {x : PyData} (g : Gd k w x) (h1 : k ≤ j) (h2 : w ≤ v) : Gd j v x := ⟨g.sd.mono h1, g.ls, g.sh, Nat.le_trans g.wt h2⟩
theorem log2_lt {n : Nat} (h : n < 10 ^ 30) : n.log2 ≤ 99 := by
  have := log2_le (n := n) (m := 10 ^ 30) (by omega)
  have e : (10 ^ 30 : Nat).log2 = 99 := by decide +kernel
  omega
theorem gd_int {k w : Nat} {i : Int} (h : i.natAbs < 10 ^ 30) (hw : 100 ≤ w := by decide) : Gd k w (.int i) := by
  have h2 := log2_lt h
  refine ⟨sd_int, ?_, ?_, ?_⟩
  · have e := int_text_length_le10 (k := 30) (by decide) h
    unfold PyData.leavesShort
    refine decide_eq_true ?_
    show (Str.ofString (toString i)).length ≤ 40
    rw [PySem.ofString_length]; omega
  · unfold PyData.showable; exact decide_eq_true (by omega)
  · unfold PyData.weight; split <;> omega
def Plain (s : Str) : Prop := ∀ c ∈ s.cps.toList, c < 0x110000
theorem gd_str {k w : Nat} {s : Str} (p : Plain s) (h : s.cps.size ≤ w) : Gd k w (.str s) := by
  refine ⟨⟨?_, by unfold PyData.depth; omega⟩, ?_, by unfold PyData.showable; rfl, by unfold PyData.weight; exact h⟩
  · unfold PyData.canLay0 PyData.strOk
    rw [Array.all_eq_true_iff_forall_mem]
    exact fun c m => decide_eq_true (p c (Array.mem_toList_iff.mpr m))
  · unfold PyData.leavesShort
    rw [List.all_eq_true]
    exact fun c m => decide_eq_true (Nat.lt_trans (p c m) (by decide))
theorem gd_all {k w : Nat} : ∀ {xs : List PyData}, (∀ x ∈ xs, Gd k w x) → PyData.leavesShortAll 40 xs = true ∧ PyData.showableAll xs = true ∧ PyData.weightAll xs ≤ (w + 1) * xs.length
  | [], _ => ⟨by unfold PyData.leavesShortAll; rfl, by unfold PyData.showableAll; rfl, by unfold PyData.weightAll; omega⟩
  | x :: xs, h => by
    have a := h x (List.mem_cons_self ..)
    obtain ⟨c, d, e⟩ := gd_all (xs := xs) fun y m => h y (List.mem_cons_of_mem _ m)
    refine ⟨?_, ?_, ?_⟩
    · unfold PyData.leavesShortAll; rw [a.ls, c]; rfl
    · unfold PyData.showableAll; rw [a.sh, d]; rfl
    · unfold PyData.weightAll
      have := a.wt
      rw [List.length_cons, Nat.mul_succ]; omega
theorem gd_list {k w n v : Nat} {xs : List PyData} (h : ∀ x ∈ xs, Gd k w x) (hl : xs.length ≤ n) (hv : (w + 1) * n ≤ v) : Gd (k + 1) v (.list xs) := by
  obtain ⟨a, b, c⟩ := gd_all h
  have := Nat.mul_le_mul_left (w + 1) hl
  exact ⟨sd_list fun x m => (h x m).sd, by unfold PyData.leavesShort; exact a, by unfold PyData.showable; exact b, by unfold PyData.weight; omega⟩
theorem gd_tup {k w n v : Nat} {xs : List PyData} (h : ∀ x ∈ xs, Gd k w x) (hl : xs.length ≤ n) (hv : (w + 1) * n ≤ v) : Gd (k + 1) v (.tuple xs) := by
  obtain ⟨a, b, c⟩ := gd_all h
  have := Nat.mul_le_mul_left (w + 1) hl
  exact ⟨sd_tup fun x m => (h x m).sd, by unfold PyData.leavesShort; exact a, by unfold PyData.showable; exact b, by unfold PyData.weight; omega⟩
theorem gm_repr {k w : Nat} {x : PyData} {h : WH} (g : Gd k w x) (hk : k ≤ 64 := by decide) (hw : w ≤ 390000 := by decide) : gRepr [.d x] h = some (.d (.str x.shown)) := by
  have l := PyData.shown_le 40 (by decide) x g.ls
  have l2 := Nat.mul_le_mul_left 42 (Nat.le_trans g.wt hw)
  have e : sizeLine = 16777216 := rfl
  show (if x.showable ∧ flat x ∧ x.depth ≤ 64 ∧ x.shown.length ≤ sizeLine then some (W.d (.str x.shown)) else none) = _
  exact if_pos ⟨g.sh, flat_of g.sd.1, Nat.le_trans g.sd.2 hk, by omega⟩
end L3

namespace L3
open PySem PySem.Spec PyProof.Rows L2
def DrawOk (c : List W → M W) : Prop := ∀ {b : Int} {n : Nat} {o : Ob} {rest : WH}, Pen n o → 0 < b ∧ b ≤ 10 ^ 30 → n ≤ 1000000 → HLt rest →
    Ok (c [.loc 0, .d (.int b)] (o :: rest)) fun w h' => ∃ d o', w = .d (.int d) ∧ 0 ≤ d ∧ d < b ∧ h' = o' :: rest ∧ Pen (n + 1) o'
theorem drawA_ok {q0 q1 q2 q3 q4 q5 q6 q7 q8 : Int} (hk : 0 ≤ q0 ∧ q0 < 10 ^ 6 ∧ 0 ≤ q1 ∧ q1 < 10 ^ 6 ∧ 10 ^ 6 < q2 ∧ q2 < 2147483648 ∧ 0 ≤ q3 ∧ q3 < 10 ^ 6 ∧ 0 ≤ q4 ∧ q4 < 10 ^ 6 ∧ 10 ^ 6 < q5 ∧ q5 < 2147483648 ∧ 0 ≤ q6 ∧ q6 < 10 ^ 6 ∧ 0 ≤ q7 ∧ q7 < 10 ^ 6 ∧ 10 ^ 6 < q8 ∧ q8 < 2147483648) : DrawOk (M_drawA q0 q1 q2 q3 q4 q5 q6 q7 q8) := by
  intro b n o rest p hb hn hr
  obtain ⟨ns, k, g, rfl, k0, kn, g0⟩ := p
  have hb1 := hb.1
  have b30 : b ≤ 10 ^ 30 := hb.2
  have fin : ∀ (d : Int) (o' : Ob), 0 ≤ d → d < b → Pen (n + 1) o' → keepP (PenO ns k g :: rest) (o' :: rest) ∧ ∃ w w', endF1 (.rt (.d (.int d))) = some w ∧ cut (PenO ns k g :: rest).length (o' :: rest) w = some w' ∧
      ∃ d o2, w' = .d (.int d) ∧ 0 ≤ d ∧ d < b ∧ (o' :: rest).take (PenO ns k g :: rest).length = o2 :: rest ∧ Pen (n + 1) o2 := fun d o' h1 h2 h3 =>
    ⟨keep_pen ⟨_, h3⟩ hr, _, _, rfl, rfl, d, o', rfl, h1, h2, List.take_of_length_le (Nat.le_refl _), h3⟩
  refine ok_fnM rfl ?_
  show SOk (D_drawA q0 q1 q2 q3 q4 q5 q6 q7 q8 [some (.loc 0), some (.d (.int b)), none, none, none, none, none] (PenO ns k g :: rest)) _
  unfold D_drawA PenO
  refine sk_seq (sk_if ?_)
  simp only [ok_tB, ok_op, ok_var, ok_c, List.getElem?_cons_zero, List.getElem?_cons_succ, Option.join_some, ex_eq, ix_pen0, ix_pen1, ix_pen2, gm_gt, asB_b]
  by_cases hg : 0 < g
  · rw [if_pos (decide_eq_true hg)]
    refine sk_seq (sk_set ?_)
    simp only [ok_tB, ok_op, ok_var, ok_c, List.getElem?_cons_zero, List.getElem?_cons_succ, Option.join_some, ex_eq, ix_pen0, ix_pen1, ix_pen2, gm_mod hb1]
    refine sk_seq (sk_asg ?_)
    simp only [ok_tB, ok_op, ok_var, ok_c, List.set_cons_zero, List.set_cons_succ, List.getElem?_cons_zero, List.getElem?_cons_succ, Option.join_some, ex_eq, ix_pen0, ix_pen1, ix_pen2, gm_div hb1 b30]
    refine set_pen2 rfl rfl (sk_ret ?_)
    simp only [ok_tB, ok_op, ok_var, ok_c, List.getElem?_cons_zero, List.getElem?_cons_succ, Option.join_some, ex_eq]
    exact fin _ _ (mod_bd hb1).1 (mod_bd hb1).2 ⟨ns, k, g / b, rfl, k0, by omega, Int.ediv_nonneg g0 (by omega)⟩
  · rw [if_neg (fun e => hg (of_decide_eq_true e))]
    refine sk_skip (sk_seq (sk_set ?_))
    simp only [ok_tB, ok_op, ok_var, ok_c, List.getElem?_cons_zero, List.getElem?_cons_succ, Option.join_some, ex_eq, ix_pen0, ix_pen1, ix_pen2]
    refine sk_seq (sk_asg ?_)
    simp only [ok_tB, ok_op, ok_var, ok_c, List.set_cons_zero, List.set_cons_succ, List.getElem?_cons_zero, List.getElem?_cons_succ, Option.join_some, ex_eq, ix_pen0, ix_pen1, ix_pen2, gm_add]
    refine set_pen1 rfl rfl (sk_seq (sk_set ?_))
    simp only [ok_op, ok_var, ok_c, List.set_cons_zero, List.set_cons_succ, List.getElem?_cons_zero, List.getElem?_cons_succ, Option.join_some, ex_eq, gm_add]
    refine ⟨_, gm_mul (by omega), _, gm_add, ?_⟩
    refine sk_seq (SOk.imp (Q := fun f ws h => f = .nx ∧ ∃ cell : Int, ws = [some (.loc 0), some (.d (.int b)), none, some (.d (.int k)), some (.d (.int cell)), none, none] ∧ h = PenO ns (k + 1) g :: rest) ?_ ?_)
    · refine sk_if ?_
      simp only [ok_tB, ok_op, ok_var, ok_c, ok_lst, ok_nil, List.set_cons_zero, List.set_cons_succ, List.getElem?_cons_zero, List.getElem?_cons_succ, Option.join_some, ex_eq, ix_pen0]
      refine ⟨by decide, [], rfl, _, gs_ne (sd_list (k := 0) fun x m => ?_) (sd_list (k := 0) fun x m => nomatch m), _, rfl, ?_⟩
      · obtain ⟨i, _, rfl⟩ := List.mem_map.mp m; exact sd_int
      · rw [eqv_nil]
        cases ns with
        | nil => exact sk_skip ⟨rfl, _, rfl, rfl⟩
        | cons z zs =>
          rw [if_pos (show (!(List.map PyData.int (z :: zs)).isEmpty) = true from rfl)]
          refine sk_set ?_
          simp only [ok_op, ok_b, ok_cons, ok_nil, ok_var, ok_c, List.getElem?_cons_zero, List.getElem?_cons_succ, Option.join_some, ex_eq, ix_pen0, gm_len]
          have hl : (0 : Int) < ((z :: zs).map PyData.int).length := by rw [List.length_map, List.length_cons]; omega
          obtain ⟨x, m, e⟩ := ix_list (xs := (z :: zs).map PyData.int) (i := k % ((z :: zs).map PyData.int).length) (h := PenO (z :: zs) (k + 1) g :: rest) (mod_bd hl).1 (mod_bd hl).2
          obtain ⟨c, _, rfl⟩ := List.mem_map.mp m
          exact ⟨_, gm_mod hl, _, e, trivial, c, rfl, rfl⟩
    · rintro _ _ _ ⟨rfl, cell, rfl, rfl⟩
      unfold PenO
      refine sk_seq (SOk.imp (Q := fun f ws h => (f = .nx ∧ ws = [some (.loc 0), some (.d (.int b)), none, some (.d (.int k)), some (.d (.int cell)), none, none] ∧ h = PenO ns (k + 1) g :: rest) ∨
        ∃ d o', f = .rt (.d (.int d)) ∧ 0 ≤ d ∧ d < b ∧ h = o' :: rest ∧ Pen (n + 1) o') (sk_if ?_) ?_)
      · simp only [ok_tAnd, ok_tB, ok_op, ok_b, ok_cons, ok_nil, ok_var, ok_c, List.getElem?_cons_zero, List.getElem?_cons_succ, Option.join_some, ex_eq, ix_pen0, gm_len, gm_lt, gm_ge, gm_abs, asB_b]
        by_cases hk : decide (k < ((ns.map PyData.int).length : Int)) = true
        · rw [if_pos hk]
          simp only [ok_tB, ok_op, ok_b, ok_cons, ok_nil, ok_var, ok_c, List.getElem?_cons_zero, List.getElem?_cons_succ, Option.join_some, ex_eq, gm_abs, gm_ge]
          obtain ⟨ac, hac, ac0⟩ : ∃ ac, (if cell < 0 then -cell else cell) = ac ∧ 0 ≤ ac := ⟨_, rfl, by split <;> omega⟩
          rw [hac]
          refine ⟨_, gm_pow (by decide) (by decide), _, gm_ge, _, rfl, ?_⟩
          split
          · refine sk_seq (sk_set ?_)
            simp only [ok_op, ok_b, ok_cons, ok_nil, ok_var, ok_c, List.getElem?_cons_zero, List.getElem?_cons_succ, Option.join_some, ex_eq, gm_abs]
            rw [hac]
            refine ⟨_, gm_mul (.inl (by decide)), _, gm_lt, _, gm_intb, _, gm_add, ?_⟩
            refine sk_seq (sk_asg ?_)
            simp only [ok_op, ok_b, ok_cons, ok_nil, ok_var, ok_c, List.set_cons_zero, List.set_cons_succ, List.getElem?_cons_zero, List.getElem?_cons_succ, Option.join_some, ex_eq, gm_div hb1 b30]
            refine set_pen2 rfl rfl (sk_ret ?_)
            simp only [ok_op, ok_var, ok_c, List.getElem?_cons_zero, List.getElem?_cons_succ, Option.join_some, ex_eq, gm_mod hb1]
            refine .inr ⟨_, _, rfl, (mod_bd hb1).1, (mod_bd hb1).2, rfl, ns, k + 1, _, rfl, by omega, by omega, Int.ediv_nonneg ?_ (by omega)⟩
            split <;> omega
          · exact sk_skip (.inl ⟨rfl, rfl, rfl⟩)
        · rw [if_neg hk]
          exact ok_ok.mpr (by rw [if_neg (by decide)]; exact sk_skip (.inl ⟨rfl, rfl, rfl⟩))
      · rintro _ _ _ (⟨rfl, rfl, rfl⟩ | ⟨d, o', rfl, h1, h2, rfl, h3⟩)
        · unfold PenO
          refine sk_seq (sk_set ?_)
          simp only [ok_op, ok_var, ok_c, List.getElem?_cons_zero, List.getElem?_cons_succ, Option.join_some, ex_eq]
          have kb : k ≤ 1000000 := by omega
          have m0 := mul_bd (show 0 ≤ q3 by omega) (show q3 ≤ 1000000 by omega) k0 kb
          refine ⟨_, gm_mod (by omega), _, gm_mul (.inl (by omega)), _, gm_add, _, gm_add, _, gm_pow (by decide) ?_, _, gm_mod (by omega), ?_⟩
          · have := mod_bd (i := cell) (j := q2) (by omega); omega
          refine sk_seq (sk_set ?_)
          simp only [ok_op, ok_var, ok_c, List.set_cons_zero, List.set_cons_succ, List.getElem?_cons_zero, List.getElem?_cons_succ, Option.join_some, ex_eq]
          generalize hx : (_ : Int) ^ _ % q5 = x
          have xb : 0 ≤ x ∧ x < q5 := hx ▸ mod_bd (by omega)
          have m1 := mul_bd xb.1 (show x ≤ 2147483648 by omega) (show 0 ≤ k + q6 by omega) (show k + q6 ≤ 2000000 by omega)
          have m3 := mul_bd (show 0 ≤ q7 by omega) (show q7 ≤ 1000000 by omega) k0 kb
          have m2 := mul_bd (show 0 ≤ q7 * k by omega) (show q7 * k ≤ 1000000000000 by omega) k0 kb
          refine ⟨_, gm_add, _, gm_mul (by omega), _, gm_mul (.inl (by omega)), _, gm_mul (.inl (by omega)), _, gm_add, _, gm_add, _, gm_pow (by decide) (by omega), _, gm_mod (by omega), ?_⟩
          refine sk_ret ?_
          simp only [ok_op, ok_var, ok_c, List.set_cons_zero, List.set_cons_succ, List.getElem?_cons_zero, List.getElem?_cons_succ, Option.join_some, ex_eq]
          refine ⟨_, gm_div (by decide) (by decide), _, gm_mod hb1, ?_⟩
          exact fin _ _ (mod_bd hb1).1 (mod_bd hb1).2 ⟨ns, k + 1, g, rfl, by omega, by omega, g0⟩
        · exact fin _ _ h1 h2 h3
theorem call_draw {c : List W → M W} (hd : DrawOk c) {e : Den} {i : Nat} {ws : WSt} {n : Nat} {o : Ob} {rest : WH} {b : Int} {Q : W → WH → Prop} (hi : ws[i]? = some (some (.loc 0))) (he : e ws (o :: rest) = some (.ok (.d (.int b)), o :: rest)) (p : Pen n o) (hb : 0 < b ∧ b ≤ 10 ^ 30) (hn : n ≤ 1000000) (hr : HLt rest)
    (q : ∀ d o', 0 ≤ d → d < b → Pen (n + 1) o' → Q (.d (.int d)) (o' :: rest)) : Ok (eCall 2 0 (pk0 [0, 1]) c (aCons (eVar i) (aCons e aNil)) aNil ws (o :: rest)) Q := by
  rw [ok_call, ok_cons, ok_varS hi, ok_cons]
  refine ⟨_, _, he, ?_⟩
  refine ok_nil.mpr (ok_nil.mpr ⟨⟨rfl, rfl⟩, (hd p hb hn hr).imp ?_⟩)
  rintro w h' ⟨d, o', rfl, h1, h2, rfl, h3⟩
  exact q d o' h1 h2 h3
def NmOk (s : Str) : Bool := decide (1 ≤ s.cps.size) && decide (s.cps.size ≤ 8) && s.cps.toList.all fun c => decide (97 ≤ c) && decide (c ≤ 122)
theorem NmOk.sz {s : Str} (h : NmOk s = true) : 1 ≤ s.cps.size ∧ s.cps.size ≤ 8 := by
  unfold NmOk at h
  simp only [Bool.and_eq_true, decide_eq_true_eq] at h
  exact h.1
theorem NmOk.pl {s : Str} (h : NmOk s = true) : Plain s := fun c m => by
  unfold NmOk at h
  simp only [Bool.and_eq_true, decide_eq_true_eq, List.all_eq_true] at h
  have := h.2 c m; omega
def Nm (x : PyData) : Prop := ∃ s : Str, x = .str s ∧ NmOk s = true
def letters : Str := "abcdefghijklmnopqrstuvwxyz"
theorem letters_size : letters.cps.size = 26 := by decide +kernel
theorem letters_nm : ∀ c ∈ letters.cps.toList, 97 ≤ c ∧ c ≤ 122 := by
  have h : (letters.cps.toList.all fun c => decide (97 ≤ c) && decide (c ≤ 122)) = true := by decide +kernel
  intro c m
  have := List.all_eq_true.mp h c m
  simpa using this
theorem ix_letters {i : Int} {h : WH} (h0 : 0 ≤ i) (h1 : i < 26) : ∃ c, (97 ≤ c ∧ c ≤ 122) ∧ gIx (.d (.str letters)) (.d (.int i)) h = some (.d (.str ⟨#[c]⟩)) := by
  obtain ⟨c, m, e⟩ := ix_str (z := letters) (i := i) (h := h) (by rw [letters_size]; decide) h0 (by rw [letters_size]; exact h1)
  exact ⟨c, letters_nm c m, e⟩
theorem plain_app {x y : Str} (h : Plain x) (h2 : Plain y) : Plain (x ++ y) := fun c m => by
  rw [str_app, Array.toList_append, List.mem_append] at m
  exact m.elim (h c) (h2 c)
def Lw (s : Str) : Prop := ∀ c ∈ s.cps.toList, 97 ≤ c ∧ c ≤ 122
theorem lw_one {c : Nat} (h : 97 ≤ c ∧ c ≤ 122) : Lw ⟨#[c]⟩ := fun x m => by
  obtain rfl := List.mem_singleton.mp m; exact h
theorem lw_app {x y : Str} (h : Lw x) (h2 : Lw y) : Lw (x ++ y) := fun c m => by
  rw [str_app, Array.toList_append, List.mem_append] at m
  exact m.elim (h c) (h2 c)
theorem nm_of {s : Str} (h : Lw s) (h1 : 1 ≤ s.cps.size) (h2 : s.cps.size ≤ 8) : Nm (.str s) := by
  refine ⟨s, rfl, ?_⟩
  unfold NmOk
  simp only [Bool.and_eq_true, decide_eq_true_eq, List.all_eq_true]
  exact ⟨⟨h1, h2⟩, h⟩
theorem keepP_one {n : Nat} {o o' : Ob} {rest : WH} (p : Pen n o') : keepP [o] (o' :: rest) := by
  refine ⟨by rw [List.length_cons, List.length_cons, List.length_nil]; omega, .inr fun x hx => ?_⟩
  obtain rfl := List.mem_singleton.mp (show x ∈ [o'] from hx)
  obtain ⟨ns, k, g, rfl, _⟩ := p
  rfl
theorem namesA_ok {c0 : List W → M W} (hd : DrawOk c0) {many : Int} {n : Nat} {o : Ob} (p : Pen n o) (hm : 1 ≤ many ∧ many ≤ 8) (hn : n ≤ 900000) :
    Ok (M_namesA c0 [.loc 0, .d (.int many)] [o]) fun w h' => ∃ xs o', w = .d (.list xs) ∧ (xs.length : Int) = many ∧ (∀ x ∈ xs, Nm x) ∧ h' = [o'] ∧ Pen (n + 100) o' := by
  refine ok_fnM rfl ?_
  show SOk (D_namesA c0 [some (.loc 0), some (.d (.int many)), none, none, none, none, none, none, none, none] [o]) _
  unfold D_namesA
  refine sk_seq (sk_set ?_)
  rw [ok_c]
  refine sk_seq (sk_set (call_draw hd rfl rfl p (by decide) (by omega) hlt_nil fun way o1 w0 w1 p1 => ?_))
  refine sk_seq (sk_set (call_draw hd rfl rfl p1 (by decide) (by omega) hlt_nil fun start o2 s0 s1 p2 => ?_))
  refine sk_seq (sk_set ?_)
  rw [ok_new, ok_nil]
  refine ⟨by decide, ?_⟩
  simp only [List.set_cons_zero, List.set_cons_succ, List.length_cons, List.length_nil, List.cons_append, List.nil_append]
  refine sk_seq (sk_for (fun rem ws h => ∃ (x6 x7 x8 : Option W) (xs : List PyData) (o' : Ob), ws = [some (.loc 0), some (.d (.int many)), some (.d (.str letters)), some (.d (.int way)), some (.d (.int start)), some (.loc 1), x6, x7, x8, none] ∧
      h = [o', .lst (xs.map .d)] ∧ (∀ x ∈ xs, Nm x) ∧ (xs.length + rem.length : Int) = many ∧ (∀ w ∈ rem, ∃ k : Int, w = .d (.int k) ∧ 0 ≤ k ∧ k < many) ∧ Pen (n + 2 + 9 * xs.length) o') ?_)
  rw [ok_range1, ok_varS rfl]
  refine ⟨_, rng_ok (by omega), ⟨none, none, none, [], o2, rfl, rfl, (fun _ m => nomatch m), ?_, fun w m => ?_, p2⟩, ?_, ?_⟩
  · rw [rngL_length]; show (0 : Int) + _ = _; omega
  · obtain ⟨k, e, a, b⟩ := rng_mem m
    exact ⟨k, e, a, by omega⟩
  · rintro w r _ _ ⟨x6, x7, x8, xs, o', rfl, rfl, hx, hl, hk, p'⟩
    obtain ⟨k, rfl, k0, k1⟩ := hk w (List.mem_cons_self ..)
    have hl2 : (xs.length : Int) + r.length + 1 = many := by rw [List.length_cons] at hl; omega
    refine ok_optS.mpr ?_
    simp only [List.set_cons_zero, List.set_cons_succ]
    refine sk_seq (sk_set ?_)
    simp only [ok_op, ok_var, ok_c, List.getElem?_cons_zero, List.getElem?_cons_succ, Option.join_some, ex_eq]
    obtain ⟨c1, hc1, e1⟩ := ix_letters (i := (start + 7 * k) % 26) (h := [o', .lst (xs.map .d)]) (mod_bd (by decide)).1 (mod_bd (by decide)).2
    refine ⟨_, gm_mul (.inl (by decide)), _, gm_add, _, gm_mod (by decide), _, e1, ?_⟩
    simp only [List.set_cons_zero, List.set_cons_succ]
    refine sk_seq (sk_set ?_)
    rw [ok_comp]
    refine ok_compA (fun rem acc h => ∃ (ys : List Str) (o3 : Ob), acc = ys.map (fun y => W.d (.str y)) ∧ (∀ y ∈ ys, Lw y ∧ y.cps.size = 1) ∧ ys.length + rem.length ≤ 7 ∧ h = [o3, .lst (xs.map .d)] ∧ Pen (n + 3 + 9 * xs.length + ys.length) o3) ?_
    rw [ok_range1]
    refine call_draw hd rfl rfl p' (by decide) (by omega) hlt_one fun many2 o3 m0 m1 p3 => ?_
    refine ⟨_, rng_ok (by omega), ⟨[], o3, rfl, (fun _ m => nomatch m), ?_, rfl, p3.mono (Nat.le_of_eq (by show n + 2 + 9 * xs.length + 1 = n + 3 + 9 * xs.length + 0; omega))⟩, ?_, ?_⟩
    · rw [rngL_length]; show 0 + _ ≤ _; omega
    · rintro w r acc _ ⟨ys, o4, rfl, hy, ly, rfl, p4⟩
      rw [List.length_cons] at ly
      refine ⟨by rw [List.length_map]; exact Nat.lt_of_le_of_lt (show ys.length ≤ 7 by omega) (by decide), ?_⟩
      refine ok_optS.mpr ?_
      rw [ok_tTrue, if_pos rfl, ok_op, ok_varS rfl]
      refine call_draw hd rfl rfl p4 (by decide) (by omega) hlt_one fun d o5 d0 d1 p5 => ?_
      obtain ⟨c2, hc2, e2⟩ := ix_letters (i := d) (h := [o5, .lst (xs.map .d)]) d0 d1
      refine ⟨_, e2, trivial, ys ++ [⟨#[c2]⟩], o5, by rw [List.map_append]; rfl, ?_, ?_, rfl, ?_⟩
      · intro y m
        rcases List.mem_append.mp m with m | m
        · exact hy y m
        · obtain rfl := List.mem_singleton.mp m
          exact ⟨lw_one hc2, rfl⟩
      · rw [List.length_append, List.length_singleton]; omega
      · rw [List.length_append, List.length_singleton]; exact p5.mono (by omega)
    · rintro acc _ ⟨ys, o4, rfl, hy, ly, rfl, p4⟩
      rw [List.length_nil] at ly
      refine ⟨ys.map .str, (congrArg dats (List.map_map (g := W.d) (f := PyData.str) (l := ys)).symm).trans (dats_of _), ?_⟩
      simp only [List.set_cons_zero, List.set_cons_succ]
      refine sk_do (ok_lm (l := 1) (xs := xs.map .d) ?_)
      rw [ok_varS rfl]
      refine ⟨rfl, rfl, ?_⟩
      simp only [ok_cons, ok_nil, ok_op, ok_lst, ok_sm, ok_var, ok_c, List.getElem?_cons_zero, List.getElem?_cons_succ, Option.join_some, ex_eq]
      obtain ⟨c0, hc0, e0⟩ := ix_letters (i := k) (h := [o4, .lst (xs.map .d)]) k0 (by omega)
      have hs := sum_ones fun y m => (hy y m).2
      have n1 : Nm (.str ⟨#[c0]⟩) := nm_of (lw_one hc0) (show 1 ≤ 1 by decide) (show 1 ≤ 8 by decide)
      have n2 : Nm (.str ⟨#[c1]⟩) := nm_of (lw_one hc1) (show 1 ≤ 1 by decide) (show 1 ≤ 8 by decide)
      have hA : Lw "aaaaaaa" ∧ ("aaaaaaa" : Str).cps.size = 7 := by
        have h : ((("aaaaaaa" : Str).cps.toList.all fun c => decide (97 ≤ c) && decide (c ≤ 122)) && decide (("aaaaaaa" : Str).cps.size = 7)) = true := by decide +kernel
        rw [Bool.and_eq_true] at h
        exact ⟨fun c m => by simpa using List.all_eq_true.mp h.1 c m, of_decide_eq_true h.2⟩
      have z3 : ("aaaaaaa" ++ (⟨#[c1]⟩ : Str)).cps.size = 8 := by rw [str_app, Array.size_append, hA.2]; rfl
      have n3 : Nm (.str ("aaaaaaa" ++ ⟨#[c1]⟩)) := nm_of (lw_app hA.1 (lw_one hc1)) (by omega) (by omega)
      have js : (Str.join "" ys).cps.size = ys.length := by rw [join_size, hs]
      have z4 : ((⟨#[c1]⟩ : Str) ++ Str.join "" ys).cps.size = 1 + ys.length := by rw [str_app, Array.size_append, js]; rfl
      have n4 : Nm (.str (⟨#[c1]⟩ ++ Str.join "" ys)) := nm_of (lw_app (lw_one hc1) (fun c m => by
        obtain ⟨y, my, mc⟩ := join_mem ys c m; exact (hy y my).1 c mc)) (by omega) (by omega)
      have all4 : ∀ x ∈ [PyData.str ⟨#[c0]⟩, .str ⟨#[c1]⟩, .str ("aaaaaaa" ++ ⟨#[c1]⟩), .str (⟨#[c1]⟩ ++ Str.join "" ys)], Nm x := by
        intro x m
        simp only [List.mem_cons, List.not_mem_nil, or_false] at m
        rcases m with rfl | rfl | rfl | rfl
        · exact n1
        · exact n2
        · exact n3
        · exact n4
      obtain ⟨x, mx, ex⟩ := ix_list (xs := [PyData.str ⟨#[c0]⟩, .str ⟨#[c1]⟩, .str ("aaaaaaa" ++ ⟨#[c1]⟩), .str (⟨#[c1]⟩ ++ Str.join "" ys)]) (i := way) (h := [o4, .lst (xs.map .d)]) w0 w1
      refine ⟨_, e0, _, gm_adds (by rw [hA.2]; exact show 7 + 1 ≤ 1000000 by decide), rfl, _, gm_join0 (by omega), _, gm_adds (by rw [js]; show 1 + ys.length ≤ _; omega), show 4 ≤ sizeLine by decide, _, rfl, _, ex, _, rfl, .d .none, (xs ++ [x]).map .d, ?_, ?_⟩
      · show (if (xs.map W.d).length < sizeLine then _ else none) = _
        rw [List.length_map, if_pos (Nat.lt_of_le_of_lt (show xs.length ≤ 8 by omega) (by decide)), List.map_append]; rfl
      · refine ⟨trivial, _, _, _, xs ++ [x], o4, rfl, rfl, ?_, ?_, fun w m => hk w (List.mem_cons_of_mem _ m), p4.mono ?_⟩
        · intro y m
          rcases List.mem_append.mp m with m | m
          · exact hx y m
          · obtain rfl := List.mem_singleton.mp m; exact all4 _ mx
        · rw [List.length_append, List.length_singleton]; omega
        · rw [List.length_append, List.length_singleton]; omega
  · rintro ws h ⟨x6, x7, x8, xs, o', rfl, rfl, hx, hl, hk, p'⟩
    rw [List.length_nil] at hl
    refine sk_ret ((ok_varS (x := .loc 1) rfl).mpr ?_)
    refine ⟨keepP_one p', .loc 1, .d (.list xs), rfl, ?_, xs, o', rfl, by omega, hx, rfl, p'.mono (by omega)⟩
    exact cut_lst (Nat.le_refl 1) rfl (dats_of _)
theorem fin_pen {n : Nat} {o o' : Ob} {rest : WH} {x : PyData} {Q : W → WH → Prop} (p : Pen n o') (hr : HLt rest) (q : Q (.d x) (o' :: rest)) :
    keepP (o :: rest) (o' :: rest) ∧ ∃ w w', endF1 (.rt (.d x)) = some w ∧ cut (o :: rest).length (o' :: rest) w = some w' ∧ Q w' ((o' :: rest).take (o :: rest).length) :=
  ⟨keep_pen ⟨_, p⟩ hr, _, _, rfl, rfl, by rw [show (o' :: rest).take (o :: rest).length = o' :: rest from List.take_of_length_le (Nat.le_refl _)]; exact q⟩
def Two (x : PyData) : Prop := ∃ i j : Int, x = .tuple [.int i, .int j] ∧ (-2000 ≤ i ∧ i ≤ 999999999999999) ∧ j.natAbs ≤ 999999999999999
theorem numbersA_ok {c0 : List W → M W} (hd : DrawOk c0) {way size : Int} {n : Nat} {o : Ob} {rest : WH} (p : Pen n o) (hw : 0 ≤ way ∧ way < 6) (hs : 0 ≤ size ∧ size ≤ 1000) (hn : n ≤ 900000) (hr : HLt rest) :
    Ok (M_numbersA c0 [.loc 0, .d (.int way), .d (.int size)] (o :: rest)) fun w h' => ∃ x o', w = .d x ∧ Two x ∧ h' = o' :: rest ∧ Pen (n + 3) o' := by
  refine ok_fnM rfl ?_
  show SOk (D_numbersA c0 [some (.loc 0), some (.d (.int way)), some (.d (.int size)), none, none, none] (o :: rest)) _
  unfold D_numbersA
  refine sk_seq (sk_set (call_draw hd rfl rfl p (by omega) (by omega) hr fun one o1 a0 a1 p1 => ?_))
  refine sk_seq (sk_set (call_draw hd rfl rfl p1 (by decide) (by omega) hr fun two o2 b0 b1 p2 => ?_))
  refine sk_seq (sk_set ?_)
  simp only [List.set_cons_zero, List.set_cons_succ, ok_lst, ok_cons, ok_tup, ok_nil, ok_op, ok_var, ok_c, List.getElem?_cons_zero, List.getElem?_cons_succ, Option.join_some, ex_eq]
  refine call_draw hd rfl rfl p2 (by omega) (by omega) hr fun d o3 d0 d1 p3 => ?_
  refine ⟨show 2 ≤ sizeLine by decide, _, rfl, _, gm_sub, _, gm_div (by decide) (by decide), _, gm_add, show 2 ≤ sizeLine by decide, _, rfl, show 2 ≤ sizeLine by decide, _, rfl, show 2 ≤ sizeLine by decide, _, rfl, show 4 ≤ sizeLine by decide, _, rfl, ?_⟩
  refine sk_ret ?_
  simp only [List.set_cons_zero, List.set_cons_succ, ok_lst, ok_cons, ok_tup, ok_nil, ok_op, ok_var, ok_c, List.getElem?_cons_zero, List.getElem?_cons_succ, Option.join_some, ex_eq]
  have e10 : (10 : Int) ^ (15 : Int).toNat = 10 ^ 15 := rfl
  obtain ⟨x, mx, ex⟩ := ix_list (xs := [PyData.tuple [.int one, .int d], .tuple [.int (size - one), .int (one + two / 2)], .tuple [.int two, .int one], .tuple [.int one, .int two]] ++
    [PyData.tuple [.int ((10 : Int) ^ (15 : Int).toNat - 1 - one), .int (1 - (10 : Int) ^ (15 : Int).toNat + two)], .tuple [.int (one - size / 2), .int (0 - one)]]) (i := way) (h := o3 :: rest) hw.1 hw.2
  refine ⟨_, gm_pow (by decide) (by decide), _, gm_sub, _, gm_sub, _, gm_pow (by decide) (by decide), _, gm_sub, _, gm_add, show 2 ≤ sizeLine by decide, _, rfl, _, gm_div (by decide) (by decide), _, gm_sub, _, gm_sub, show 2 ≤ sizeLine by decide, _, rfl,
    show 2 ≤ sizeLine by decide, _, rfl, _, gm_addl (show 4 + 2 ≤ _ by decide), _, ex, ?_⟩
  refine fin_pen (Q := fun w h' => ∃ x o', w = .d x ∧ Two x ∧ h' = o' :: rest ∧ Pen (n + 3) o') p3 hr ⟨x, o3, rfl, ?_, rfl, p3⟩
  simp only [List.cons_append, List.nil_append, List.mem_cons, List.not_mem_nil, or_false] at mx
  rw [e10] at mx
  rcases mx with rfl | rfl | rfl | rfl | rfl | rfl <;> exact ⟨_, _, rfl, by omega, by omega⟩
def Rec (x : PyData) : Prop := ∃ (s : Str) (i j : Int), x = .tuple [.str s, .int i, .int j] ∧ Plain s ∧ s.cps.size ≤ 8 ∧ i.natAbs ≤ 10 ^ 17 ∧ j.natAbs ≤ 10 ^ 17
theorem Rec.gd {x : PyData} (r : Rec x) : Gd 1 303 x := by
  obtain ⟨s, i, j, rfl, p, l, h1, h2⟩ := r
  refine gd_tup (k := 0) (w := 100) (n := 3) (fun x m => ?_) (show 3 ≤ 3 by decide) (by decide)
  simp only [List.mem_cons, List.not_mem_nil, or_false] at m
  rcases m with rfl | rfl | rfl
  · exact gd_str p (by omega)
  · exact gd_int (by omega)
  · exact gd_int (by omega)
def RecV (x : PyData) : Prop := ∃ (s : Str) (i j : Int), x = .tuple [.str s, .int i, .int j] ∧ NmOk s = true ∧ i.natAbs ≤ 999999999999999 ∧ j.natAbs ≤ 999999999999999
theorem RecV.rc {x : PyData} (r : RecV x) : Rec x := by
  obtain ⟨s, i, j, e, a, b, c⟩ := r
  exact ⟨s, i, j, e, NmOk.pl a, (NmOk.sz a).2, by omega, by omega⟩
theorem RecV.gd {x : PyData} (r : RecV x) : Gd 1 303 x := r.rc.gd
def below (own : Int) : PyData → Bool
  | .tuple [_, .int i, _] => decide (i ≤ own)
  | _ => false
theorem eqv_rec {s t : Str} {i j k l : Int} : PyData.eqv (.tuple [.str s, .int i, .int j]) (.tuple [.str t, .int k, .int l]) = (decide (s = t) && (decide (i = k) && decide (j = l))) := by
  unfold PyData.eqv
  simp only [PyData.eqvAll, eqv_str, eqv_int, Bool.and_true]
theorem pen_ok (ns : List Int) : Ok (M_pen [scriptW ns] []) fun w h' => w = .loc 0 ∧ ∃ o, h' = [o] ∧ Pen 0 o := by
  have e : intsOf (ns.map PyData.int) = some ns := by
    induction ns with
    | nil => rfl
    | cons n ns ih =>
      show (intsOf (ns.map PyData.int)).map (n :: ·) = _
      rw [ih]; rfl
  have e2 : gSlice (scriptW ns) none (some 63) [] = some (.d (.list ((ns.take (HT.sIx ns.length ns.length (some 63))).map .int))) := by
    show (intsOf (ns.map PyData.int)).map (fun _ => W.d (.list (cutL (ns.map PyData.int) none (some 63)))) = _
    rw [e]
    unfold cutL
    rw [List.length_map]
    show some (W.d (.list (((ns.map PyData.int).drop 0).take (HT.sIx ns.length ns.length (some 63) - 0)))) = _
    rw [List.drop_zero, Nat.sub_zero, List.map_take]
  refine ok_fnK rfl ?_
  show SOk (D_pen [some (scriptW ns)] []) _
  unfold D_pen
  refine sk_ret ?_
  generalize HT.sIx ns.length ns.length (some 63) = k at e2
  have e3 : eSlice (eVar 0) pNone (pSome (eC (.d (.int 63)))) [some (scriptW ns)] [] = some (.ok (.d (.list ((ns.take k).map .int))), []) := by
    show optM (gSlice (scriptW ns) none (some 63) []) [] = _
    rw [e2]; rfl
  have e4 : gList [.d (.list ((ns.take k).map .int))] [] = some (.d (.list ((ns.take k).map .int))) := by
    show ((some (((ns.take k).map PyData.int).map W.d)).bind fun ws => (dats ws).map fun ds => W.d (.list ds)) = _
    show (dats (((ns.take k).map PyData.int).map W.d)).map (fun ds => W.d (.list ds)) = _
    rw [dats_of]; rfl
  rw [ok_new, ok_cons, ok_b, ok_cons]
  refine ⟨_, _, e3, ok_nil.mpr ⟨_, e4, ?_⟩⟩
  simp only [ok_cons, ok_c, ok_nil]
  exact ⟨show 3 ≤ sizeLine by decide, _, rfl, rfl, _, rfl, ns.take k, 0, 0, rfl, Int.le_refl _, Int.le_refl _, Int.le_refl _⟩
end L3

namespace L3
open PySem PySem.Spec PyProof.Rows L2
abbrev EQ := Str → List (Str × PyData) → WH → Prop
def Wp {α : Type} (r : R α) (Q : α → WH → Prop) (E : EQ) : Prop := match r with
  | none => False
  | some (.ok a, h) => Q a h
  | some (.exc c fs, h) => E c fs h
def Ws (r : RS) (Q : Fl → WSt → WH → Prop) : Prop := match r with
  | none => False
  | some (f, ws, h) => Q f ws h
abbrev noE : EQ := fun _ _ _ => False
section
variable {α β : Type} {r : R α} {Q Q' : α → WH → Prop} {E E' : EQ} {h : WH} {a : α}
theorem Wp.imp (o : Wp r Q E) (i : ∀ a h, Q a h → Q' a h) (j : ∀ c fs h, E c fs h → E' c fs h) : Wp r Q' E' := by
  unfold Wp at *; split at o
  · exact o
  · exact i _ _ o
  · exact j _ _ _ o
theorem Ok.wp (o : Ok r Q) (i : ∀ a h, Q a h → Q' a h) : Wp r Q' E := by
  obtain ⟨a, h, e, q⟩ := o; subst e; exact i a h q
theorem Wp.ok (o : Wp r Q noE) : Ok r Q := by
  unfold Wp at o; split at o
  · exact o.elim
  · exact ⟨_, _, rfl, o⟩
  · exact o.elim
theorem wp_run {w : α} (e : r = some (.ok w, h)) : Wp r Q E ↔ Q w h := by subst e; exact Iff.rfl
theorem wp_ok : Wp (some (.ok a, h)) Q E ↔ Q a h := Iff.rfl
theorem wp_bind {k : α → M β} {Q : β → WH → Prop} : Wp (bindM r k) Q E ↔ Wp r (fun a h => Wp (k a h) Q E) E := by
  match r with
  | none => exact Iff.rfl
  | some (.exc c fs, h2) => exact Iff.rfl
  | some (.ok a, h2) => exact Iff.rfl
theorem wp_opt {o : Option α} : Wp (optM o h) Q E ↔ ∃ a, o = some a ∧ Q a h := by
  cases o with
  | none => exact ⟨fun e => e.elim, fun ⟨_, e, _⟩ => by cases e⟩
  | some x => exact ⟨fun q => ⟨x, rfl, q⟩, fun ⟨_, e, q⟩ => by cases e; exact q⟩
theorem wp_ite {c : Prop} [Decidable c] {x y : R α} : Wp (if c then x else y) Q E ↔ if c then Wp x Q E else Wp y Q E := by split <;> exact Iff.rfl
theorem ws_ite {c : Prop} [Decidable c] {x y : RS} {Q : Fl → WSt → WH → Prop} : Ws (if c then x else y) Q ↔ if c then Ws x Q else Ws y Q := by split <;> exact Iff.rfl
theorem wp_grd {c : Prop} [Decidable c] : Wp (if c then r else none) Q E ↔ c ∧ Wp r Q E := by
  by_cases hc : c
  · rw [if_pos hc]; exact ⟨fun q => ⟨hc, q⟩, fun q => q.2⟩
  · rw [if_neg hc]; exact ⟨fun e => e.elim, fun q => (hc q.1).elim⟩
theorem Ws.imp {r : RS} {Q Q' : Fl → WSt → WH → Prop} (o : Ws r Q) (i : ∀ f ws h, Q f ws h → Q' f ws h) : Ws r Q' := by
  unfold Ws at *; split at o
  · exact o
  · exact i _ _ _ o
end
section
variable {h : WH} {ws : WSt} {Q : W → WH → Prop} {E : EQ}
theorem wp_var {i : Nat} : Wp (eVar i ws h) Q E ↔ ∃ w, ws[i]?.join = some w ∧ Q w h := wp_opt
theorem wp_c {w : W} : Wp (eC w ws h) Q E ↔ Q w h := Iff.rfl
theorem wp_op {g : Op2} {a b : Den} : Wp (eOp g a b ws h) Q E ↔ Wp (a ws h) (fun x h1 => Wp (b ws h1) (fun y h2 => ∃ w, g x y h2 = some w ∧ Q w h2) E) E := by
  unfold eOp; simp only [wp_bind, wp_opt]
theorem wp_un {g : W → WH → Option W} {a : Den} : Wp (eUn g a ws h) Q E ↔ Wp (a ws h) (fun x h1 => ∃ w, g x h1 = some w ∧ Q w h1) E := by
  unfold eUn; simp only [wp_bind, wp_opt]
theorem wp_and {a b : Den} : Wp (eAnd a b ws h) Q E ↔ Wp (a ws h) (fun x h1 => ∃ k, tru h1 x = some k ∧ if k then Wp (b ws h1) Q E else Q x h1) E := by
  unfold eAnd; simp only [wp_bind, wp_opt, wp_ite, wp_ok]
theorem wp_or {a b : Den} : Wp (eOr a b ws h) Q E ↔ Wp (a ws h) (fun x h1 => ∃ k, tru h1 x = some k ∧ if k then Q x h1 else Wp (b ws h1) Q E) E := by
  unfold eOr; simp only [wp_bind, wp_opt, wp_ite, wp_ok]
theorem wp_not {a : Den} : Wp (eNot a ws h) Q E ↔ Wp (a ws h) (fun x h1 => ∃ k, tru h1 x = some k ∧ Q (.d (.bool (!k))) h1) E := by
  unfold eNot; simp only [wp_bind, wp_opt, wp_ok]
theorem wp_if {c : DenT} {a b : Den} : Wp (eIf c a b ws h) Q E ↔ Wp (c ws h) (fun k h1 => if k then Wp (a ws h1) Q E else Wp (b ws h1) Q E) E := by
  unfold eIf; simp only [wp_bind, wp_ite]
theorem wp_nil {Q : List W → WH → Prop} : Wp (aNil ws h) Q E ↔ Q [] h := Iff.rfl
theorem wp_cons {a : Den} {b : DenA} {Q : List W → WH → Prop} : Wp (aCons a b ws h) Q E ↔ Wp (a ws h) (fun x h1 => Wp (b ws h1) (fun xs h2 => Q (x :: xs) h2) E) E := by
  unfold aCons; simp only [wp_bind, wp_ok]
theorem wp_star {a : Den} {b : DenA} {Q : List W → WH → Prop} : Wp (aStar a b ws h) Q E ↔ Wp (a ws h) (fun x h1 => ∃ xs, starW h1 x = some xs ∧ Wp (b ws h1) (fun ys h2 => Q (xs ++ ys) h2) E) E := by
  unfold aStar; simp only [wp_bind, wp_opt, wp_ok]
theorem wp_map {α β : Type} {o : Option α} {f : α → β} {h : WH} {Q : β → WH → Prop} : Wp (optM (o.map f) h) Q E ↔ ∃ a, o = some a ∧ Q (f a) h := by
  rw [wp_opt]
  cases o with
  | none => exact ⟨fun ⟨_, e, _⟩ => by (cases e), fun ⟨_, e, _⟩ => by (cases e)⟩
  | some a => exact ⟨fun ⟨_, e, q⟩ => by cases e; exact ⟨a, rfl, q⟩, fun ⟨_, e, q⟩ => by cases e; exact ⟨_, rfl, q⟩⟩
theorem wp_lst {b : DenA} : Wp (eLst b ws h) Q E ↔ Wp (b ws h) (fun xs h1 => xs.length ≤ sizeLine ∧ ∃ ds, dats xs = some ds ∧ Q (.d (.list ds)) h1) E := by
  unfold eLst; simp only [wp_bind, wp_grd, wp_map]
theorem wp_tup {b : DenA} : Wp (eTup b ws h) Q E ↔ Wp (b ws h) (fun xs h1 => xs.length ≤ sizeLine ∧ ∃ ds, dats xs = some ds ∧ Q (.d (.tuple ds)) h1) E := by
  unfold eTup; simp only [wp_bind, wp_grd, wp_map]
theorem wp_new {b : DenA} : Wp (eNew b ws h) Q E ↔ Wp (b ws h) (fun xs h1 => xs.length ≤ sizeLine ∧ Q (.loc h1.length) (h1 ++ [.lst xs])) E := by
  unfold eNew newL; simp only [wp_bind, wp_grd, wp_ok]
theorem wp_b {g : GB} {b : DenA} : Wp (eB g b ws h) Q E ↔ Wp (b ws h) (fun xs h1 => ∃ w, g xs h1 = some w ∧ Q w h1) E := by
  unfold eB; simp only [wp_bind, wp_opt]
theorem wp_call {n k : Nat} {gW : List W → List W → List W} {m : List W → M W} {a b : DenA} : Wp (eCall n k gW m a b ws h) Q E ↔ Wp (a ws h) (fun xs h1 => Wp (b ws h1) (fun ys h2 => (xs.length = n ∧ ys.length = k) ∧ Wp (m (gW xs ys) h2) Q E) E) E := by
  unfold eCall; simp only [wp_bind, wp_grd]
theorem wp_tB {d : Den} {Q : Bool → WH → Prop} : Wp (tB d ws h) Q E ↔ Wp (d ws h) (fun w h1 => ∃ k, asB w = some k ∧ Q k h1) E := by
  unfold tB; simp only [wp_bind, wp_opt]
theorem wp_tOf {d : Den} {Q : Bool → WH → Prop} : Wp (tOf d ws h) Q E ↔ Wp (d ws h) (fun w h1 => ∃ k, tru h1 w = some k ∧ Q k h1) E := by
  unfold tOf; simp only [wp_bind, wp_opt]
theorem wp_tNot {d : DenT} {Q : Bool → WH → Prop} : Wp (tNotM d ws h) Q E ↔ Wp (d ws h) (fun k h1 => Q (!k) h1) E := by
  unfold tNotM; simp only [wp_bind, wp_ok]
theorem wp_tAnd {a b : DenT} {Q : Bool → WH → Prop} : Wp (tAndM a b ws h) Q E ↔ Wp (a ws h) (fun k h1 => if k then Wp (b ws h1) Q E else Q false h1) E := by
  unfold tAndM; simp only [wp_bind, wp_ite, wp_ok]
theorem wp_tOr {a b : DenT} {Q : Bool → WH → Prop} : Wp (tOrM a b ws h) Q E ↔ Wp (a ws h) (fun k h1 => if k then Q true h1 else Wp (b ws h1) Q E) E := by
  unfold tOrM; simp only [wp_bind, wp_ite, wp_ok]
theorem wp_tTrue {Q : Bool → WH → Prop} : Wp (tTrue ws h) Q E ↔ Q true h := Iff.rfl
theorem wp_sm {g : GB} {d : Den} {da : DenA} : Wp (eSM g d da ws h) Q E ↔ Wp (d ws h) (fun x h1 => isStr x = true ∧ Wp (da ws h1) (fun as h2 => ∃ w, g (x :: as) h2 = some w ∧ Q w h2) E) E := by
  unfold eSM; simp only [wp_bind, wp_grd, wp_opt]
theorem wp_slice {d : Den} {dl dh : DenP} : Wp (eSlice d dl dh ws h) Q E ↔ Wp (d ws h) (fun x h1 => Wp (dl ws h1) (fun l h2 => Wp (dh ws h2) (fun u h3 => ∃ w, gSlice x l u h3 = some w ∧ Q w h3) E) E) E := by
  unfold eSlice; simp only [wp_bind, wp_opt]
theorem wp_pN {Q : Option Int → WH → Prop} : Wp (pNone ws h) Q E ↔ Q none h := Iff.rfl
theorem wp_chain {g g' : Op2} {a b c : Den} : Wp (eChain g g' a b c ws h) Q E ↔ Wp (a ws h) (fun x h1 => Wp (b ws h1) (fun y h2 => ∃ z, g x y h2 = some z ∧ ∃ k, asB z = some k ∧ if k then Wp (c ws h2) (fun w h4 => ∃ q, g' y w h4 = some q ∧ Q q h4) E else Q (.d (.bool false)) h2) E) E := by
  unfold eChain; simp only [wp_bind, wp_opt]
  constructor
  · refine fun o => o.imp (fun x h1 o => o.imp (fun y h2 ⟨z, e, o⟩ => ⟨z, e, ?_⟩) fun _ _ _ z => z) fun _ _ _ z => z
    split at o
    · rename_i k
      refine ⟨k, rfl, ?_⟩
      cases k
      · exact o
      · simpa only [wp_bind, wp_opt, if_true] using o
    · exact o.elim
  · refine fun o => o.imp (fun x h1 o => o.imp (fun y h2 ⟨z, e, k, e2, o⟩ => ⟨z, e, ?_⟩) fun _ _ _ z => z) fun _ _ _ z => z
    split
    · rename_i k2
      cases e2
      cases k
      · exact o
      · simpa only [wp_bind, wp_opt, if_true] using o
    · rename_i n
      unfold asB at e2
      split at e2
      · exact (n _ rfl).elim
      · cases e2
end
theorem wp_pS {ws : WSt} {h : WH} {d : Den} {Q : Option Int → WH → Prop} {E : EQ} : Wp (pSome d ws h) Q E ↔ Wp (d ws h) (fun x h1 => ∃ i, x = .d (.int i) ∧ Q (some i) h1) E := by
  unfold pSome; rw [wp_bind]
  constructor
  · refine fun o => o.imp (fun x h1 o => ?_) fun _ _ _ z => z
    split at o
    · exact ⟨_, rfl, o⟩
    · exact o.elim
  · refine fun o => o.imp (fun x h1 ⟨i, e, o⟩ => ?_) fun _ _ _ z => z
    subst e; exact o
theorem wp_lm {g : GM} {d : Den} {da : DenA} {ws : WSt} {h : WH} {Q : W → WH → Prop} {E : EQ} : Wp (eLM g d da ws h) Q E ↔ Wp (d ws h) (fun x h1 => ∃ l, x = .loc l ∧ (∃ xs, h1[l]? = some (.lst xs)) ∧ Wp (da ws h1) (fun as h2 => ∃ ys, h2[l]? = some (.lst ys) ∧ ∃ p, g ys as = some p ∧ Q p.1 (h2.set l (.lst p.2))) E) E := by
  unfold eLM
  rw [wp_bind]
  constructor
  · refine fun o => o.imp (fun x h1 o => ?_) fun _ _ _ z => z
    split at o
    · rename_i l
      split at o
      · rename_i xs ex
        refine ⟨l, rfl, ⟨xs, ex⟩, ?_⟩
        rw [wp_bind] at o
        refine o.imp (fun as h2 o => ?_) fun _ _ _ z => z
        split at o
        · rename_i ys ey
          split at o
          · rename_i w xs' e; exact ⟨ys, ey, (w, xs'), e, o⟩
          · exact o.elim
        · exact o.elim
      · exact o.elim
    · exact o.elim
  · refine fun o => o.imp (fun x h1 ⟨l, e, ⟨xs, ex⟩, o⟩ => ?_) fun _ _ _ z => z
    subst e
    simp only [ex]
    rw [wp_bind]
    refine o.imp (fun as h2 ⟨ys, ey, ⟨w, xs'⟩, e, o⟩ => ?_) fun _ _ _ z => z
    simp only [ey, e]
    exact o
theorem wp_listN {ws : WSt} {h : WH} {d : Den} {Q : W → WH → Prop} {E : EQ} : Wp (eListN d ws h) Q E ↔ Wp (d ws h) (fun x h1 => ∃ xs, starW h1 x = some xs ∧ Q (.loc h1.length) (h1 ++ [.lst xs])) E := by
  unfold eListN; rw [wp_bind]
  constructor
  · refine fun o => o.imp (fun x h1 o => ?_) fun _ _ _ z => z
    split at o
    · rename_i nf
      split at o
      · rename_i xs e; exact ⟨xs, by unfold starW; rw [if_pos nf]; exact e, o⟩
      · exact o.elim
    · exact o.elim
  · refine fun o => o.imp (fun x h1 ⟨xs, e, o⟩ => ?_) fun _ _ _ z => z
    unfold starW at e
    split at e
    · rename_i nf; simp only [nf, if_true, e]; exact o
    · cases e
theorem wp_addN {ws : WSt} {h : WH} {da db : Den} {Q : W → WH → Prop} {E : EQ} : Wp (eAddN da db ws h) Q E ↔ Wp (da ws h) (fun x h1 => Wp (db ws h1) (fun y h2 => ∃ xs, lstI h2 x = some xs ∧ ∃ ys, lstI h2 y = some ys ∧ xs.length + ys.length ≤ sizeLine ∧ Q (.loc h2.length) (h2 ++ [.lst (xs ++ ys)])) E) E := by
  unfold eAddN; rw [wp_bind]
  constructor
  · refine fun o => o.imp (fun x h1 o => ?_) fun _ _ _ z => z
    rw [wp_bind] at o
    refine o.imp (fun y h2 o => ?_) fun _ _ _ z => z
    unfold addN at o
    split at o
    · rename_i xs ys e1 e2
      split at o
      · rename_i hz; exact ⟨xs, e1, ys, e2, hz, o⟩
      · exact o.elim
    · exact o.elim
  · refine fun o => o.imp (fun x h1 o => ?_) fun _ _ _ z => z
    rw [wp_bind]
    refine o.imp (fun y h2 ⟨xs, e1, ys, e2, hz, o⟩ => ?_) fun _ _ _ z => z
    unfold addN
    simp only [e1, e2, if_pos hz]; exact o
theorem wp_range1 {ws : WSt} {h : WH} {d : Den} {Q : Walkd → WH → Prop} {E : EQ} : Wp (iRange1 d ws h) Q E ↔ Wp (d ws h) (fun x h1 => ∃ w, wRange1 x = some w ∧ Q w h1) E := by
  unfold iRange1; simp only [wp_bind, wp_opt]
theorem wp_range2 {ws : WSt} {h : WH} {d e : Den} {Q : Walkd → WH → Prop} {E : EQ} : Wp (iRange2 d e ws h) Q E ↔ Wp (d ws h) (fun x h1 => Wp (e ws h1) (fun y h2 => ∃ w, wRange2 x y = some w ∧ Q w h2) E) E := by
  unfold iRange2; simp only [wp_bind, wp_opt]
theorem wp_val {ws : WSt} {h : WH} {d : Den} {Q : Walkd → WH → Prop} {E : EQ} : Wp (iVal d ws h) Q E ↔ Wp (d ws h) (fun x h1 => ∃ w, walk h1 x = some w ∧ Q w h1) E := by
  unfold iVal; simp only [wp_bind, wp_opt]
theorem wp_names {is : List Nat} {w : W} {ws : WSt} {h : WH} {Q : WSt → WH → Prop} {E : EQ} : Wp (gNamesN is w ws h) Q E ↔ ∃ xs, starW h w = some xs ∧ xs.length = is.length ∧ Q (setAll is xs ws) h := by
  unfold gNamesN gNames starW
  split
  · cases items h w with
    | none => exact ⟨fun o => o.elim, fun ⟨_, e, _⟩ => by cases e⟩
    | some xs =>
      show Wp (if xs.length = is.length then _ else none) Q E ↔ _
      rw [wp_grd]
      exact ⟨fun ⟨a, b⟩ => ⟨xs, rfl, a, b⟩, fun ⟨_, e, a, b⟩ => by cases e; exact ⟨a, b⟩⟩
  · exact ⟨fun o => o.elim, fun ⟨_, e, _⟩ => by cases e⟩
theorem star_t {xs : List PyData} {h : WH} : starW h (.d (.tuple xs)) = some (xs.map .d) := rfl
theorem star_d {xs : List PyData} {h : WH} : starW h (.d (.list xs)) = some (xs.map .d) := rfl
def thenW (b : S) (Q : Fl → WSt → WH → Prop) : Fl → WSt → WH → Prop
  | .nx, ws, h => Ws (b ws h) Q
  | f, ws, h => Q f ws h
section
variable {h : WH} {ws : WSt} {Q : Fl → WSt → WH → Prop} {b : S}
theorem tw_nx : thenW b Q .nx ws h ↔ Ws (b ws h) Q := Iff.rfl
theorem tw_rt {w : W} : thenW b Q (.rt w) ws h ↔ Q (.rt w) ws h := Iff.rfl
theorem tw_bk : thenW b Q .bk ws h ↔ Q .bk ws h := Iff.rfl
theorem tw_ct : thenW b Q .ct ws h ↔ Q .ct ws h := Iff.rfl
theorem tw_ex {c : Str} {fs : List (Str × PyData)} : thenW b Q (.ex c fs) ws h ↔ Q (.ex c fs) ws h := Iff.rfl
theorem ws_some {f : Fl} : Ws (some (f, ws, h)) Q ↔ Q f ws h := Iff.rfl
theorem ws_E {α : Type} {r : R α} {k : α → WH → RS} : Ws (sE r ws k) Q ↔ Wp r (fun a h => Ws (k a h) Q) fun c fs h => Q (.ex c fs) ws h := by
  match r with
  | none => exact Iff.rfl
  | some (.exc c fs, h2) => exact Iff.rfl
  | some (.ok a, h2) => exact Iff.rfl
theorem ws_seq {a b : S} : Ws (sSeq a b ws h) Q ↔ Ws (a ws h) (thenW b Q) := by
  unfold sSeq sThen
  cases a ws h with
  | none => exact Iff.rfl
  | some p =>
    obtain ⟨f, ws1, h1⟩ := p
    cases f <;> exact Iff.rfl
theorem ws_set {i : Nat} {d : Den} : Ws (sSet i d ws h) Q ↔ Wp (d ws h) (fun w h1 => Q .nx (ws.set i (some w)) h1) fun c fs h => Q (.ex c fs) ws h := by unfold sSet; rw [ws_E]; exact Iff.rfl
theorem ws_ret {d : Den} : Ws (sRet d ws h) Q ↔ Wp (d ws h) (fun w h1 => Q (.rt w) ws h1) fun c fs h => Q (.ex c fs) ws h := by unfold sRet; rw [ws_E]; exact Iff.rfl
theorem ws_do {d : Den} : Ws (sDo d ws h) Q ↔ Wp (d ws h) (fun _ h1 => Q .nx ws h1) fun c fs h => Q (.ex c fs) ws h := by unfold sDo; rw [ws_E]; exact Iff.rfl
theorem ws_skip : Ws (sSkip ws h) Q ↔ Q .nx ws h := Iff.rfl
theorem ws_brk : Ws (sBreak ws h) Q ↔ Q .bk ws h := Iff.rfl
theorem ws_cnt : Ws (sCont ws h) Q ↔ Q .ct ws h := Iff.rfl
theorem ws_retN : Ws (sRetN ws h) Q ↔ Q (.rt (.d .none)) ws h := Iff.rfl
theorem ws_if {c : DenT} {a b : S} : Ws (sIf c a b ws h) Q ↔ Wp (c ws h) (fun k h1 => if k then Ws (a ws h1) Q else Ws (b ws h1) Q) fun c fs h => Q (.ex c fs) ws h := by
  unfold sIf; rw [ws_E]; simp only [ws_ite]
theorem ws_asg {d : Den} {g : DenG} : Ws (sAsg d g ws h) Q ↔ Wp (d ws h) (fun w h1 => Wp (g w ws h1) (fun ws2 h2 => Q .nx ws2 h2) fun c fs h => Q (.ex c fs) ws h) fun c fs h => Q (.ex c fs) ws h := by
  unfold sAsg; simp only [ws_E, ws_some]
theorem ws_asg2 {d : Den} {g1 g2 : DenG} : Ws (sAsg2 d g1 g2 ws h) Q ↔ Wp (d ws h) (fun w h1 => Wp (g1 w ws h1) (fun ws2 h2 => Wp (g2 w ws2 h2) (fun ws3 h3 => Q .nx ws3 h3) fun c fs h => Q (.ex c fs) ws h) fun c fs h => Q (.ex c fs) ws h) fun c fs h => Q (.ex c fs) ws h := by
  unfold sAsg2; simp only [ws_E, ws_some]
theorem wp_gN {i : Nat} {w : W} {Q : WSt → WH → Prop} {E : EQ} : Wp (gName1 i w ws h) Q E ↔ Q (ws.set i (some w)) h := Iff.rfl
theorem ws_par {is : List Nat} {d : DenA} : Ws (sPar is d ws h) Q ↔ Wp (d ws h) (fun xs h1 => xs.length = is.length ∧ Q .nx (setAll is xs ws) h1) fun c fs h => Q (.ex c fs) ws h := by
  unfold sPar; rw [ws_E]
  constructor
  · refine fun o => o.imp (fun xs h1 o => ?_) fun _ _ _ z => z
    split at o
    · exact ⟨‹_›, o⟩
    · exact o.elim
  · refine fun o => o.imp (fun xs h1 o => ?_) fun _ _ _ z => z
    rw [if_pos o.1]; exact o.2
theorem ws_augI {i : Nat} {f : Int → Int → Int} {d : Den} : Ws (sAugI i f d ws h) Q ↔ ∃ k, ws[i]?.join = some (.d (.int k)) ∧ Wp (d ws h) (fun y h1 => ∃ j, y = .d (.int j) ∧ Q .nx (ws.set i (some (.d (.int (f k j))))) h1) fun c fs h => Q (.ex c fs) ws h := by
  unfold sAugI
  split
  · rename_i k ek
    rw [ws_E, ek]
    constructor
    · refine fun o => ⟨k, rfl, o.imp (fun y h1 o => ?_) fun _ _ _ z => z⟩
      split at o
      · exact ⟨_, rfl, o⟩
      · exact o.elim
    · rintro ⟨k', e, o⟩
      cases e
      refine o.imp (fun y h1 o => ?_) fun _ _ _ z => z
      obtain ⟨j, rfl, o⟩ := o
      exact o
  · rename_i n
    constructor
    · exact fun o => o.elim
    · rintro ⟨k, e, _⟩; exact (n k e).elim
theorem forW {g : DenG} {b : S} {gd : WH → Prop} (I : List W → WSt → WH → Prop) 
    (st : ∀ w r ws h, I (w :: r) ws h → Wp (g w ws h) (fun ws1 h1 => Ws (b ws1 h1) fun f ws2 h2 => match f with
        | .nx | .ct => gd h2 ∧ I r ws2 h2
        | .bk => Q .nx ws2 h2
        | f => Q f ws2 h2) fun c fs h => Q (.ex c fs) ws h) (en : ∀ ws h, I [] ws h → Q .nx ws h) : ∀ (xs : List W) (ws : WSt) (h : WH), I xs ws h → Ws (forL gd g b xs ws h) Q
  | [], ws, h, i0 => en _ _ i0
  | w :: r, ws, h, i0 => by
    unfold forL
    rw [ws_E]
    refine (st w r ws h i0).imp (fun ws1 h2 q => ?_) fun _ _ _ z => z
    unfold Ws at q
    split at q
    · exact q.elim
    · rename_i f ws2 h3 e
      rw [e]
      cases f with
      | nx => simp only [if_pos q.1]; exact forW I st en r _ _ q.2
      | ct => simp only [if_pos q.1]; exact forW I st en r _ _ q.2
      | bk => exact q
      | rt w => exact q
      | ex c fs => exact q
theorem ws_for {di : DenI} {g : DenG} {b : S} (I : List W → WSt → WH → Prop) (o : Wp (di ws h) (fun wk h1 => I wk.xs ws h1 ∧
      (∀ w r ws h, I (w :: r) ws h → Wp (g w ws h) (fun ws1 h1 => Ws (b ws1 h1) fun f ws2 h2 => match f with
        | .nx | .ct => wk.gd h2 ∧ I r ws2 h2
        | .bk => Q .nx ws2 h2
        | f => Q f ws2 h2) fun c fs h => Q (.ex c fs) ws h) ∧ ∀ ws h, I [] ws h → Q .nx ws h) fun c fs h => Q (.ex c fs) ws h) : Ws (sFor di g b ws h) Q := by
  unfold sFor; rw [ws_E]
  exact o.imp (fun wk h1 ⟨i0, st, en⟩ => forW I st en _ _ _ i0) fun _ _ _ z => z
end
def RtQ (Q : W → WH → Prop) : Fl → WSt → WH → Prop
  | .rt w, _, h => Q w h
  | _, _, _ => False
def NxQ (I : WSt → WH → Prop) : Fl → WSt → WH → Prop
  | .nx, ws, h => I ws h
  | .ct, ws, h => I ws h
  | _, _, _ => False
theorem rtq {Q : W → WH → Prop} {w : W} {ws : WSt} {h : WH} : RtQ Q (.rt w) ws h ↔ Q w h := Iff.rfl
theorem nxq {I : WSt → WH → Prop} {ws : WSt} {h : WH} : NxQ I .nx ws h ↔ I ws h := Iff.rfl
theorem ctq {I : WSt → WH → Prop} {ws : WSt} {h : WH} : NxQ I .ct ws h ↔ I ws h := Iff.rfl
section
variable {h : WH} {ws : WSt} {Q : Fl → WSt → WH → Prop}
theorem ws_forN {di : DenI} {g : DenG} {b : S} (I : List W → WSt → WH → Prop) (o : Wp (di ws h) (fun wk h1 => I wk.xs ws h1 ∧
      (∀ w r ws h, I (w :: r) ws h → Wp (g w ws h) (fun ws1 h1 => Ws (b ws1 h1) (NxQ fun ws2 h2 => wk.gd h2 ∧ I r ws2 h2)) noE) ∧ ∀ ws h, I [] ws h → Q .nx ws h) noE) : Ws (sFor di g b ws h) Q :=
  ws_for I (o.imp (fun wk h1 ⟨a, b, c⟩ => ⟨a, fun w r ws h i => (b w r ws h i).imp (fun ws1 h1 z => z.imp fun f ws2 h2 z => by
    cases f with
    | nx => exact z
    | ct => exact z
    | _ => exact z.elim) (fun _ _ _ z => z.elim), c⟩) fun _ _ _ z => z.elim)
end
theorem wp_fnM {np n : Nat} {d : S} {ws : List W} {h : WH} {Q : W → WH → Prop} {E : EQ} (hl : ws.length = np)
    (o : Ws (d (ws.map some ++ List.replicate (n - np) none) h) fun f _ h' => keepP h h' ∧ match f with
      | .nx => Q (.d .none) (h'.take h.length)
      | .rt w => ∃ w', cut h.length h' w = some w' ∧ Q w' (h'.take h.length)
      | .ex c fs => E c fs (h'.take h.length)
      | _ => False) : Wp (fnM np n d ws h) Q E := by
  unfold fnM
  rw [if_pos hl]
  unfold Ws at o
  split at o
  · exact o.elim
  · rename_i f ws2 h' e
    rw [e]
    obtain ⟨kp, q⟩ := o
    cases f with
    | nx => show Wp (clean h (some (.ok (.d .none), h'))) Q E; unfold clean; simp only [if_pos kp]; exact q
    | rt w => obtain ⟨w', e2, q⟩ := q; show Wp (clean h (some (.ok w, h'))) Q E; unfold clean; simp only [if_pos kp, e2]; exact q
    | ex c fs => show Wp (clean h (some (.exc c fs, h'))) Q E; unfold clean; simp only [if_pos kp]; exact q
    | bk => exact q.elim
    | ct => exact q.elim
theorem fn_pure {np n : Nat} {d : S} {ws : List W} {h : WH} {x : W} (hl : ws.length = np) (hx : W.lt h.length x = true)
    (o : Ws (d (ws.map some ++ List.replicate (n - np) none) h) fun f _ h' => f = .rt x ∧ h' = h) : fnM np n d ws h = some (.ok x, h) := by
  have z : Wp (fnM np n d ws h) (fun w h' => w = x ∧ h' = h) noE := wp_fnM hl (o.imp fun f ws2 h' ⟨e1, e2⟩ => by
    subst e1; subst e2
    refine ⟨⟨Nat.le_refl _, .inl (List.take_of_length_le (Nat.le_refl _))⟩, x, ?_, rfl, List.take_of_length_le (Nat.le_refl _)⟩
    cases x with
    | loc l => show (if l < h'.length then _ else _) = _; rw [if_pos (of_decide_eq_true hx)]
    | _ => rfl)
  obtain ⟨a, h', e, rfl, rfl⟩ := z.ok
  exact e
theorem wp_fnR {np n : Nat} {d : S} {ws : List W} {h : WH} {Q : W → WH → Prop} {E : EQ} (Q0 : W → WH → Prop) (hl : ws.length = np)
    (o : Ws (d (ws.map some ++ List.replicate (n - np) none) h) (RtQ Q0)) (q : ∀ w h', Q0 w h' → keepP h h' ∧ ∃ w', cut h.length h' w = some w' ∧ Q w' (h'.take h.length)) : Wp (fnM np n d ws h) Q E :=
  wp_fnM hl (o.imp fun f ws2 h' z => by
    cases f with
    | rt w => exact q w h' z
    | _ => exact z.elim)
theorem fn_pureR {np n : Nat} {d : S} {ws : List W} {h : WH} {x : W} (hl : ws.length = np) (hx : W.lt h.length x = true)
    (o : Ws (d (ws.map some ++ List.replicate (n - np) none) h) (RtQ fun w h' => w = x ∧ h' = h)) : fnM np n d ws h = some (.ok x, h) :=
  fn_pure hl hx (o.imp fun f ws2 h' z => by
    cases f with
    | rt w => exact ⟨by rw [z.1], z.2⟩
    | _ => exact z.elim)
theorem app_get {h : WH} {o : Ob} {e : WH} : (h ++ o :: e)[h.length]? = some o := by simp
theorem app_get1 {h : WH} {o o1 : Ob} {e : WH} : (h ++ o :: o1 :: e)[h.length + 1]? = some o1 := by
  rw [List.getElem?_append_right (by omega), Nat.add_sub_cancel_left]; rfl
theorem app_get2 {h : WH} {o o1 o2 : Ob} {e : WH} : (h ++ o :: o1 :: o2 :: e)[h.length + 2]? = some o2 := by
  rw [List.getElem?_append_right (by omega), Nat.add_sub_cancel_left]; rfl
theorem app_set {h : WH} {o o' : Ob} {e : WH} : (h ++ o :: e).set h.length o' = h ++ o' :: e := by
  rw [List.set_append_right _ _ (Nat.le_refl _), Nat.sub_self]; rfl
theorem app_set1 {h : WH} {o o' o1 : Ob} {e : WH} : (h ++ o :: o1 :: e).set (h.length + 1) o' = h ++ o :: o' :: e := by
  rw [List.set_append_right _ _ (by omega), Nat.add_sub_cancel_left]; rfl
theorem app_set2 {h : WH} {o o' o1 o2 : Ob} {e : WH} : (h ++ o :: o1 :: o2 :: e).set (h.length + 2) o' = h ++ o :: o1 :: o' :: e := by
  rw [List.set_append_right _ _ (by omega), Nat.add_sub_cancel_left]; rfl
theorem app_app {h : WH} {a b : WH} : (h ++ a) ++ b = h ++ (a ++ b) := List.append_assoc ..
theorem app_len {h : WH} {o : Ob} : (h ++ [o]).length = h.length + 1 := by simp
theorem app_len2 {h : WH} {o o1 : Ob} : (h ++ [o, o1]).length = h.length + 2 := by simp
theorem compW {β : Type} {t : DenG} {tt : DenT} {de : Den} {ws0 : WSt} {gd : WH → Prop} {h : WH} (e : β → W) (p : β → Bool) (f : β → W) :
    ∀ (xs : List β) (acc : List W), gd h → acc.length + xs.length ≤ sizeLine → (∀ x ∈ xs, Wp (t (e x) ws0 h) (fun ws2 h2 => Wp (tt ws2 h2) (fun b h3 => b = p x ∧ (if p x = true then Wp (de ws2 h3) (fun y h4 => y = f x ∧ h4 = h) noE else h3 = h)) noE) noE) →
    compL t tt de ws0 gd (xs.map e) acc h = some (.ok (acc ++ (xs.filter p).map f), h)
  | [], acc, _, _, _ => by unfold compL; simp
  | x :: r, acc, hg, hl, st => by
    rw [List.length_cons] at hl
    obtain ⟨ws2, h2, e1, b, h3, e2, e3, q⟩ : ∃ ws2 h2, t (e x) ws0 h = some (.ok ws2, h2) ∧ ∃ b h3, tt ws2 h2 = some (.ok b, h3) ∧ b = p x ∧ (if p x = true then Wp (de ws2 h3) (fun y h4 => y = f x ∧ h4 = h) noE else h3 = h) := by
      obtain ⟨ws2, h2, e1, o⟩ := (st x (List.mem_cons_self ..)).ok
      obtain ⟨b, h3, e2, o⟩ := o.ok
      exact ⟨ws2, h2, e1, b, h3, e2, o⟩
    show compL t tt de ws0 gd (e x :: r.map e) acc h = _
    unfold compL
    rw [e1]
    simp only [e2]
    subst e3
    have ih := fun acc' hl' => compW (t := t) (tt := tt) (de := de) (ws0 := ws0) (gd := gd) (h := h) e p f r acc' hg hl' fun y m => st y (List.mem_cons_of_mem _ m)
    cases hp : p x with
    | true =>
      rw [hp, if_pos rfl] at q
      obtain ⟨y, h4, e4, rfl, rfl⟩ := q.ok
      simp only [if_true, e4, if_pos (show acc.length < sizeLine by omega), if_pos hg]
      rw [ih _ (by rw [List.length_append, List.length_singleton]; omega), List.filter_cons, if_pos hp, List.map_cons, List.append_assoc]; rfl
    | false =>
      rw [hp, if_neg (by decide)] at q
      subst q
      simp only [Bool.false_eq_true, if_false, if_pos hg]
      rw [ih _ (by omega), List.filter_cons, if_neg (by rw [hp]; decide)]
theorem wp_compP {β : Type} {vs : List Nat} {di : DenI} {t : Tg} {tt : DenT} {de : Den} {ws : WSt} {h : WH} {Q : W → WH → Prop} {E : EQ} (xs : List β) (e : β → W) (p : β → Bool) (f : β → PyData) (hl : xs.length ≤ 1000000)
    (o : Wp (di ws h) (fun wk h1 => h1 = h ∧ wk.xs = xs.map e ∧ wk.gd h) E)
    (st : ∀ x ∈ xs, Wp (t.dn (e x) (wipeW ws vs) h) (fun ws2 h2 => Wp (tt ws2 h2) (fun b h3 => b = p x ∧ (if p x = true then Wp (de ws2 h3) (fun y h4 => y = .d (f x) ∧ h4 = h) noE else h3 = h)) noE) noE)
    (q : Q (.d (.list ((xs.filter p).map f))) h) : Wp (eComp vs di t tt de ws h) Q E := by
  unfold eComp eCompA
  rw [wp_bind, wp_bind]
  refine o.imp (fun wk h1 ⟨e1, e2, g⟩ => ?_) fun _ _ _ z => z
  subst e1
  rw [e2, compW e p (fun x => W.d (f x)) xs [] g (by show 0 + xs.length ≤ _; have : sizeLine = 16777216 := rfl; omega) st]
  show Wp (optM ((dats ([] ++ (xs.filter p).map fun x => W.d (f x))).map fun ds => W.d (.list ds)) h1) Q E
  have e3 : dats ([] ++ (xs.filter p).map fun x => W.d (f x)) = some ((xs.filter p).map f) := by
    rw [List.nil_append]
    exact (congrArg dats (List.map_map (g := W.d) (f := f) (l := xs.filter p)).symm).trans (dats_map _)
  rw [e3]
  exact q
end L3

namespace L3
open PySem PySem.Spec PyProof.Rows L2
set_option hygiene false in
local macro_rules
  | `(tactic| simp_arith! [$ls,*] $[$loc:location]?) => `(tactic| simp (maxSteps := 1000000) (disch := first | omega | assumption | decide | (simp only [List.length_take, List.length_drop, List.length_map, List.length_append, List.length_reverse, List.length_cons, List.length_nil, Int.reduceToNat]; omega)) only [wp_ok, wp_var, wp_c, wp_op, wp_un, wp_and, wp_or, wp_not, wp_if, wp_nil, wp_cons, wp_star, wp_lst, wp_tup, wp_new, wp_b, wp_call, wp_tB, wp_tOf, wp_tNot, wp_tAnd, wp_tOr, 
      wp_tTrue, wp_sm, wp_slice, wp_pN, wp_pS, wp_chain, wp_lm, wp_gN, wp_names, star_t, star_d, List.map_cons, List.map_nil, wp_listN, wp_addN, wp_range1, wp_range2, wp_val, 
      List.getElem?_cons_zero, List.getElem?_cons_succ, Option.join_some, ex_eq, exL, exI, exI2, exO, exO2, List.set_cons_zero, List.set_cons_succ, setAll, gm_add, gm_sub, 
      gm_lt, gm_le, gm_gt, gm_ge, gm_len, gm_lenT, gm_intb, gm_mul, gm_mod, gm_div, gm_pow, asB_b, tru_b, dats_nil, dats_cons, Option.map_some, szl, List.length_cons, 
      List.length_nil, Nat.reduceAdd, and_self, true_and, and_true, if_true, if_false, Bool.false_eq_true, Bool.not_true, Bool.not_false, pk0, pk1, pick_eq, List.filterMap_cons, 
      List.filterMap_nil, List.cons_append, List.nil_append, gs_eqs, gs_nes, ix_l0, ix_lS, Int.reduceToNat, app_get, app_get1, app_get2, app_set, app_set1, app_set2, app_app, 
      app_len, app_len2, gsl_l, gsl_t, cutL_takeI, cutL_dropI, rev_l, gm_addv, gm_addvT, List.length_take, obI_l, rtq, nxq, ctq, gm_lenP, ix_loc, bind_some, lset0, mAppend_eq, 
      ws_seq, ws_set, ws_ret, ws_do, ws_skip, ws_brk, ws_cnt, ws_retN, ws_if, ws_asg, ws_asg2, ws_par, ws_augI, tw_nx, tw_rt, tw_bk, tw_ct, tw_ex, $ls,*] $[$loc]?)
local macro_rules
  | `(tactic| simp_arith! $[$loc:location]?) => `(tactic| simp_arith! [and_self] $[$loc:location]?)
theorem exL {a : Nat} {P : Nat → Prop} : (∃ l, W.loc a = W.loc l ∧ P l) ↔ P a := ⟨fun ⟨_, e, q⟩ => by cases e; exact q, fun q => ⟨_, rfl, q⟩⟩
theorem exI {a : Int} {P : Int → Prop} : (∃ l, W.d (.int a) = W.d (.int l) ∧ P l) ↔ P a := ⟨fun ⟨_, e, q⟩ => by cases e; exact q, fun q => ⟨_, rfl, q⟩⟩
theorem exI2 {a : Int} {P : Int → Prop} : (∃ l, some (W.d (.int a)) = some (W.d (.int l)) ∧ P l) ↔ P a := ⟨fun ⟨_, e, q⟩ => by cases e; exact q, fun q => ⟨_, rfl, q⟩⟩
theorem exO {a : List W} {P : List W → Prop} : (∃ l, some (Ob.lst a) = some (Ob.lst l) ∧ P l) ↔ P a := ⟨fun ⟨_, e, q⟩ => by cases e; exact q, fun q => ⟨_, rfl, q⟩⟩
theorem exO2 {a : List W} : (∃ l, some (Ob.lst a) = some (Ob.lst l)) ↔ True := ⟨fun _ => trivial, fun _ => ⟨_, rfl⟩⟩
theorem dats_nil : dats [] = some [] := rfl
theorem dats_cons {x : PyData} {r : List W} : dats (.d x :: r) = (dats r).map (x :: ·) := rfl
theorem szl {n : Nat} (h : n ≤ 1000000) : (n ≤ sizeLine) = True := eq_true (Nat.le_trans h (by decide))
theorem pick_eq {α : Type} {idx : List Nat} {l : List α} : pick idx l = idx.filterMap fun i => l[i]? := rfl
theorem ix_l0 {x : PyData} {xs : List PyData} {h : WH} : gIx (.d (.list (x :: xs))) (.d (.int 0)) h = some (.d x) := by
  show atI ((x :: xs).map W.d) 0 = _
  unfold atI; rw [ixN_in (Int.le_refl _) (by rw [List.length_map, List.length_cons]; omega)]; rfl
theorem ix_lS {a b : PyData} {c : Bool} {h : WH} : gIx (.d (.list [a, b])) (.d (.int (if c = true then 1 else 0))) h = some (.d (if c then b else a)) := by cases c <;> rfl
def obI : Option Ob → Option (List W)
  | some (.lst ws) => some ws
  | some (.tup ws) => some ws
  | _ => none
theorem obI_l {ws : List W} : obI (some (.lst ws)) = some ws := rfl
theorem gm_lenP {l : Nat} {h : WH} : gLen [.loc l] h = (obI h[l]?).map fun ws => W.d (.int ws.length) := by
  show (items h (.loc l)).map _ = _
  rfl
theorem ix_loc {l : Nat} {i : Int} {h : WH} : gIx (.loc l) (.d (.int i)) h = (obI h[l]?).bind fun ws => atI ws i := rfl
theorem bind_some {α β : Type} {a : α} {f : α → Option β} : (some a).bind f = f a := rfl
theorem lset0 {o o' : Ob} {r : WH} : List.set (o :: r) 0 o' = o' :: r := rfl
theorem mAppend_eq {xs : List W} {x : W} (h : xs.length ≤ 1000000) : mAppend xs [x] = some (.d .none, xs ++ [x]) := by
  show (if xs.length < sizeLine then _ else _) = _
  rw [if_pos (Nat.lt_of_le_of_lt h (by decide))]
theorem cutL_map {α β : Type} {f : α → β} {xs : List α} {lo hi : Option Int} : cutL (xs.map f) lo hi = (cutL xs lo hi).map f := by
  unfold cutL
  rw [List.length_map, List.map_take, List.map_drop]
theorem cutL_takeI {α : Type} {xs : List α} {i : Int} (h : 0 ≤ i) : cutL xs none (some i) = xs.take i.toNat := by
  obtain ⟨k, rfl⟩ := Int.eq_ofNat_of_zero_le h
  unfold cutL
  rw [HT.sIx_none, List.drop_zero, Nat.sub_zero, HT.sIx_nat, Int.toNat_natCast]
  by_cases hk : k ≤ xs.length
  · rw [Nat.min_eq_left hk]
  · rw [Nat.min_eq_right (by omega), List.take_of_length_le (Nat.le_refl _), List.take_of_length_le (by omega)]
theorem cutL_dropI {α : Type} {xs : List α} {i : Int} (h : 0 ≤ i) : cutL xs (some i) none = xs.drop i.toNat := by
  obtain ⟨k, rfl⟩ := Int.eq_ofNat_of_zero_le h
  unfold cutL
  rw [HT.sIx_none, HT.sIx_nat, Int.toNat_natCast]
  by_cases hk : k ≤ xs.length
  · rw [Nat.min_eq_left hk, List.take_of_length_le (by rw [List.length_drop]; omega)]
  · rw [Nat.min_eq_right (by omega), List.drop_of_length_le (Nat.le_refl _), List.drop_of_length_le (by omega), List.take_nil]
theorem gsl_l {α : Type} {f : α → PyData} {xs : List α} {lo hi : Option Int} {h : WH} : gSlice (.d (.list (xs.map f))) lo hi h = some (.d (.list ((cutL xs lo hi).map f))) := by
  show some (W.d (.list (cutL (xs.map f) lo hi))) = _
  rw [cutL_map]
theorem gsl_t {α : Type} {f : α → PyData} {xs : List α} {lo hi : Option Int} {h : WH} : gSlice (.d (.tuple (xs.map f))) lo hi h = some (.d (.tuple ((cutL xs lo hi).map f))) := by
  show some (W.d (.tuple (cutL (xs.map f) lo hi))) = _
  rw [cutL_map]
theorem rev_l {α : Type} {f : α → PyData} {xs : List α} {h : WH} : gRev (.d (.list (xs.map f))) h = some (.d (.list (xs.reverse.map f))) := by
  show some (W.d (.list (xs.map f).reverse)) = _
  rw [List.map_reverse]
theorem gm_addv {α : Type} {f : α → PyData} {x y : List α} {h : WH} (hl : x.length + y.length ≤ 1000000) : gAdd (.d (.list (x.map f))) (.d (.list (y.map f))) h = some (.d (.list ((x ++ y).map f))) := by
  rw [gm_addl (by rw [List.length_map, List.length_map]; exact hl), List.map_append]
theorem gm_addvT {α : Type} {f : α → PyData} {x y : List α} {h : WH} (hl : x.length + y.length ≤ 1000000) : gAdd (.d (.tuple (x.map f))) (.d (.tuple (y.map f))) h = some (.d (.tuple ((x ++ y).map f))) := by
  rw [gm_addt (by rw [List.length_map, List.length_map]; exact hl), List.map_append]
structure Vl where
  k : Str
  o : Int
  m : Int
deriving DecidableEq
def Vl.p (v : Vl) : PyData := .tuple [.str v.k, .int v.o, .int v.m]
structure Vl.Ok (v : Vl) : Prop where
  pl : Plain v.k
  sz : v.k.cps.size ≤ 8
  ob : v.o.natAbs ≤ 10 ^ 17
  mb : v.m.natAbs ≤ 10 ^ 17
theorem rec_vl {x : PyData} : Rec x ↔ ∃ v : Vl, x = v.p ∧ v.Ok :=
  ⟨fun ⟨s, i, j, e, a, b, c, d⟩ => ⟨⟨s, i, j⟩, e, a, b, c, d⟩, fun ⟨v, e, a⟩ => ⟨v.k, v.o, v.m, e, a.pl, a.sz, a.ob, a.mb⟩⟩
theorem Vl.Ok.rc {v : Vl} (a : v.Ok) : Rec v.p := rec_vl.mpr ⟨v, rfl, a⟩
theorem Vl.Ok.gd {v : Vl} (a : v.Ok) : Gd 1 303 v.p := a.rc.gd
theorem Vl.eqv {a b : Vl} : PyData.eqv a.p b.p = decide (a = b) := by
  unfold Vl.p
  rw [eqv_rec, Bool.eq_iff_iff]
  simp only [Bool.and_eq_true, decide_eq_true_eq]
  constructor
  · rintro ⟨e1, e2, e3⟩; cases a; cases b; simp_all
  · rintro rfl; exact ⟨rfl, rfl, rfl⟩
theorem Vl.inj {a b : Vl} (h : a.p = b.p) : a = b := by
  have := Vl.eqv (a := a) (b := b)
  rw [h] at this
  have e : PyData.eqv b.p b.p = true := by rw [Vl.eqv]; exact decide_eq_true rfl
  rw [e] at this
  exact of_decide_eq_true this.symm
theorem vl_any {vs : List Vl} {v : Vl} : ((vs.map Vl.p).any fun z => PyData.eqv z v.p) = decide (v ∈ vs) := by
  rw [Bool.eq_iff_iff, List.any_map, List.any_eq_true, decide_eq_true_eq]
  constructor
  · rintro ⟨x, m, e⟩
    rw [Function.comp_apply, Vl.eqv] at e
    exact of_decide_eq_true e ▸ m
  · intro m
    exact ⟨v, m, by rw [Function.comp_apply, Vl.eqv]; exact decide_eq_true rfl⟩
section
variable {v a b : Vl} {vs : List Vl} {h : WH}
theorem ixp0 : gIx (.d v.p) (.d (.int 0)) h = some (.d (.str v.k)) := rfl
theorem vls_sd (hv : ∀ v ∈ vs, v.Ok) : Sd 2 (.list (vs.map Vl.p)) := sd_list fun x m => by
  obtain ⟨v, mv, rfl⟩ := List.mem_map.mp m; exact (hv v mv).gd.sd
theorem vl_ni (ha : a.Ok) (hv : ∀ v ∈ vs, v.Ok) : gNotIn (.d a.p) (.d (.list (vs.map Vl.p))) h = some (.d (.bool (!decide (a ∈ vs)))) := by rw [gm_niS ha.gd.sd (vls_sd hv), vl_any]
theorem gm_inS {x : PyData} {xs : List PyData} {k j : Nat} {h : WH} (a : Sd k x) (b : Sd j (.list xs)) (hk : k ≤ 64 := by decide) (hj : j ≤ 64 := by decide) :
    gIn (.d x) (.d (.list xs)) h = some (.d (.bool (xs.any fun z => PyData.eqv z x))) := by
  have e3 : inD h (.d x) (.d (.list xs)) = some (xs.any fun z => PyData.eqv z x) := by
    show (if SeqAt.shaped x && SeqAt.shaped (.list xs) then _ else none) = _
    rw [a.shaped hk, b.shaped hj]; rfl
  unfold gIn; rw [e3]; rfl
end
def Sq (w : W) (vs : List Vl) : Prop := (w = .d (.list (vs.map Vl.p)) ∨ w = .d (.tuple (vs.map Vl.p))) ∧ ∀ v ∈ vs, v.Ok
theorem Sq.l {vs : List Vl} (h : ∀ v ∈ vs, v.Ok) : Sq (.d (.list (vs.map Vl.p))) vs := ⟨.inl rfl, h⟩
theorem Sq.t {vs : List Vl} (h : ∀ v ∈ vs, v.Ok) : Sq (.d (.tuple (vs.map Vl.p))) vs := ⟨.inr rfl, h⟩
theorem Sq.nilL : Sq (.d (.list [])) [] := ⟨.inl rfl, fun _ m => nomatch m⟩
section
variable {w : W} {vs : List Vl} {a : Vl} {h : WH}
theorem sq_walk (q : Sq w vs) : walk h w = some ⟨vs.map fun v => .d v.p, fun _ => True⟩ := by
  have e : (vs.map Vl.p).map W.d = vs.map fun v => W.d v.p := List.map_map ..
  rcases q.1 with rfl | rfl
  · show Option.map (fun xs => (⟨xs, fun _ => True⟩ : Walkd)) (some ((vs.map Vl.p).map W.d)) = _; rw [e]; rfl
  · show Option.map (fun xs => (⟨xs, fun _ => True⟩ : Walkd)) (some ((vs.map Vl.p).map W.d)) = _; rw [e]; rfl
theorem sq_tuple (q : Sq w vs) : gTuple [w] h = some (.d (.tuple (vs.map Vl.p))) := by
  rcases q.1 with rfl | rfl <;> rfl
end
section
variable {mk : W} {ms : List Vl} {a b : Vl} {h : WH}
end
end L3

set_option maxHeartbeats 4000000
namespace L3
open PySem PySem.Spec PyProof.Rows L2
set_option hygiene false in
local macro_rules
  | `(tactic| simp_arith [$ls,*] $[$loc:location]?) => `(tactic| simp (maxSteps := 1000000) (disch := first | omega | assumption | decide | (simp only [List.length_take, List.length_drop, List.length_map, List.length_append, List.length_reverse, List.length_cons, List.length_nil, Int.reduceToNat]; omega)) only [wp_ok, wp_var, wp_c, wp_op, wp_un, wp_and, wp_or, wp_not, wp_if, wp_nil, wp_cons, wp_star, wp_lst, wp_tup, wp_new, wp_b, wp_call, wp_tB, wp_tOf, wp_tNot, wp_tAnd, wp_tOr, 
      wp_tTrue, wp_sm, wp_slice, wp_pN, wp_pS, wp_chain, wp_lm, wp_gN, wp_names, star_t, star_d, List.map_cons, List.map_nil, wp_listN, wp_addN, wp_range1, wp_range2, wp_val, 
      List.getElem?_cons_zero, List.getElem?_cons_succ, Option.join_some, ex_eq, exL, exI, exI2, exO, exO2, List.set_cons_zero, List.set_cons_succ, setAll, gm_add, gm_sub, 
      gm_lt, gm_le, gm_gt, gm_ge, gm_len, gm_lenT, gm_intb, gm_mul, gm_mod, gm_div, gm_pow, asB_b, tru_b, dats_nil, dats_cons, Option.map_some, szl, List.length_cons, 
      List.length_nil, Nat.reduceAdd, and_self, true_and, and_true, if_true, if_false, Bool.false_eq_true, Bool.not_true, Bool.not_false, pk0, pk1, pick_eq, List.filterMap_cons, 
      List.filterMap_nil, List.cons_append, List.nil_append, gs_eqs, gs_nes, ix_l0, ix_lS, Int.reduceToNat, app_get, app_get1, app_get2, app_set, app_set1, app_set2, app_app, 
      app_len, app_len2, gsl_l, gsl_t, cutL_takeI, cutL_dropI, rev_l, gm_addv, gm_addvT, List.length_take, obI_l, rtq, nxq, ctq, gm_lenP, ix_loc, bind_some, lset0, mAppend_eq, $ls,*] $[$loc]?)
local macro_rules
  | `(tactic| simp_arith $[$loc:location]?) => `(tactic| simp_arith [and_self] $[$loc:location]?)
set_option hygiene false in
local macro_rules
  | `(tactic| simp_arith! [$ls,*] $[$loc:location]?) => `(tactic| simp (maxSteps := 1000000) (disch := first | omega | assumption | decide | (simp only [List.length_take, List.length_drop, List.length_map, List.length_append, List.length_reverse, List.length_cons, List.length_nil, Int.reduceToNat]; omega)) only [wp_ok, wp_var, wp_c, wp_op, wp_un, wp_and, wp_or, wp_not, wp_if, wp_nil, wp_cons, wp_star, wp_lst, wp_tup, wp_new, wp_b, wp_call, wp_tB, wp_tOf, wp_tNot, wp_tAnd, wp_tOr, 
      wp_tTrue, wp_sm, wp_slice, wp_pN, wp_pS, wp_chain, wp_lm, wp_gN, wp_names, star_t, star_d, List.map_cons, List.map_nil, wp_listN, wp_addN, wp_range1, wp_range2, wp_val, 
      List.getElem?_cons_zero, List.getElem?_cons_succ, Option.join_some, ex_eq, exL, exI, exI2, exO, exO2, List.set_cons_zero, List.set_cons_succ, setAll, gm_add, gm_sub, 
      gm_lt, gm_le, gm_gt, gm_ge, gm_len, gm_lenT, gm_intb, gm_mul, gm_mod, gm_div, gm_pow, asB_b, tru_b, dats_nil, dats_cons, Option.map_some, szl, List.length_cons, 
      List.length_nil, Nat.reduceAdd, and_self, true_and, and_true, if_true, if_false, Bool.false_eq_true, Bool.not_true, Bool.not_false, pk0, pk1, pick_eq, List.filterMap_cons, 
      List.filterMap_nil, List.cons_append, List.nil_append, gs_eqs, gs_nes, ix_l0, ix_lS, Int.reduceToNat, app_get, app_get1, app_get2, app_set, app_set1, app_set2, app_app, 
      app_len, app_len2, gsl_l, gsl_t, cutL_takeI, cutL_dropI, rev_l, gm_addv, gm_addvT, List.length_take, obI_l, rtq, nxq, ctq, gm_lenP, ix_loc, bind_some, lset0, mAppend_eq, 
      ws_seq, ws_set, ws_ret, ws_do, ws_skip, ws_brk, ws_cnt, ws_retN, ws_if, ws_asg, ws_asg2, ws_par, ws_augI, tw_nx, tw_rt, tw_bk, tw_ct, tw_ex, $ls,*] $[$loc]?)
local macro_rules
  | `(tactic| simp_arith! $[$loc:location]?) => `(tactic| simp_arith! [and_self] $[$loc:location]?)
theorem draw_wp {c : List W → M W} (hd : DrawOk c) {n : Nat} {o : Ob} {rest : WH} {b : Int} {Q : W → WH → Prop} {E : EQ} (p : Pen n o) (hb : 0 < b ∧ b ≤ 10 ^ 30) (hn : n ≤ 1000000) (hr : HLt rest)
    (q : ∀ d o', 0 ≤ d → d < b → Pen (n + 1) o' → Q (.d (.int d)) (o' :: rest)) : Wp (c [.loc 0, .d (.int b)] (o :: rest)) Q E :=
  (hd p hb hn hr).wp fun _ _ ⟨d, o', e1, h0, h1, e2, p'⟩ => by subst e1; subst e2; exact q d o' h0 h1 p'
structure Vl.Val (v : Vl) : Prop where
  nm : NmOk v.k = true
  ob : v.o.natAbs ≤ 999999999999999
  mb : v.m.natAbs ≤ 999999999999999
theorem Vl.Val.ok {v : Vl} (a : v.Val) : v.Ok := ⟨NmOk.pl a.nm, (NmOk.sz a.nm).2, by have := a.ob; omega, by have := a.mb; omega⟩
end L3

namespace L3
open PySem PySem.Spec PyProof.Rows L2
theorem recV_vl {x : PyData} (r : RecV x) : ∃ v : Vl, x = v.p ∧ v.Val := by
  obtain ⟨s, i, j, e, a, b, c⟩ := r
  exact ⟨⟨s, i, j⟩, e, a, b, c⟩
theorem recsV_vl : ∀ {xs : List PyData}, (∀ x ∈ xs, RecV x) → ∃ vs : List Vl, xs = vs.map Vl.p ∧ ∀ v ∈ vs, v.Val
  | [], _ => ⟨[], rfl, fun _ m => nomatch m⟩
  | x :: xs, h => by
    obtain ⟨v, rfl, a⟩ := recV_vl (h x (List.mem_cons_self ..))
    obtain ⟨vs, rfl, b⟩ := recsV_vl fun y m => h y (List.mem_cons_of_mem _ m)
    refine ⟨v :: vs, rfl, fun y m => ?_⟩
    rcases List.mem_cons.mp m with rfl | m
    · exact a
    · exact b y m
theorem nodup_of_map {α β : Type} {f : α → β} : ∀ {l : List α}, (l.map f).Nodup → l.Nodup
  | [], _ => List.nodup_nil
  | a :: l, h => by
    rw [List.map_cons, List.nodup_cons] at h
    exact List.nodup_cons.mpr ⟨fun m => h.1 (List.mem_map_of_mem m), nodup_of_map h.2⟩
section
variable {c0 : List W → M W}
end
end L3

namespace L3
open PySem PySem.Spec PyProof.Rows L2
def RecN (nms : List PyData) (x : PyData) : Prop := RecV x ∧ ∀ s r, x = .tuple (s :: r) → s ∈ nms
theorem bagA_okN {c0 : List W → M W} (hd : DrawOk c0) {nms : List PyData} {most : Int} {n : Nat} {o : Ob} (p : Pen n o) (hx : ∀ x ∈ nms, Nm x) (hl : 1 ≤ nms.length ∧ nms.length ≤ 100) (hm : 0 ≤ most ∧ most ≤ 100) (hn : n ≤ 800000) :
    Ok (M_bagA c0 (M_numbersA c0) [.loc 0, .d (.list nms), .d (.int most)] [o]) fun w h' => ∃ xs o', w = .d (.list xs) ∧ (xs.length : Int) ≤ most ∧ (∀ x ∈ xs, RecN nms x) ∧ xs.Nodup ∧ h' = [o'] ∧ Pen (n + 1000) o' := by
  refine ok_fnM rfl ?_
  show SOk (D_bagA c0 (M_numbersA c0) [some (.loc 0), some (.d (.list nms)), some (.d (.int most)), none, none, none, none, none, none, none, none] [o]) _
  unfold D_bagA
  refine sk_seq (sk_set ?_)
  simp only [List.set_cons_zero, List.set_cons_succ, ok_lst, ok_cons, ok_b, ok_nil, ok_op, ok_var, ok_c, List.getElem?_cons_zero, List.getElem?_cons_succ, Option.join_some, ex_eq]
  refine call_draw hd rfl rfl p (by omega) (by omega) hlt_nil fun d1 o1 a0 a1 p1 => ?_
  refine call_draw hd rfl rfl p1 (by decide) (by omega) hlt_nil fun d2 o2 b0 b1 p2 => ?_
  refine ⟨_, gm_add, _, gm_min, show 3 ≤ sizeLine by decide, _, rfl, ?_⟩
  refine call_draw hd rfl rfl p2 (by decide) (by omega) hlt_nil fun d3 o3 c0 c1 p3 => ?_
  obtain ⟨x, mx, ex⟩ := ix_list (xs := [PyData.int most, .int d1, .int (if 1 + d2 < most then 1 + d2 else most)]) (i := d3) (h := [o3]) c0 c1
  obtain ⟨size, rfl, z0, z1⟩ : ∃ size, x = .int size ∧ 0 ≤ size ∧ size ≤ most := by
    simp only [List.mem_cons, List.not_mem_nil, or_false] at mx
    rcases mx with rfl | rfl | rfl
    · exact ⟨_, rfl, by omega, by omega⟩
    · exact ⟨_, rfl, by omega, by omega⟩
    · exact ⟨_, rfl, by split <;> omega, by split <;> omega⟩
  refine ⟨_, ex, ?_⟩
  refine sk_seq (sk_set (call_draw hd rfl rfl p3 (by decide) (by omega) hlt_nil fun way o4 e0 e1 p4 => ?_))
  refine sk_seq (sk_set ?_)
  rw [ok_op]
  refine call_draw hd rfl rfl p4 (by decide) (by omega) hlt_nil fun d5 o5 f0 f1 p5 => ?_
  rw [ok_c]
  refine ⟨_, gs_eq (sd_int (k := 0)) (sd_int (k := 0)), ?_⟩
  generalize PyData.eqv (.int d5) (.int 0) = mixed
  refine sk_seq (sk_set ?_)
  rw [ok_new, ok_nil]
  refine ⟨by decide, ?_⟩
  simp only [List.set_cons_zero, List.set_cons_succ, List.length_cons, List.length_nil, List.cons_append, List.nil_append]
  refine sk_seq (sk_for (fun rem ws h => ∃ (x7 x8 x9 x10 : Option W) (xs : List PyData) (o' : Ob), ws = [some (.loc 0), some (.d (.list nms)), some (.d (.int most)), some (.d (.int size)), some (.d (.int way)), some (.d (.bool mixed)), some (.loc 1), x7, x8, x9, x10] ∧
      h = [o', .lst (xs.map .d)] ∧ ((∀ x ∈ xs, RecN nms x) ∧ xs.Nodup) ∧ (xs.length + rem.length : Int) = size ∧ Pen (n + 20 + 7 * xs.length) o') ?_)
  rw [ok_range1, ok_varS rfl]
  refine ⟨_, rng_ok (by omega), ⟨none, none, none, none, [], o5, rfl, rfl, ⟨(fun _ m => nomatch m), List.nodup_nil⟩, ?_, p5.mono (by show n + 1 + 1 + 1 + 1 + 1 ≤ n + 20 + 7 * 0; omega)⟩, ?_, ?_⟩
  · rw [rngL_length]; show (0 : Int) + _ = _; omega
  · rintro w r _ _ ⟨x7, x8, x9, x10, xs, o', rfl, rfl, ⟨hr, hnd⟩, hl2, p'⟩
    rw [List.length_cons] at hl2
    refine ok_optS.mpr ?_
    simp only [List.set_cons_zero, List.set_cons_succ]
    refine sk_seq (sk_set ?_)
    rw [ok_op, ok_varS rfl]
    refine call_draw hd (b := ((nms.map W.d).length : Int)) rfl rfl p' (by rw [List.length_map]; omega) (by omega) hlt_one fun d6 o6 g0 g1 p6 => ?_
    rw [List.length_map] at g1
    obtain ⟨lab, ml, el⟩ := ix_list (xs := nms) (i := d6) (h := [o6, .lst (xs.map .d)]) g0 g1
    refine ⟨_, el, ?_⟩
    obtain ⟨s, rfl, ps⟩ := hx lab ml
    simp only [List.set_cons_zero, List.set_cons_succ]
    refine sk_seq (sk_asg ?_)
    rw [ok_call]
    simp only [ok_lst, ok_cons, ok_b, ok_nil, ok_op, ok_var, ok_c, List.getElem?_cons_zero, List.getElem?_cons_succ, Option.join_some, ex_eq]
    refine call_draw hd rfl rfl p6 (by decide) (by omega) hlt_one fun d7 o7 i0 i1 p7 => ?_
    refine ⟨show 2 ≤ sizeLine by decide, _, rfl, _, gm_intb, ?_⟩
    obtain ⟨w2, ew2, w20, w21⟩ : ∃ w2 : Int, gIx (.d (.list [.int way, .int d7])) (.d (.int (if mixed = true then 1 else 0))) [o7, .lst (xs.map .d)] = some (.d (.int w2)) ∧ 0 ≤ w2 ∧ w2 < 6 := by
      cases mixed
      · exact ⟨way, rfl, e0, e1⟩
      · exact ⟨d7, rfl, i0, i1⟩
    refine ⟨_, ew2, ⟨rfl, rfl⟩, (numbersA_ok hd p7 ⟨w20, w21⟩ (by omega) (by omega) hlt_one).imp ?_⟩
    rintro _ _ ⟨_, o8, rfl, ⟨own, mea, rfl, hown, hmea⟩, rfl, p8⟩
    refine ok_optS.mpr ?_
    show thenQ _ _ .nx [some (.loc 0), some (.d (.list nms)), some (.d (.int most)), some (.d (.int size)), some (.d (.int way)), some (.d (.bool mixed)), some (.loc 1), some w, some (.d (.str s)), some (.d (.int own)), some (.d (.int mea))] [o8, .lst (xs.map .d)]
    have hxs : xs.length ≤ 100 := by omega
    have sdx : Sd 2 (.list xs) := sd_list fun x m => (hr x m).1.gd.sd
    refine sk_seq (SOk.imp (Q := fun f ws h => f = .nx ∧ ∃ ow : Int, ws = [some (.loc 0), some (.d (.list nms)), some (.d (.int most)), some (.d (.int size)), some (.d (.int way)), some (.d (.bool mixed)), some (.loc 1), some w, some (.d (.str s)), some (.d (.int ow)), some (.d (.int mea))] ∧
      h = [o8, .lst (xs.map .d)] ∧ ow ≤ own ∧ own ≤ ow + xs.length ∧ PyData.tuple [.str s, .int ow, .int mea] ∉ xs) ?_ ?_)
    · refine sk_while (fun m ws h => ∃ ow : Int, ws = [some (.loc 0), some (.d (.list nms)), some (.d (.int most)), some (.d (.int size)), some (.d (.int way)), some (.d (.bool mixed)), some (.loc 1), some w, some (.d (.str s)), some (.d (.int ow)), some (.d (.int mea))] ∧
        h = [o8, .lst (xs.map .d)] ∧ m = (xs.filter (below ow)).length ∧ ow ≤ own ∧ own + m ≤ ow + xs.length) (m := (xs.filter (below own)).length) ?_ ⟨own, rfl, rfl, rfl, Int.le_refl _, ?_⟩ ?_
      · have := List.length_filter_le (below own) xs; omega
      · have := List.length_filter_le (below own) xs; omega
      · rintro m _ _ ⟨ow, rfl, rfl, hm2, l1, l2⟩
        simp only [ok_tB, ok_tup, ok_cons, ok_nil, ok_op, ok_var, ok_c, List.getElem?_cons_zero, List.getElem?_cons_succ, Option.join_some, ex_eq]
        have rt : RecV (.tuple [.str s, .int ow, .int mea]) := ⟨s, ow, mea, rfl, ps, by omega, by omega⟩
        refine ⟨show 3 ≤ sizeLine by decide, _, rfl, _, gm_inL (l := 1) (xs := xs) rfl rt.gd.sd sdx, _, rfl, ?_⟩
        split
        · rename_i hany
          refine sk_set ?_
          simp only [ok_op, ok_var, ok_c, List.getElem?_cons_zero, List.getElem?_cons_succ, Option.join_some, ex_eq, gm_sub, List.set_cons_zero, List.set_cons_succ]
          obtain ⟨z, mz, ez⟩ := List.any_eq_true.mp hany
          obtain ⟨t, i, j, rfl, _⟩ := (hr z mz).1
          rw [eqv_rec, Bool.and_eq_true, Bool.and_eq_true] at ez
          have ei : i = ow := of_decide_eq_true ez.2.1
          subst ei
          have lt : (xs.filter (below (i - 1))).length < (xs.filter (below i)).length := by
            refine cnt_lt (fun x m hq => ?_) ⟨_, mz, decide_eq_true (Int.le_refl _), decide_eq_false (by omega)⟩
            obtain ⟨t2, i2, j2, rfl, _⟩ := (hr x m).1
            have h3 : i2 ≤ i - 1 := of_decide_eq_true hq
            exact decide_eq_true (by omega)
          exact ⟨_, by rw [hm2]; exact lt, i - 1, (by first | exact trivial | rfl), (by first | exact trivial | rfl), rfl, by omega, by omega⟩
        · rename_i hany
          exact ⟨(by first | exact trivial | rfl), ow, (by first | exact trivial | rfl), (by first | exact trivial | rfl), l1, by omega, fun mm => hany (List.any_eq_true.mpr ⟨_, mm, by rw [eqv_rec]; simp⟩)⟩
    · rintro _ _ _ ⟨rfl, ow, rfl, rfl, l1, l2, l3⟩
      refine sk_do (ok_lm (l := 1) (xs := xs.map .d) ?_)
      refine (ok_varS (x := .loc 1) rfl).mpr ⟨rfl, rfl, ?_⟩
      simp only [ok_cons, ok_nil, ok_tup, ok_var, List.getElem?_cons_zero, List.getElem?_cons_succ, Option.join_some, ex_eq]
      refine call_draw hd (b := ((xs.map W.d).length : Int) + 1) rfl rfl p8 (by rw [List.length_map]; omega) (by omega) hlt_one fun d9 o9 j0 j1 p9 => ?_
      rw [List.length_map] at j1
      refine ⟨show 3 ≤ sizeLine by decide, _, rfl, xs.map .d, rfl, .d .none, (xs.take d9.toNat ++ [PyData.tuple [.str s, .int ow, .int mea]] ++ xs.drop d9.toNat).map W.d, ?_, ?_⟩
      · show (if (xs.map W.d).length < sizeLine ∧ 0 ≤ d9 ∧ d9 < 2 ^ 63 then _ else none) = _
        rw [List.length_map, if_pos ⟨Nat.lt_of_le_of_lt hxs (by decide), j0, by omega⟩]
        simp only [List.map_append, List.map_take, List.map_drop, List.map_cons, List.map_nil]
      · refine ⟨trivial, _, _, _, _, xs.take d9.toNat ++ [PyData.tuple [.str s, .int ow, .int mea]] ++ xs.drop d9.toNat, o9, rfl, rfl, ⟨?_, ?_⟩, ?_, p9.mono ?_⟩
        · intro y m
          rcases List.mem_append.mp m with m | m
          · rcases List.mem_append.mp m with m | m
            · exact hr y (List.mem_of_mem_take m)
            · obtain rfl := List.mem_singleton.mp m
              exact ⟨⟨s, ow, mea, rfl, ps, by omega, by omega⟩, fun _ _ e => by cases e; exact ml⟩
          · exact hr y (List.mem_of_mem_drop m)
        · have pm : (xs.take d9.toNat ++ [PyData.tuple [.str s, .int ow, .int mea]] ++ xs.drop d9.toNat).Perm (PyData.tuple [.str s, .int ow, .int mea] :: xs) := by
            refine (List.perm_append_comm.append_right _).trans ?_
            rw [List.append_assoc, List.take_append_drop]
            exact .refl _
          exact pm.nodup_iff.mpr (List.nodup_cons.mpr ⟨l3, hnd⟩)
        · rw [List.length_append, List.length_append, List.length_singleton, List.length_take, List.length_drop]; omega
        · rw [List.length_append, List.length_append, List.length_singleton, List.length_take, List.length_drop]; omega
  · rintro ws h ⟨x7, x8, x9, x10, xs, o', rfl, rfl, ⟨hr, hnd⟩, hl2, p'⟩
    rw [List.length_nil] at hl2
    refine sk_ret ((ok_varS (x := .loc 1) rfl).mpr ?_)
    refine ⟨keepP_one p', .loc 1, .d (.list xs), rfl, ?_, xs, o', rfl, by omega, hr, hnd, rfl, p'.mono (by omega)⟩
    exact cut_lst (Nat.le_refl 1) rfl (dats_of _)
theorem bagN_ok {c0 : List W → M W} (hd : DrawOk c0) {nms : List PyData} {most : Int} {n : Nat} {o : Ob} (p : Pen n o) (hx : ∀ x ∈ nms, Nm x) (hl : 1 ≤ nms.length ∧ nms.length ≤ 100) (hm : 0 ≤ most ∧ most ≤ 100) (hn : n ≤ 800000) :
    Ok (M_bagA c0 (M_numbersA c0) [.loc 0, .d (.list nms), .d (.int most)] [o]) fun w h' => ∃ (vs : List Vl) (o' : Ob), w = .d (.list (vs.map Vl.p)) ∧ (vs.length : Int) ≤ most ∧ (∀ v ∈ vs, v.Val) ∧ vs.Nodup ∧ (∀ v ∈ vs, PyData.str v.k ∈ nms) ∧ h' = [o'] ∧ Pen (n + 1000) o' :=
  (bagA_okN hd p hx hl hm hn).imp fun w h' ⟨xs, o', a, b, c, nd, e, d⟩ => by
    obtain ⟨vs, rfl, hv⟩ := recsV_vl fun x m => (c x m).1
    exact ⟨vs, o', a, by rw [List.length_map] at b; exact b, hv, nodup_of_map nd, fun v m => (c v.p (List.mem_map_of_mem m)).2 _ _ rfl, e, d⟩
theorem nms_str : ∀ {nms : List PyData}, (∀ x ∈ nms, Nm x) → ∃ ss : List Str, nms = ss.map .str ∧ ∀ s ∈ ss, NmOk s = true
  | [], _ => ⟨[], rfl, fun _ m => nomatch m⟩
  | x :: xs, h => by
    obtain ⟨s, rfl, a⟩ := h x (List.mem_cons_self ..)
    obtain ⟨ss, rfl, b⟩ := nms_str fun y m => h y (List.mem_cons_of_mem _ m)
    refine ⟨s :: ss, rfl, fun y m => ?_⟩
    rcases List.mem_cons.mp m with rfl | m
    · exact a
    · exact b y m
end L3

namespace L3
open PySem PySem.Spec PyProof.Rows L2
set_option hygiene false in
local macro_rules
  | `(tactic| simp_arith [$ls,*] $[$loc:location]?) => `(tactic| simp (maxSteps := 1000000) (disch := first | omega | assumption | decide | (simp only [List.length_take, List.length_drop, List.length_map, List.length_append, List.length_reverse, List.length_cons, List.length_nil, Int.reduceToNat]; omega)) only [wp_ok, wp_var, wp_c, wp_op, wp_un, wp_and, wp_or, wp_not, wp_if, wp_nil, wp_cons, wp_star, wp_lst, wp_tup, wp_new, wp_b, wp_call, wp_tB, wp_tOf, wp_tNot, wp_tAnd, wp_tOr, 
      wp_tTrue, wp_sm, wp_slice, wp_pN, wp_pS, wp_chain, wp_lm, wp_gN, wp_names, star_t, star_d, List.map_cons, List.map_nil, wp_listN, wp_addN, wp_range1, wp_range2, wp_val, 
      List.getElem?_cons_zero, List.getElem?_cons_succ, Option.join_some, ex_eq, exL, exI, exI2, exO, exO2, List.set_cons_zero, List.set_cons_succ, setAll, gm_add, gm_sub, 
      gm_lt, gm_le, gm_gt, gm_ge, gm_len, gm_lenT, gm_intb, gm_mul, gm_mod, gm_div, gm_pow, asB_b, tru_b, dats_nil, dats_cons, Option.map_some, szl, List.length_cons, 
      List.length_nil, Nat.reduceAdd, and_self, true_and, and_true, if_true, if_false, Bool.false_eq_true, Bool.not_true, Bool.not_false, pk0, pk1, pick_eq, List.filterMap_cons, 
      List.filterMap_nil, List.cons_append, List.nil_append, gs_eqs, gs_nes, ix_l0, ix_lS, Int.reduceToNat, app_get, app_get1, app_get2, app_set, app_set1, app_set2, app_app, 
      app_len, app_len2, gsl_l, gsl_t, cutL_takeI, cutL_dropI, rev_l, gm_addv, gm_addvT, List.length_take, obI_l, rtq, nxq, ctq, gm_lenP, ix_loc, bind_some, lset0, mAppend_eq, $ls,*] $[$loc]?)
local macro_rules
  | `(tactic| simp_arith $[$loc:location]?) => `(tactic| simp_arith [and_self] $[$loc:location]?)
section
variable {wx wy mk : W} {xs ys ms : List Vl} {h : WH}
end
section
end
section
variable {w mk : W} {xs ms : List Vl} {h : WH}
end
end L3

namespace L3
open PySem PySem.Spec PyProof.Rows L2
set_option hygiene false in
local macro_rules
  | `(tactic| simp_arith [$ls,*] $[$loc:location]?) => `(tactic| simp (maxSteps := 1000000) (disch := first | omega | assumption | decide | (simp only [List.length_take, List.length_drop, List.length_map, List.length_append, List.length_reverse, List.length_cons, List.length_nil, Int.reduceToNat]; omega)) only [wp_ok, wp_var, wp_c, wp_op, wp_un, wp_and, wp_or, wp_not, wp_if, wp_nil, wp_cons, wp_star, wp_lst, wp_tup, wp_new, wp_b, wp_call, wp_tB, wp_tOf, wp_tNot, wp_tAnd, wp_tOr, 
      wp_tTrue, wp_sm, wp_slice, wp_pN, wp_pS, wp_chain, wp_lm, wp_gN, wp_names, star_t, star_d, List.map_cons, List.map_nil, wp_listN, wp_addN, wp_range1, wp_range2, wp_val, 
      List.getElem?_cons_zero, List.getElem?_cons_succ, Option.join_some, ex_eq, exL, exI, exI2, exO, exO2, List.set_cons_zero, List.set_cons_succ, setAll, gm_add, gm_sub, 
      gm_lt, gm_le, gm_gt, gm_ge, gm_len, gm_lenT, gm_intb, gm_mul, gm_mod, gm_div, gm_pow, asB_b, tru_b, dats_nil, dats_cons, Option.map_some, szl, List.length_cons, 
      List.length_nil, Nat.reduceAdd, and_self, true_and, and_true, if_true, if_false, Bool.false_eq_true, Bool.not_true, Bool.not_false, pk0, pk1, pick_eq, List.filterMap_cons, 
      List.filterMap_nil, List.cons_append, List.nil_append, gs_eqs, gs_nes, ix_l0, ix_lS, Int.reduceToNat, app_get, app_get1, app_get2, app_set, app_set1, app_set2, app_app, 
      app_len, app_len2, gsl_l, gsl_t, cutL_takeI, cutL_dropI, rev_l, gm_addv, gm_addvT, List.length_take, obI_l, rtq, nxq, ctq, gm_lenP, ix_loc, bind_some, lset0, mAppend_eq, $ls,*] $[$loc]?)
local macro_rules
  | `(tactic| simp_arith $[$loc:location]?) => `(tactic| simp_arith [and_self] $[$loc:location]?)
def leV (a b : Vl) : Bool := !PySem.W.dataLt b.p a.p
def sortV (vs : List Vl) : List Vl := vs.mergeSort leV
theorem sortV_map (vs : List Vl) : sortD (vs.map Vl.p) = (sortV vs).map Vl.p := by
  unfold sortD sortV
  exact (List.map_mergeSort (f := Vl.p) (r := leV) (s := fun a b => !PySem.W.dataLt b a) (l := vs) fun a _ b _ => rfl).symm
theorem vl_alike (a b : Vl) : PySem.W.alike a.p b.p = true := by
  unfold Vl.p
  simp [PySem.W.alike, PySem.W.alikeAll]
theorem vl_depth (a : Vl) : a.p.depth ≤ 60 := by
  unfold Vl.p
  simp [PyData.depth, PyData.depthAll]
theorem okS_vl (vs : List Vl) : okS (vs.map Vl.p) = true := by
  unfold okS
  simp only [Bool.and_eq_true, Bool.or_eq_true, List.all_eq_true, decide_eq_true_eq]
  refine ⟨⟨fun x m y m' => ?_, .inl fun x m => ?_⟩, fun x m => ?_⟩
  · obtain ⟨a, _, rfl⟩ := List.mem_map.mp m
    obtain ⟨b, _, rfl⟩ := List.mem_map.mp m'
    exact vl_alike a b
  · obtain ⟨a, _, rfl⟩ := List.mem_map.mp m; rfl
  · obtain ⟨a, _, rfl⟩ := List.mem_map.mp m; exact ⟨rfl, vl_depth a⟩
theorem sq_sorted {w : W} {vs : List Vl} {h : WH} (q : Sq w vs) : gSorted [w] h = some (.d (.list ((sortV vs).map Vl.p))) := by
  have key : ∀ xs : List PyData, xs = vs.map Vl.p → ((dats (xs.map W.d)).bind fun ds => if okS ds then some (W.d (.list (sortD ds))) else none) = some (.d (.list ((sortV vs).map Vl.p))) := fun xs e => by
    subst e
    rw [dats_map]
    show (if okS (vs.map Vl.p) then some (W.d (.list (sortD (vs.map Vl.p)))) else none) = _
    rw [if_pos (okS_vl vs), sortV_map]
  rcases q.1 with rfl | rfl
  · exact key _ rfl
  · exact key _ rfl
theorem sortV_perm (vs : List Vl) : (sortV vs).Perm vs := List.mergeSort_perm _ _
theorem sortV_mem {vs : List Vl} {v : Vl} : v ∈ sortV vs ↔ v ∈ vs := (sortV_perm vs).mem_iff
theorem sortV_len (vs : List Vl) : (sortV vs).length = vs.length := (sortV_perm vs).length_eq
section
variable {v : Vl} {h : WH} {mk : W} {ms : List Vl}
end
theorem plain_of (s : String) : Plain (Str.ofString s) := fun c m => by
  have m : c ∈ (Str.ofString s).cps.toList := m
  rw [Str.ofString_eq_toList] at m
  have m : c ∈ (s.toList.map Char.toNat).toArray.toList := m
  rw [List.toList_toArray] at m
  obtain ⟨ch, _, rfl⟩ := List.mem_map.mp m
  have := ch.valid
  have : ch.toNat < 0x110000 := by
    rcases this with h | h
    · exact Nat.lt_of_lt_of_le h (by decide)
    · exact h.2
  exact this
section
variable {w mk : W} {xs ms : List Vl} {h : WH}
theorem sd_str {k : Nat} {s : Str} (p : Plain s) : Sd k (.str s) := ⟨by
    unfold PyData.canLay0 PyData.strOk
    rw [Array.all_eq_true_iff_forall_mem]
    exact fun c m => decide_eq_true (p c (Array.mem_toList_iff.mpr m)), by unfold PyData.depth; omega⟩
end
end L3

namespace L3
open PySem PySem.Spec PyProof.Rows L2
theorem okS_keys {ks : List Key} (h : (∀ k ∈ ks, ∃ i, k = .inl i) ∨ ∀ k ∈ ks, ∃ x, k = .inr x) : okS (ks.map keyD) = true := by
  unfold okS
  simp only [Bool.and_eq_true, Bool.or_eq_true, List.all_eq_true, decide_eq_true_eq, List.mem_map]
  refine ⟨⟨?_, .inr ?_⟩, ?_⟩
  · rintro _ ⟨a, ma, rfl⟩ _ ⟨b, mb, rfl⟩
    rcases h with h | h
    · obtain ⟨i, rfl⟩ := h a ma
      obtain ⟨j, rfl⟩ := h b mb
      rfl
    · obtain ⟨i, rfl⟩ := h a ma
      obtain ⟨j, rfl⟩ := h b mb
      rfl
  · rintro _ ⟨a, ma, rfl⟩
    cases a <;> rfl
  · rintro _ ⟨a, ma, rfl⟩
    cases a <;> exact ⟨rfl, Nat.zero_le _⟩
theorem addD_len (acc : List PyData) (x : PyData) : (addD acc x).length ≤ acc.length + 1 := by
  unfold addD
  split
  · omega
  · rw [List.length_append, List.length_singleton]; omega
theorem nub_len (ds : List PyData) : (nubD ds).length ≤ ds.length := by
  have go : ∀ (ds acc : List PyData), (ds.foldl addD acc).length ≤ acc.length + ds.length := fun ds => by
    induction ds with
    | nil => intro acc; exact Nat.le_refl _
    | cons d ds ih =>
      intro acc
      rw [List.foldl_cons, List.length_cons]
      have := ih (addD acc d)
      have := addD_len acc d
      omega
  have := go ds []
  rw [List.length_nil, Nat.zero_add] at this
  exact this
theorem okK_keyD (k : Key) : okK (keyD k) = true := by cases k <;> rfl
theorem compKW {β : Type} {t : DenG} {tt : DenT} {de : Den} {ws0 : WSt} {gd : WH → Prop} {h : WH} (e : β → W) (p : β → Bool) (f : β → Key) :
    ∀ (xs : List β) (acc : List PyData), gd h → acc.length + xs.length ≤ 63 → (∀ x ∈ xs, Wp (t (e x) ws0 h) (fun ws2 h2 => Wp (tt ws2 h2) (fun b h3 => b = p x ∧ (if p x = true then Wp (de ws2 h3) (fun y h4 => y = .d (keyD (f x)) ∧ h4 = h) noE else h3 = h)) noE) noE) →
    compK t tt de ws0 gd (xs.map e) acc h = some (.ok (((xs.filter p).map fun x => keyD (f x)).foldl addD acc), h)
  | [], acc, _, _, _ => by unfold compK; simp
  | x :: r, acc, hg, hl, st => by
    rw [List.length_cons] at hl
    obtain ⟨ws2, h2, e1, b, h3, e2, e3, q⟩ : ∃ ws2 h2, t (e x) ws0 h = some (.ok ws2, h2) ∧ ∃ b h3, tt ws2 h2 = some (.ok b, h3) ∧ b = p x ∧ (if p x = true then Wp (de ws2 h3) (fun y h4 => y = .d (keyD (f x)) ∧ h4 = h) noE else h3 = h) := by
      obtain ⟨ws2, h2, e1, o⟩ := (st x (List.mem_cons_self ..)).ok
      obtain ⟨b, h3, e2, o⟩ := o.ok
      exact ⟨ws2, h2, e1, b, h3, e2, o⟩
    show compK t tt de ws0 gd (e x :: r.map e) acc h = _
    unfold compK
    rw [e1]
    simp only [e2]
    subst e3
    have ih := fun acc' hl' => compKW (t := t) (tt := tt) (de := de) (ws0 := ws0) (gd := gd) (h := h) e p f r acc' hg hl' fun y m => st y (List.mem_cons_of_mem _ m)
    cases hp : p x with
    | true =>
      rw [hp, if_pos rfl] at q
      obtain ⟨y, h4, e4, rfl, rfl⟩ := q.ok
      simp only [if_true, e4]
      rw [if_pos ⟨okK_keyD _, (by omega : acc.length < 63)⟩, if_pos hg]
      have := addD_len acc (keyD (f x))
      rw [ih _ (by omega), List.filter_cons, if_pos hp, List.map_cons, List.foldl_cons]
    | false =>
      rw [hp, if_neg (by decide)] at q
      subst q
      simp only [Bool.false_eq_true, if_false, if_pos hg]
      rw [ih _ (by omega), List.filter_cons, if_neg (by rw [hp]; decide)]
section
variable {β : Type} {vs : List Nat} {di : DenI} {t : Tg} {tt : DenT} {de : Den} {ws : WSt} {h : WH} {E : EQ}
theorem wp_setA {Q : List PyData → WH → Prop} (xs : List β) (e : β → W) (p : β → Bool) (f : β → Key) (hl : xs.length ≤ 63)
    (o : Wp (di ws h) (fun wk h1 => h1 = h ∧ wk.xs = xs.map e ∧ wk.gd h) E)
    (st : ∀ x ∈ xs, Wp (t.dn (e x) (wipeW ws vs) h) (fun ws2 h2 => Wp (tt ws2 h2) (fun b h3 => b = p x ∧ (if p x = true then Wp (de ws2 h3) (fun y h4 => y = .d (keyD (f x)) ∧ h4 = h) noE else h3 = h)) noE) noE)
    (q : Q (nubD ((xs.filter p).map fun x => keyD (f x))) h) : Wp (eSetK vs di t tt de ws h) Q E := by
  unfold eSetK
  rw [wp_bind]
  refine o.imp (fun wk h1 ⟨e1, e2, g⟩ => ?_) fun _ _ _ z => z
  subst e1
  rw [e2, compKW e p f xs [] g (by rw [List.length_nil]; omega) st]
  exact q
theorem wp_sortK {Q : W → WH → Prop} (xs : List β) (e : β → W) (p : β → Bool) (f : β → Key) (hl : xs.length ≤ 63) (hom : (∀ x ∈ xs, ∃ i, f x = .inl i) ∨ ∀ x ∈ xs, ∃ s, f x = .inr s)
    (o : Wp (di ws h) (fun wk h1 => h1 = h ∧ wk.xs = xs.map e ∧ wk.gd h) E)
    (st : ∀ x ∈ xs, Wp (t.dn (e x) (wipeW ws vs) h) (fun ws2 h2 => Wp (tt ws2 h2) (fun b h3 => b = p x ∧ (if p x = true then Wp (de ws2 h3) (fun y h4 => y = .d (keyD (f x)) ∧ h4 = h) noE else h3 = h)) noE) noE)
    (q : Q (.d (.list (sortD (nubD ((xs.filter p).map fun x => keyD (f x)))))) h) : Wp (eSortK vs di t tt de ws h) Q E := by
  unfold eSortK
  rw [wp_bind]
  refine wp_setA xs e p f hl o st ?_
  have : okS (nubD ((xs.filter p).map fun x => keyD (f x))) = true := by
    obtain ⟨ks, e1, e2⟩ : ∃ ks : List Key, ks.map keyD = nubD ((xs.filter p).map fun x => keyD (f x)) ∧ ∀ k ∈ ks, ∃ x ∈ xs, k = f x := by
      have all : ∀ d ∈ nubD ((xs.filter p).map fun x => keyD (f x)), ∃ x ∈ xs, d = keyD (f x) := fun d m => by
        obtain ⟨x, mx, rfl⟩ := List.mem_map.mp (nub_mem.mp m)
        exact ⟨x, (List.mem_filter.mp mx).1, rfl⟩
      generalize nubD ((xs.filter p).map fun x => keyD (f x)) = l at all
      induction l with
      | nil => exact ⟨[], rfl, fun _ m => nomatch m⟩
      | cons d l ih =>
        obtain ⟨ks, e1, e2⟩ := ih fun y m => all y (List.mem_cons_of_mem _ m)
        obtain ⟨x, mx, rfl⟩ := all d List.mem_cons_self
        exact ⟨f x :: ks, by rw [List.map_cons, e1], fun k m => (List.mem_cons.mp m).elim (fun z => ⟨x, mx, z⟩) (e2 k)⟩
    rw [← e1]
    refine okS_keys (hom.imp (fun z k m => ?_) fun z k m => ?_)
    · obtain ⟨x, mx, rfl⟩ := e2 k m; exact z x mx
    · obtain ⟨x, mx, rfl⟩ := e2 k m; exact z x mx
  rw [if_pos this]
  exact q
theorem wp_setL {d : Den} {kk : List PyData → M W} {Q : W → WH → Prop} (o : Wp (d ws h) (fun x h1 => ∃ ds, x = .d (.list ds) ∧ (ds.all okK = true ∧ ds.length < 64) ∧ Wp (kk (nubD ds) h1) Q E) E) : Wp (eSetL d kk ws h) Q E := by
  unfold eSetL
  rw [wp_bind]
  refine o.imp (fun x h1 ⟨ds, e, c, q⟩ => ?_) fun _ _ _ z => z
  subst e
  show Wp (if ds.all okK = true ∧ ds.length < 64 then kk (nubD ds) h1 else none) Q E
  rw [if_pos c]
  exact q
theorem wp_sortL {d : Den} {Q : W → WH → Prop} (o : Wp (d ws h) (fun x h1 => ∃ ks : List Key, x = .d (.list (ks.map keyD)) ∧ ((∀ k ∈ ks, ∃ i, k = .inl i) ∨ ∀ k ∈ ks, ∃ x, k = .inr x) ∧ ks.length < 64 ∧ Q (.d (.list (sortD (nubD (ks.map keyD))))) h1) E) : Wp (eSortL d ws h) Q E := by
  refine wp_setL (o.imp (fun x h1 ⟨ks, e, hom, hl, q⟩ => ⟨ks.map keyD, e, ⟨?_, by rw [List.length_map]; exact hl⟩, ?_⟩) fun _ _ _ z => z)
  · rw [List.all_eq_true]
    intro d m
    obtain ⟨k, _, rfl⟩ := List.mem_map.mp m
    exact okK_keyD k
  · have : okS (nubD (ks.map keyD)) = true := by
      obtain ⟨js, e1, e2⟩ : ∃ js : List Key, js.map keyD = nubD (ks.map keyD) ∧ ∀ k ∈ js, k ∈ ks := by
        have all : ∀ d ∈ nubD (ks.map keyD), ∃ k ∈ ks, d = keyD k := fun d m => by
          obtain ⟨x, mx, rfl⟩ := List.mem_map.mp (nub_mem.mp m)
          exact ⟨x, mx, rfl⟩
        generalize nubD (ks.map keyD) = l at all
        induction l with
        | nil => exact ⟨[], rfl, fun _ m => nomatch m⟩
        | cons d l ih =>
          obtain ⟨js, e1, e2⟩ := ih fun y m => all y (List.mem_cons_of_mem _ m)
          obtain ⟨x, mx, rfl⟩ := all d List.mem_cons_self
          exact ⟨x :: js, by rw [List.map_cons, e1], fun k m => (List.mem_cons.mp m).elim (fun z => z ▸ mx) (e2 k)⟩
      rw [← e1]
      exact okS_keys (hom.imp (fun z k m => z k (e2 k m)) fun z k m => z k (e2 k m))
    rw [if_pos this]
    exact q
end
theorem sortK_congr {ks js : List Key} (hom : (∀ k ∈ js, ∃ i, k = .inl i) ∨ ∀ k ∈ js, ∃ x, k = .inr x) (h : ∀ k, k ∈ ks ↔ k ∈ js) : sortD (nubD (ks.map keyD)) = sortD (nubD (js.map keyD)) := by
  have back : ∀ ls : List Key, ∃ ns : List Key, ns.map keyD = nubD (ls.map keyD) ∧ ∀ k, k ∈ ns ↔ k ∈ ls := fun ls => by
    have all : ∀ d ∈ nubD (ls.map keyD), ∃ k, d = keyD k := fun d m => by
      obtain ⟨x, mx, rfl⟩ := List.mem_map.mp (nub_mem.mp m)
      exact ⟨x, rfl⟩
    obtain ⟨ns, e⟩ : ∃ ns : List Key, ns.map keyD = nubD (ls.map keyD) := by
      generalize nubD (ls.map keyD) = l at all
      induction l with
      | nil => exact ⟨[], rfl⟩
      | cons d l ih =>
        obtain ⟨js, e1⟩ := ih fun y m => all y (List.mem_cons_of_mem _ m)
        obtain ⟨x, rfl⟩ := all d List.mem_cons_self
        exact ⟨x :: js, by rw [List.map_cons, e1]⟩
    refine ⟨ns, e, fun k => ?_⟩
    have z : keyD k ∈ ns.map keyD ↔ keyD k ∈ ls.map keyD := by rw [e, nub_mem]
    have inj : ∀ l : List Key, keyD k ∈ l.map keyD ↔ k ∈ l := fun l => ⟨fun m => by
      obtain ⟨x, mx, ex⟩ := List.mem_map.mp m
      rw [← keyD_inj ex]; exact mx, fun m => List.mem_map_of_mem m⟩
    rw [inj, inj] at z
    exact z
  obtain ⟨n1, e1, m1⟩ := back ks
  obtain ⟨n2, e2, m2⟩ := back js
  have nd : ∀ {ns : List Key} {l : List PyData}, ns.map keyD = nubD l → ns.Nodup := fun {ns l} e => by
    have z := nub_nodup l
    rw [← e] at z
    exact (List.pairwise_map.mp z).imp fun ne e => ne (by rw [e])
  have pm : n1.Perm n2 := (List.perm_ext_iff_of_nodup (nd e1) (nd e2)).mpr fun k => by rw [m1, m2, h]
  have e0 : ∀ l : List Key, l.map keyD = (l.map kN).map NestedKey.data := fun l => by
    rw [List.map_map]; exact List.map_congr_left fun k _ => (kN_data k).symm
  have ok : okS (n2.map keyD) = true := okS_keys (hom.imp (fun z k m => z k ((m2 k).mp m)) fun z k m => z k ((m2 k).mp m))
  rw [← e1, ← e2]
  have al := (okS_split ok).1
  rw [e0] at al
  rw [e0, e0]
  exact sortD_perm (pm.map kN) al
theorem sortS_ex (ss : List Str) : ∃ ts : List Str, sortD (nubD (ss.map .str)) = ts.map .str ∧ ts.Nodup ∧ (∀ s, s ∈ ts ↔ s ∈ ss) ∧ ts.length ≤ ss.length := by
  have pm : (sortD (nubD (ss.map .str))).Perm (nubD (ss.map .str)) := List.mergeSort_perm _ _
  have all : ∀ d ∈ sortD (nubD (ss.map .str)), ∃ s, d = PyData.str s ∧ s ∈ ss := fun d m => by
    obtain ⟨x, mx, rfl⟩ := List.mem_map.mp (nub_mem.mp (pm.mem_iff.mp m))
    exact ⟨x, rfl, mx⟩
  obtain ⟨ts, e⟩ : ∃ ts : List Str, sortD (nubD (ss.map .str)) = ts.map .str := by
    generalize sortD (nubD (ss.map .str)) = l at all
    induction l with
    | nil => exact ⟨[], rfl⟩
    | cons d l ih =>
      obtain ⟨js, e1⟩ := ih fun y m => all y (List.mem_cons_of_mem _ m)
      obtain ⟨x, rfl, _⟩ := all d List.mem_cons_self
      exact ⟨x :: js, by rw [List.map_cons, e1]⟩
  have nd : (ts.map PyData.str).Nodup := by rw [← e]; exact pm.nodup_iff.mpr (nub_nodup _)
  refine ⟨ts, e, (List.pairwise_map.mp nd).imp fun ne e => ne (by rw [e]), fun s => ?_, ?_⟩
  · have z : PyData.str s ∈ ts.map PyData.str ↔ PyData.str s ∈ ss.map PyData.str := by rw [← e, pm.mem_iff, nub_mem]
    have inj : ∀ l : List Str, PyData.str s ∈ l.map PyData.str ↔ s ∈ l := fun l => ⟨fun m => by
      obtain ⟨x, mx, ex⟩ := List.mem_map.mp m
      cases ex; exact mx, fun m => List.mem_map_of_mem m⟩
    rw [inj, inj] at z
    exact z
  · have z := pm.length_eq
    rw [e, List.length_map] at z
    have y := nub_len (ss.map PyData.str)
    rw [List.length_map] at y
    omega
end L3

namespace L3
open PySem

def GSus : GenState → Bool
  | .suspended .. => true
  | _ => false
def stuck : GenState → GenState
  | .suspended _ l c p fs cl => .suspended (fun _ => .unsupported "") l c p fs cl
  | x => x
theorem stuck_bare (x : GenState) : (stuck x).bare = x.bare := by cases x <;> rfl
def Lone : GenState → Prop
  | .suspended _ _ _ _ fs _ => splitAtGen fs = none
  | _ => True
structure Sl (S : Nat → Option GenState) (G : Array GenState) : Prop where
  st : ∀ i y, S i = some y → GSus y = true ∧ G[i]? = some (stuck y)
  lo : ∀ i x, S i = none → G[i]? = some x → Lone x
section
variable {S : Nat → Option GenState} {G : Array GenState}
theorem Sl.lt (z : Sl S G) {i : Nat} {y : GenState} (h : S i = some y) : i < G.size := (Array.getElem?_eq_some_iff.mp (z.st i y h).2).1
theorem Sl.push (z : Sl S G) {x : GenState} (h : Lone x) : Sl S (G.push x) := by
  refine ⟨fun i y e => ⟨(z.st i y e).1, ?_⟩, fun i y e q => ?_⟩
  · rw [Array.getElem?_push_lt (z.lt e)]
    have := (z.st i y e).2
    rw [Array.getElem?_eq_getElem (z.lt e)] at this
    exact this
  · rw [Array.getElem?_push] at q
    split at q
    · cases q; exact h
    · exact z.lo i y e q
theorem Sl.set (z : Sl S G) {g : Nat} {x : GenState} (h : S g = none) (l : Lone x) : Sl S (G.setIfInBounds g x) := by
  refine ⟨fun i y e => ⟨(z.st i y e).1, ?_⟩, fun i y e q => ?_⟩
  · rw [Array.getElem?_setIfInBounds_ne (fun q => by rw [q, e] at h; cases h)]
    exact (z.st i y e).2
  · rw [Array.getElem?_setIfInBounds] at q
    split at q
    · split at q
      · cases q; exact l
      · cases q
    · exact z.lo i y e q
end
def LoneE : End → Prop
  | .susp _ _ _ _ _ _ fs => splitAtGen fs = none
  | _ => True
theorem LoneE.gen {e : End} (h : LoneE e) : Lone e.genState := by cases e <;> first | trivial | exact h
section
open Sem (wp)
end
def stuckS (s : Shared) : Shared := { s with gens := s.gens.map stuck }
theorem bare_stuck {s : Shared} (h : ∀ x ∈ s.gens, x.bare = true) : ∀ x ∈ (stuckS s).gens, x.bare = true := fun x hx => by
  obtain ⟨y, hy, e⟩ := Array.mem_map.mp (show x ∈ s.gens.map stuck from hx)
  rw [← e, stuck_bare]
  exact h y hy
end L3

namespace L3
open PySem PySem.Spec PyProof.Rows L2 GenW

abbrev Phi := End → Shared → Prop
def Sg (M : Model) (A : Around) (Φ : Phi) (c : Code) (t : Sem PySem.Fin) (fs : List Frame) (s : Shared) : Prop :=
  ∀ Γ p, Γ.code = c → Γ.Woken A → ∃ e s', Runs M Γ p t fs s e s' ∧ Φ e s'
section
variable {M : Model} {A : Around} {Φ : Phi} {c : Code} {fs : List Frame} {s : Shared}
end
def Wk (M : Model) (A : Around) (Φ : Phi) : GenState → Shared → Prop
  | .fresh c, s => Sg M A Φ c (M.den c) [] s
  | .suspended k _ c _ fs _, s => Sg M A Φ c (k (.send .none)) fs s
  | _, _ => False
theorem wpAny_wake {M : Model} {A : Around} {Φ : Phi} {s : Shared} {g : Nat} {gs : GenState} {l : List Value} {α : Type} {k : GenResult → Sem α} {Q : α → Shared → Prop} {E : Value → Shared → Prop} (hg : s.gens[g]? = some gs)
    (hw : Wk M A Φ gs (s.setGen g .running)) (hq : ∀ e s', Φ e s' → e.quiet = true ∧ wpAny M A (k e.result) Q E (s'.setGen g e.genState)) : wpAny M A (.resume g (.send .none) l k) Q E s := by
  intro Γ p hΓ
  rw [Sem.wp_resume]
  have hB : ∀ c, (Γ.wake c p).Woken A := fun c => hΓ.wake c p
  cases gs with
  | fresh c =>
    obtain ⟨e, s', hr, he⟩ := hw (Γ.wake c p) p rfl (hB c)
    obtain ⟨q, h⟩ := hq e s' he
    exact ⟨e.result, s'.setGen g e.genState, by unfold Wakes; rw [hg]; exact ⟨e, s', hr, q, rfl, rfl⟩, h Γ p hΓ⟩
  | suspended k₀ l₀ c₀ p₀ fs₀ cl =>
    obtain ⟨e, s', hr, he⟩ := hw (Γ.wake c₀ p) p₀ rfl (hB c₀)
    obtain ⟨q, h⟩ := hq e s' he
    exact ⟨e.result, s'.setGen g e.genState, by unfold Wakes; rw [hg]; exact ⟨e, s', hr, q, rfl, rfl⟩, h Γ p hΓ⟩
  | running => exact hw.elim
  | finished => exact hw.elim

def cutH (n : Nat) (h : Heap) : Heap := ⟨h.objs.take n, h.life⟩
def cutS (n : Nat) (s : Shared) : Shared := { s with heap := cutH n s.heap }
def frzO (a : Addr) (o : Obj) : HO := .ext fun h => h.get? a = some o
theorem frzO_ok {P : Program} {w : World} {H : Hp} {h : Heap} {a : Addr} {o : Obj} (e : h.get? a = some o) : ObjOk P w H h a (frzO a o) := ⟨e, ⟨o, e⟩, fun h1 h2 x k => k o x⟩
theorem frzO_get {P : Program} {w : World} {H : Hp} {h : Heap} {a : Addr} {o : Obj} (x : ObjOk P w H h a (frzO a o)) : h.get? a = some o := x.1
theorem hok_less {P : Program} {w : World} {H H' : Hp} {h : Heap} (x : HOk P w H h) (sub : ∀ a o, H' a = some o → H a = some o) (own : ∀ a b, H' a ≠ none → H b = some (.own a) → H' b = some (.own a))
    (tup : ∀ b xs, H b = some (.tup xs) → H' b = some (.tup xs)) : HOk P w H' h := fun a o e =>
  (x a o (sub a o e)).stay (fun _ _ _ q => q) (fun b q => own a b (by rw [e]; simp) q) tup
end L3

namespace L3
open PySem PySem.Spec PyProof.Rows L2 GenW

structure Gh where
  th : Th
  h : WH
  H : Hp
noncomputable abbrev Gh.hid (g : Gh) : Hp := L3.hid g.th g.h g.H
structure GD where
  P : Program
  w : World
  K : PySem.W.Frag
  mg : Str → Option Value
  base : Heap
  N : List Str
  qual : Str
  scope : Scope
  f : Addr
  cd : Value
  outer : List Env
  n0 : Nat
  k : Nat
  g : Nat
abbrev GD.env (D : GD) : Env := envOfC D.qual D.scope D.n0 D.f D.cd
abbrev GD.M (D : GD) : Model := model D.P D.w
structure Wake (D : GD) (priv : Addr → Prop) (G : Nat → Prop) (gh : Gh) (s : Shared) (A : Around) (gh2 : Gh) (s2 : Shared) : Prop where
  room : Rm (D.k + 1) A
  env : Env0 D.P D.w D.K D.mg D.base A D.outer s2 gh2.H
  rh : RelH D.K (D.mg, D.w) gh2.th gh2.h gh2.H
  le : Le gh.hid gh2.hid
  pv : ∀ a, priv a → gh2.H a = gh.H a ∧ gh2.th.hd a
  gens : ∀ (i : Nat) (y : GenState), G i → s.gens[i]? = some y → GSus y = true → s2.gens[i]? = some y
  gsz : s.gens.size ≤ s2.gens.size
  os : s2.os = s.os
structure Link (D : GD) (priv priv3 : Addr → Prop) (G G3 : Nat → Prop) (gh2 : Gh) (s2 : Shared) (gh3 : Gh) (s3 : Shared) : Prop where
  os : s3.os = s2.os
  bare : AllBare s3.gens
  hok : HOk D.P D.w gh3.H s3.heap
  rh : RelH D.K (D.mg, D.w) gh3.th gh3.h gh3.H
  a : gh3.th.a = gh2.th.a
  hh : gh3.h = gh2.h
  keepH : ∀ a o, gh2.H a = some o → ¬ priv a → gh3.H a = some o
  there : ∀ a, gh3.H a = none → priv a ∨ gh2.H a = none
  hdN : ∀ a, gh3.th.hd a → gh2.th.hd a ∨ gh2.H a = none
  hds : ∀ a, gh2.th.hd a → ¬ priv a → gh3.th.hd a
  keep : ∀ b o, b < D.n0 → s2.heap.get? b = some o → gh2.H b = none → b ∉ frs D.outer → s3.heap.get? b = some o
  slot : ∀ b o, b < D.n0 → s2.heap.get? b = some o → gh2.H b = none → b ∈ frs D.outer → ∃ sl, s3.heap.get? b = some { o with slots := sl }
  free : ∀ b o, b < D.n0 → s2.heap.get? b = some o → gh2.H b = none → gh3.H b = none
  thr : ∀ b o, b < D.n0 → s2.heap.get? b = some o → ∃ o', s3.heap.get? b = some o'
  pv : ∀ a, priv3 a → gh3.th.hd a ∧ (∃ o, gh3.H a = some (frzO a o)) ∧ (priv a ∨ gh2.H a = none)
  gens : ∀ (i : Nat) (y : GenState), ¬ G i → s2.gens[i]? = some y → GSus y = true → s3.gens[i]? = some y
  gsz : s2.gens.size ≤ s3.gens.size
  newG : ∀ i, G3 i → (G i ∨ s2.gens.size ≤ i) ∧ ∃ y, s3.gens[i]? = some y ∧ GSus y = true
def Slp (D : GD) : List PyData → (Addr → Prop) → (Nat → Prop) → GenState → Gh → Shared → Prop
  | [], priv, G, gs, gh, s => ∀ A gh2 s2, Wake D priv G gh s A gh2 s2 → Wk D.M A (fun e s3 => match e with
      | .ret r => r = .ok (.ret .none) ∧ ∃ gh3 priv3 G3, Link D priv priv3 G G3 gh2 (s2.setGen D.g .running) gh3 s3
      | .susp .. => False) gs (s2.setGen D.g .running)
  | x :: r, priv, G, gs, gh, s => ∀ A gh2 s2, Wake D priv G gh s A gh2 s2 → Wk D.M A (fun e s3 => match e with
      | .susp u g l k c p fs => (End.susp u g l k c p fs).quiet = true ∧ ∃ gh3 priv3 G3 v, RelV v u ∧ RelW D.K (D.mg, D.w) gh3.th gh3.h gh3.H (.d x) v ∧ Link D priv priv3 G G3 gh2 (s2.setGen D.g .running) gh3 s3 ∧
          Slp D r priv3 G3 (End.susp u g l k c p fs).genState gh3 s3
      | .ret _ => False) gs (s2.setGen D.g .running)
def PhiOf (D : GD) (xs : List PyData) (priv : Addr → Prop) (G : Nat → Prop) (gh2 : Gh) (s2 : Shared) : Phi := fun e s3 => match xs with
  | [] => match e with
      | .ret r => r = .ok (.ret .none) ∧ ∃ gh3 priv3 G3, Link D priv priv3 G G3 gh2 s2 gh3 s3
      | .susp .. => False
  | x :: r => match e with
      | .susp u g l k c p fs => (End.susp u g l k c p fs).quiet = true ∧ ∃ gh3 priv3 G3 v, RelV v u ∧ RelW D.K (D.mg, D.w) gh3.th gh3.h gh3.H (.d x) v ∧ Link D priv priv3 G G3 gh2 s2 gh3 s3 ∧
          Slp D r priv3 G3 (End.susp u g l k c p fs).genState gh3 s3
      | .ret _ => False
theorem slp_iff {D : GD} {xs : List PyData} {priv : Addr → Prop} {G : Nat → Prop} {gs : GenState} {gh : Gh} {s : Shared} :
    Slp D xs priv G gs gh s ↔ ∀ A gh2 s2, Wake D priv G gh s A gh2 s2 → Wk D.M A (PhiOf D xs priv G gh2 (s2.setGen D.g .running)) gs (s2.setGen D.g .running) := by
  cases xs <;> exact Iff.rfl
def gcx (D : GD) (A : Around) (s₀ : Shared) (H₀ : Hp) : Cx where
  prog := D.P
  w := D.w
  K := D.K
  mg := D.mg
  base := D.base
  A := A.deeper D.env
  N := D.N
  s_0 := cutS D.n0 s₀
  H_0 := H₀
  env := D.env
  outer := D.outer
  stack := D.env :: D.outer
  ex := []
  calm := true
  fn := fun _ => true
  pn := []
  xe := fun _ _ => False
structure GD.Ok (D : GD) : Prop where
  kind : D.scope.kind = .function
  inj : ∀ x y c, D.env.cells.lookup x = some c → D.env.cells.lookup y = some c → x = y
  has : ∀ x, (D.env.kindOf x = some .cell ∨ D.env.kindOf x = some .free) → ∃ c, D.env.cells.lookup x = some c
  cab : ∀ x c, D.env.cells.lookup x = some c → D.n0 ≤ c
  bn : D.base.objs.size ≤ D.n0
  fr : ∀ b ∈ frs D.outer, b < D.n0
structure GFr (D : GD) (h : Heap) (σ : L2.St) : Prop where
  loc : ∃ m, h.Ns D.n0 m ∧ ∀ (i : Nat) (x : Str) (v : V), D.N[i]? = some x → σ[i]? = some (some v) → Vis D.scope x → ∃ u, RelV v u ∧ Look D.env h m x u
  cell : ∀ x c, D.env.cells.lookup x = some c → ∃ v, h.IsCell c v
  len : σ.length = D.N.length
def own (D : GD) (ip : List (Addr × Obj)) (a : Addr) : Prop := a = D.n0 ∨ (∃ x, D.env.cells.lookup x = some a) ∨ ∃ o, (a, o) ∈ ip
structure IpOk (D : GD) (ip : List (Addr × Obj)) (h : Heap) : Prop where
  at_ : ∀ p ∈ ip, h.get? p.1 = some p.2 ∧ p.1 ≠ D.n0 ∧ D.n0 ≤ p.1 ∧ ∀ v, p.2.data ≠ .cell v
open Classical in
noncomputable def Hg (D : GD) (ip : List (Addr × Obj)) (H : Hp) : Hp := fun a => if own D ip a then none else H a
section
variable {D : GD} {ip : List (Addr × Obj)} {H : Hp} {h : Heap} {σ : L2.St}
theorem hg_not {a : Addr} (e : ¬ own D ip a) : Hg D ip H a = H a := if_neg e
theorem own_there (F : GFr D h σ) (ipk : IpOk D ip h) {a : Addr} (e : own D ip a) : ∃ o, h.get? a = some o := by
  rcases e with rfl | ⟨x, e⟩ | ⟨o, e⟩
  · obtain ⟨m, ⟨o, _, _, e, _⟩, _⟩ := F.loc
    exact ⟨o, e⟩
  · obtain ⟨v, o, e, _⟩ := F.cell x a e
    exact ⟨o, e⟩
  · exact ⟨o, (ipk.at_ _ e).1⟩
theorem GFr.at {h' : Heap} (F : GFr D h σ) (k : ∀ a o, own D [] a → h.get? a = some o → h'.get? a = some o) : GFr D h' σ where
  loc := by
    obtain ⟨m, ⟨o, es, ep, e, r⟩, q⟩ := F.loc
    refine ⟨m, ⟨o, es, ep, k _ _ (.inl rfl) e, r⟩, fun i x v e1 e2 e3 => ?_⟩
    obtain ⟨u, r1, l⟩ := q i x v e1 e2 e3
    refine ⟨u, r1, l.imp id ?_⟩
    rintro ⟨z, c, e4, ob, e5, e6⟩
    exact ⟨z, c, e4, ob, k _ _ (.inr (.inl ⟨x, e4⟩)) e5, e6⟩
  cell := fun x c e => by
    obtain ⟨v, ob, e5, e6⟩ := F.cell x c e
    exact ⟨v, ob, k _ _ (.inr (.inl ⟨x, e⟩)) e5, e6⟩
  len := F.len
theorem IpOk.at {h' : Heap} (F : IpOk D ip h) (k : ∀ a o, own D ip a → h.get? a = some o → h'.get? a = some o) : IpOk D ip h' :=
  ⟨fun p hp => let ⟨a, b⟩ := F.at_ p hp; ⟨k _ _ (.inr (.inr ⟨p.2, hp⟩)) a, b⟩⟩
theorem Ga.frame {A : Around} {s₀ : Shared} {H₀ : Hp} {s : Shared} (I : Inv (gcx D A s₀ H₀) ip σ H s) (hn : D.n0 ≤ s₀.heap.objs.size) : GFr D s.heap σ := ⟨I.loc, I.cell, I.len⟩
end
end L3

namespace L3
open PySem PySem.Spec PyProof.Rows L2 GenW

theorem relw_le {K : PySem.W.Frag} {mg : MG} {th th' : Th} {h h' : WH} {H H' : Hp} (le : Le (hid th h H) (hid th' h' H')) (ea : th'.a = th.a) (eh : h' = h) : ∀ {w : W} {v : V}, RelW K mg th h H w v → RelW K mg th' h' H' w v
  | .d _, _, r => le.fz r
  | .fz _, _, r => le.dp r
  | .loc _, _, ⟨a, e, q, z⟩ => ⟨a, e, by rw [ea]; exact q, by rw [eh]; exact z⟩
  | .ty _, _, r => r
  | .cl _, _, r => r
theorem relws_le {K : PySem.W.Frag} {mg : MG} {th th' : Th} {h h' : WH} {H H' : Hp} (le : Le (hid th h H) (hid th' h' H')) (ea : th'.a = th.a) (eh : h' = h) : ∀ {ws : List W} {vs : List V}, RelWs K mg th h H ws vs → RelWs K mg th' h' H' ws vs
  | [], _, r => r
  | _ :: _, _, ⟨v, r, e, a, b⟩ => ⟨v, r, e, relw_le le ea eh a, relws_le le ea eh b⟩
theorem relfs_le {K : PySem.W.Frag} {mg : MG} {th th' : Th} {h h' : WH} {H H' : Hp} (le : Le (hid th h H) (hid th' h' H')) (ea : th'.a = th.a) (eh : h' = h) : ∀ {ws : List (Str × W)} {vs : List (Str × V)}, RelFs K mg th h H ws vs → RelFs K mg th' h' H' ws vs
  | [], _, r => r
  | _ :: _, _, ⟨v, r, e, a, b⟩ => ⟨v, r, e, relw_le le ea eh a, relfs_le le ea eh b⟩
theorem objr_le {K : PySem.W.Frag} {mg : MG} {th th' : Th} {h h' : WH} {H H' : Hp} (le : Le (hid th h H) (hid th' h' H')) (ea : th'.a = th.a) (eh : h' = h) {a : Addr} {o : Ob} (e : o.live = true → H' a = H a) (r : ObjR K mg th h H a o) : ObjR K mg th' h' H' a o := by
  cases o with
  | dead => trivial
  | lst ws => obtain ⟨vs, q, s⟩ := r; exact ⟨vs, (e rfl).trans q, relws_le le ea eh s⟩
  | tup ws => obtain ⟨vs, q, s⟩ := r; exact ⟨vs, (e rfl).trans q, relws_le le ea eh s⟩
  | dct kvs => obtain ⟨ks, vs, q, m, s⟩ := r; exact ⟨ks, vs, (e rfl).trans q, m, relws_le le ea eh s⟩
  | dv kvs => obtain ⟨xs, q, ⟨m, ks⟩, s⟩ := r; exact ⟨xs, (e rfl).trans q, ⟨m, fun z mz => le.sqT (ks z mz)⟩, relws_le le ea eh s⟩
  | ins c fs => obtain ⟨C, dx, vs, m, q, s⟩ := r; exact ⟨C, dx, vs, m, (e rfl).trans q, relfs_le le ea eh s⟩
  | exo c fs => obtain ⟨C, d, q, s⟩ := r; exact ⟨C, d, (e rfl).trans q, s.le le⟩
structure Pc where
  A : Around
  ip : List (Addr × Obj)
  iv : Addr → Prop
  ig : Nat → Prop
  gh : Gh
  s : Shared
def Pc.priv (D : GD) (p : Pc) (a : Addr) : Prop := own D p.ip a ∨ p.iv a
noncomputable abbrev Pc.H (D : GD) (p : Pc) : Hp := Hg D p.ip p.gh.H
structure Pc.Ok (D : GD) (p : Pc) : Prop where
  room : Rm (D.k + 1) p.A
  rh : RelH D.K (D.mg, D.w) p.gh.th p.gh.h p.gh.H
  hd : ∀ a, p.priv D a → p.gh.th.hd a
  dis : ∀ a, own D p.ip a → ¬ p.iv a
  ge : ∀ a, own D p.ip a → D.n0 ≤ a
  sz : D.n0 ≤ p.s.heap.objs.size
  ng : ¬ p.ig D.g
  gl : D.g < p.s.gens.size
structure InS (D : GD) (p : Pc) (ip : List (Addr × Obj)) (iv : Addr → Prop) (ig : Nat → Prop) (th : Th) (σ : L2.St) (H : Hp) (s : Shared) : Prop where
  inv : Inv (gcx D p.A p.s (p.H D)) ip σ H s
  rh : RelH D.K (D.mg, D.w) th [] H
  ta : th.a = []
  keepH : ∀ a o, p.H D a = some o → ¬ p.iv a → H a = some o
  there : ∀ a, H a = none → p.iv a ∨ p.H D a = none
  hdN : ∀ a, th.hd a → Lv p.gh.th p.gh.h a ∨ p.H D a = none
  hds : ∀ a, Lv p.gh.th p.gh.h a → ¬ own D p.ip a → ¬ p.iv a → th.hd a
  gens : ∀ (i : Nat) (y : GenState), ¬ p.ig i → p.s.gens[i]? = some y → GSus y = true → s.gens[i]? = some y
  gsz : p.s.gens.size ≤ s.gens.size
  ig : ∀ i, ig i → (p.ig i ∨ p.s.gens.size ≤ i) ∧ ∃ y, s.gens[i]? = some y ∧ GSus y = true
  ips : IpOk D ip s.heap
  iv : ∀ a, iv a → th.hd a ∧ (∃ o, H a = some (frzO a o)) ∧ (p.iv a ∨ p.H D a = none)
section
variable {D : GD} {p : Pc} {ip : List (Addr × Obj)} {iv : Addr → Prop} {ig : Nat → Prop} {th : Th} {σ : L2.St} {H : Hp} {s : Shared}
theorem InS.own_none (I : InS D p ip iv ig th σ H s) {a : Addr} (e : own D ip a) : H a = none := by
  rcases e with rfl | ⟨x, e⟩ | ⟨o, e⟩
  · exact I.inv.free
  · exact I.inv.freeC x a e
  · exact (I.inv.pin (a, o) (List.mem_append_right _ e)).2.1
theorem InS.fr (I : InS D p ip iv ig th σ H s) : GFr D s.heap σ := ⟨I.inv.loc, I.inv.cell, I.inv.len⟩
theorem InS.low (I : InS D p ip iv ig th σ H s) : (cutH D.n0 p.s.heap).objs.size ≤ D.n0 := I.inv.ok.above
open Classical in
noncomputable def slGh (D : GD) (p : Pc) (ip : List (Addr × Obj)) (th : Th) (H : Hp) (s : Shared) : Gh where
  th := { a := p.gh.th.a, hd := fun a => ((p.gh.th.hd a ∧ ¬ p.priv D a) ∨ own D ip a ∨ th.hd a) ∧ ¬ Pl p.gh.th p.gh.h a }
  h := p.gh.h
  H := fun a => if own D ip a then (s.heap.get? a).map (frzO a) else H a
open Classical in
theorem slGh_own {a : Addr} {o : Obj} (e : own D ip a) (q : s.heap.get? a = some o) : (slGh D p ip th H s).H a = some (frzO a o) := by
  show (if own D ip a then (s.heap.get? a).map (frzO a) else H a) = _
  rw [if_pos e, q]; rfl
theorem slGh_not {a : Addr} (e : ¬ own D ip a) : (slGh D p ip th H s).H a = H a := if_neg e
theorem InS.slGh_some (I : InS D p ip iv ig th σ H s) {a : Addr} {o : HO} (e : H a = some o) : (slGh D p ip th H s).H a = some o := by
  rw [slGh_not (fun z => ?_)]; exact e
  rw [I.own_none z] at e; cases e
theorem InS.le (I : InS D p ip iv ig th σ H s) (ok : p.Ok D) : Le p.gh.hid (slGh D p ip th H s).hid := fun a o e => by
  obtain ⟨n, e⟩ := hid_some.mp e
  have np : ¬ p.priv D a := fun z => n (.inl (ok.hd a z))
  have e1 : p.H D a = some o := (hg_not fun z => np (.inl z)).trans e
  have e2 := I.keepH a o e1 fun z => np (.inr z)
  refine hid_some.mpr ⟨?_, I.slGh_some e2⟩
  rintro (⟨z, _⟩ | z)
  · rcases z with ⟨z, _⟩ | z | z
    · exact n (.inl z)
    · rw [I.own_none z] at e2; cases e2
    · rcases I.hdN a z with z | z
      · exact n z
      · rw [z] at e1; cases e1
  · exact n (.inr z)
theorem InS.rel (I : InS D p ip iv ig th σ H s) (ok : p.Ok D) : RelH D.K (D.mg, D.w) (slGh D p ip th H s).th (slGh D p ip th H s).h (slGh D p ip th H s).H := by
  have live : ∀ {l : Nat} {o : Ob} {a : Addr}, p.gh.h[l]? = some o → p.gh.th.a[l]? = some a → o.live = true → (slGh D p ip th H s).H a = p.gh.H a := fun {l o a} e1 e2 e3 => by
    have np : ¬ p.priv D a := fun z => ok.rh.off l o a e1 e3 e2 (ok.hd a z)
    cases q : p.gh.H a with
    | none => exact (ok.rh.trk (.inr ⟨l, o, e1, e3, e2⟩) q).elim
    | some u =>
      have e1 : p.H D a = some u := (hg_not fun z => np (.inl z)).trans q
      exact I.slGh_some (I.keepH a u e1 fun z => np (.inr z))
  refine ⟨ok.rh.len, ok.rh.inj, fun l o a e1 e2 => objr_le (I.le ok) rfl rfl (fun z => live e1 e2 z) (ok.rh.obj l o a e1 e2), ?_, fun l o a e1 e2 e3 z => z.2 ⟨l, o, e1, e2, e3⟩⟩
  rintro a ⟨z | z | z, np⟩
  · obtain ⟨z, n⟩ := z
    have := ok.rh.tr a z
    cases q : p.gh.H a with
    | none => exact (this q).elim
    | some u =>
      have e1 : p.H D a = some u := (hg_not fun z => n (.inl z)).trans q
      rw [I.slGh_some (I.keepH a u e1 fun z => n (.inr z))]; simp
  · obtain ⟨o, q⟩ := own_there I.fr I.ips z
    rw [slGh_own z q]; simp
  · have := I.rh.tr a z
    cases q : H a with
    | none => exact (this q).elim
    | some u => rw [I.slGh_some q]; simp
end
end L3

namespace L3
open PySem PySem.Spec PyProof.Rows L2 GenW

theorem bare_set {G : Array GenState} {g : Nat} {x : GenState} (h : AllBare G) (hx : x.bare = true) : AllBare (G.setIfInBounds g x) := fun y hy => by
  rcases Array.mem_or_eq_of_mem_setIfInBounds hy with z | z
  · exact h y z
  · rw [z]; exact hx
theorem setGen_ne {s : Shared} {g i : Nat} {x : GenState} (h : i ≠ g) : (s.setGen g x).gens[i]? = s.gens[i]? := by
  show (s.gens.setIfInBounds g x)[i]? = _
  exact Array.getElem?_setIfInBounds_ne (Ne.symm h)
theorem inv_gens {X : Cx} {pins : List (Addr × Obj)} {σ : L2.St} {H : Hp} {s : Shared} (I : Inv X pins σ H s) {G : Array GenState} (h : AllBare G) : Inv X pins σ H { s with gens := G } :=
  ⟨I.ok, I.os, h, I.base, I.loc, I.cell, I.free, I.freeC, I.pin, I.hok, I.len⟩
structure Pst (D : GD) (iv : Addr → Prop) (ig : Nat → Prop) (th : Th) (H : Hp) (s : Shared) (th' : Th) (H' : Hp) (s' : Shared) : Prop where
  le : Le (hid th [] H) (hid th' [] H')
  iv : ∀ a, iv a → H' a = H a ∧ th'.hd a
  gens : ∀ (i : Nat) (y : GenState), ig i → s.gens[i]? = some y → GSus y = true → s'.gens[i]? = some y
  os : s'.os = s.os
  gsz : s.gens.size ≤ s'.gens.size
section
variable {D : GD} {iv : Addr → Prop} {ig : Nat → Prop} {th th1 th2 : Th} {H H1 H2 : Hp} {s s1 s2 : Shared}
theorem Pst.trans (a : Pst D iv ig th H s th1 H1 s1) (b : Pst D iv ig th1 H1 s1 th2 H2 s2) : Pst D iv ig th H s th2 H2 s2 :=
  ⟨a.le.trans b.le, fun x h => ⟨(b.iv x h).1.trans (a.iv x h).1, (b.iv x h).2⟩, fun i y h e z => b.gens i y h (a.gens i y h e z) z, b.os.trans a.os, Nat.le_trans a.gsz b.gsz⟩
theorem Pst.less {iv' : Addr → Prop} {ig' : Nat → Prop} (a : Pst D iv ig th H s th1 H1 s1) (h : ∀ x, iv' x → iv x) (hg : ∀ i, ig' i → ig i) : Pst D iv' ig' th H s th1 H1 s1 := ⟨a.le, fun x z => a.iv x (h x z), fun i y z => a.gens i y (hg i z), a.os, a.gsz⟩
end
def Good (D : GD) (p : Pc) (xs : List PyData) (c : Code) (t : Sem PySem.Fin) (fs : List Frame) (s : Shared) : Prop := Sg D.M p.A (PhiOf D xs (p.priv D) p.ig p.gh p.s) c t fs s
structure GCs (D : GD) (c : Code) (fs : List Frame) (gd : Bool → Bool) : Prop where
  over : ∀ A : Around, A.over c fs = A.deeper D.env
  split : splitAtGen fs = none
  guard : fs.any Frame.guarded = false
  gd : gd false = false
abbrev GDen := WSt → Option (List PyData × Fl × WSt)
def flow : Fl → Flow
  | .nx => .next
  | .bk => .brk
  | .ct => .cont
  | _ => .ret .none
def After (D : GD) (ip : List (Addr × Obj)) (iv : Addr → Prop) (ig : Nat → Prop) (xs : List PyData) (c : Code) (t : Sem PySem.Fin) (fs : List Frame) (ws : WSt) (th : Th) (H : Hp) (s : Shared) : Prop :=
  ∀ p th' σ' H' s', p.Ok D → InS D p ip iv ig th' σ' H' s' → RelSt D.K (D.mg, D.w) th' [] H' ws σ' → Pst D iv ig th H s th' H' s' → Good D p xs c t fs s'
structure GSnd (D : GD) (st : Stmt) (d : GDen) : Prop where
  run : ∀ (p : Pc) (ip : List (Addr × Obj)) (iv : Addr → Prop) (ig : Nat → Prop) (th : Th) (σ : L2.St) (H : Hp) (s : Shared) (ws ws' : WSt) (xs ys : List PyData) (f : Fl) (c : Code) (fs : List Frame) (K : Flow → Sem PySem.Fin) (J : Value → Sem PySem.Fin) (gd : Bool → Bool) (lv : List Value → List Value),
    p.Ok D → GCs D c fs gd → InS D p ip iv ig th σ H s → RelSt D.K (D.mg, D.w) th [] H ws σ → d ws = some (ys, f, ws') → After D ip iv ig xs c (K (flow f)) fs ws' th H s → Good D p (ys ++ xs) c ((exec st D.env).wrap K J gd lv) fs s
structure GSnds (D : GD) (st : List Stmt) (d : GDen) : Prop where
  run : ∀ (p : Pc) (ip : List (Addr × Obj)) (iv : Addr → Prop) (ig : Nat → Prop) (th : Th) (σ : L2.St) (H : Hp) (s : Shared) (ws ws' : WSt) (xs ys : List PyData) (f : Fl) (c : Code) (fs : List Frame) (K : Flow → Sem PySem.Fin) (J : Value → Sem PySem.Fin) (gd : Bool → Bool) (lv : List Value → List Value),
    p.Ok D → GCs D c fs gd → InS D p ip iv ig th σ H s → RelSt D.K (D.mg, D.w) th [] H ws σ → d ws = some (ys, f, ws') → After D ip iv ig xs c (K (flow f)) fs ws' th H s → Good D p (ys ++ xs) c ((execs st D.env).wrap K J gd lv) fs s
section
variable {D : GD}
theorem After.mono {ip : List (Addr × Obj)} {iv : Addr → Prop} {ig : Nat → Prop} {xs : List PyData} {c : Code} {t : Sem PySem.Fin} {fs : List Frame} {ws : WSt} {th th1 : Th} {H H1 : Hp} {s s1 : Shared} (a : After D ip iv ig xs c t fs ws th H s) (b : Pst D iv ig th H s th1 H1 s1) : After D ip iv ig xs c t fs ws th1 H1 s1 :=
  fun p th' σ' H' s' h1 h2 h3 h4 => a p th' σ' H' s' h1 h2 h3 (b.trans h4)
theorem InS.plain {p : Pc} {ip : List (Addr × Obj)} {iv : Addr → Prop} {ig : Nat → Prop} {th th' : Th} {σ σ' : L2.St} {H H' : Hp} {s s' : Shared} (I : InS D p ip iv ig th σ H s) (okp : p.Ok D) (st : Stay th [] H th' [] H') (rh : RelH D.K (D.mg, D.w) th' [] H') (J : Inv (gcx D p.A p.s (p.H D)) ip σ' H' s')
    (hg : ∀ (i : Nat) (y : GenState), s.gens[i]? = some y → GSus y = true → s'.gens[i]? = some y) (hz : s.gens.size ≤ s'.gens.size) : InS D p ip iv ig th' σ' H' s' ∧ Pst D iv ig th H s th' H' s' := by
  have kp : ∀ a o, H a = some o → H' a = some o := fun a o e => st.keep a o e fun ⟨l, o, q, _⟩ => nomatch q
  have ta : th'.a = [] := List.length_eq_zero_iff.mp rh.len
  refine ⟨⟨J, rh, ta, fun a o e n => kp a o (I.keepH a o e n), fun a e => I.there a (st.there a e), fun a z => (st.newH a z).elim (I.hdN a) fun q => ?_, fun a z n m => st.hds a (I.hds a z n m), fun i y n e z => hg i y (I.gens i y n e z) z, Nat.le_trans I.gsz hz, fun i z => ⟨(I.ig i z).1, let ⟨y, a, b⟩ := (I.ig i z).2; ⟨y, hg i y a b, b⟩⟩, ?_, fun a z => ?_⟩,
    st.le, fun a z => ?_, fun i y _ e z => hg i y e z, ?_, hz⟩
  · exact (I.there a q).elim (fun z => .inl (.inl (okp.hd a (.inr z)))) .inr
  · exact ⟨fun q hq => ⟨(J.pin q (List.mem_append_right _ hq)).1, (I.ips.at_ q hq).2⟩⟩
  · obtain ⟨h1, ⟨o, h2⟩, h3⟩ := I.iv a z
    exact ⟨st.hds a h1, ⟨o, kp _ _ h2⟩, h3⟩
  · obtain ⟨h1, ⟨o, h2⟩, h3⟩ := I.iv a z
    exact ⟨(kp _ _ h2).trans h2.symm, st.hds a h1⟩
  · exact J.os.trans I.inv.os.symm
end
end L3

namespace L3
open PySem PySem.Spec PyProof.Rows L2 GenW

theorem InS.stuck {D : GD} {p : Pc} {ip : List (Addr × Obj)} {iv : Addr → Prop} {ig : Nat → Prop} {th : Th} {σ : L2.St} {H : Hp} {s : Shared} (I : InS D p ip iv ig th σ H s) : Inv (gcx D p.A p.s (p.H D)) ip σ H (stuckS s) := inv_gens I.inv (bare_stuck I.inv.bare)
theorem Pc.Ok.rm {D : GD} {p : Pc} (ok : p.Ok D) : Rm D.k (p.A.deeper D.env) := ⟨ok.room.room.deeper _, ok.room.gs⟩
section
variable {D : GD} {st : Stmt}
end
end L3

namespace L3
open PySem PySem.Spec PyProof.Rows L2 GenW

structure IterL (K : PySem.W.Frag) (mg : MG) (J : It) (xs : List W) (th0 : Th) (H0 : Hp) : Prop where
  go : ∀ th H, Le (hid th0 [] H0) (hid th [] H) → th.a = [] → ∀ (i : Nat) (w : W), xs[i]? = some w → J.go i H ∧ ∀ x H', J.yld i H x H' → Le H H' ∧ RelW K mg th [] H' w x
  stop : ∀ th H, Le (hid th0 [] H0) (hid th [] H) → th.a = [] → ∀ i : Nat, xs.length ≤ i → J.stop i H
theorem IterL.le {K : PySem.W.Frag} {mg : MG} {J : It} {xs : List W} {th0 th1 : Th} {H0 H1 : Hp} (z : IterL K mg J xs th0 H0) (le : Le (hid th0 [] H0) (hid th1 [] H1)) : IterL K mg J xs th1 H1 :=
  ⟨fun th H l => z.go th H (le.trans l), fun th H l => z.stop th H (le.trans l)⟩
abbrev GDenI := WSt → Option (List W)
section
variable {D : GD} {p : Pc} {ip ip' : List (Addr × Obj)} {iv : Addr → Prop} {ig : Nat → Prop} {th : Th} {σ : L2.St} {H : Hp} {s : Shared}
theorem InS.repin (I : InS D p ip iv ig th σ H s) (J : Inv (gcx D p.A p.s (p.H D)) ip' σ H s) (k : IpOk D ip' s.heap) : InS D p ip' iv ig th σ H s :=
  ⟨J, I.rh, I.ta, I.keepH, I.there, I.hdN, I.hds, I.gens, I.gsz, I.ig, k, I.iv⟩
structure LpOk (D : GD) (p : Pc) (ip : List (Addr × Obj)) (fp : List Addr) (H : Hp) : Prop where
  n : ∀ b ∈ fp, H b = none
  ne : ∀ b ∈ fp, b ≠ D.n0 ∧ D.n0 ≤ b ∧ (∀ x c, D.env.cells.lookup x = some c → c ≠ b) ∧ ∀ q ∈ ip, q.1 ≠ b
theorem InS.fpOk (I : InS D p ip iv ig th σ H s) (od : D.Ok) {fp : List Addr} (l : LpOk D p ip fp H) : ∀ b ∈ fp, FpOk (gcx D p.A p.s (p.H D)) ip H b := fun b hb => by
  obtain ⟨h1, h2, h3, h4⟩ := l.ne b hb
  exact ⟨l.n b hb, h1, fun z => absurd (od.fr b z) (Nat.not_lt.mpr h2), .inr (Nat.le_trans I.low h2), h3, h4⟩
theorem InS.pinned (I : InS D p ip iv ig th σ H s) (od : D.Ok) {fp : List Addr} (l : LpOk D p ip fp H) (ho : ∀ b ∈ fp, ∃ o, s.heap.get? b = some o ∧ ∀ v, o.data ≠ .cell v) : InS D p (ip ++ pinsAt fp s.heap) iv ig th σ H s :=
  I.repin (I.inv.pinned (I.fpOk od l) ho) ⟨fun q hq => (List.mem_append.mp hq).elim (I.ips.at_ q) fun z => by
    obtain ⟨hb, e⟩ := of_pinsAt z
    obtain ⟨o, e', d⟩ := ho _ hb
    rw [e] at e'; cases e'
    obtain ⟨h1, h2, _⟩ := l.ne _ hb
    exact ⟨e, h1, h2, d⟩⟩
end
section
variable {D : GD} {tg iter : Expr} {body : List Stmt} {g : DenG} {db : GDen}
end
end L3

namespace L3
open PySem PySem.Spec PyProof.Rows L2 GenW

section
variable {D : GD} {tg iter : Expr} {body : List Stmt} {g : DenG} {db : GDen} {di : GDenI} {pos : Pos}
end

section
variable {K : PySem.W.Frag} {mg : MG} {th : Th} {H : Hp}
end
end L3

namespace L3
open PySem PySem.Spec PyProof.Rows L2 GenW

section
variable {P : Program} {w : World} {A : Around} {E : Value → Shared → Prop} {s : Shared}
theorem next_wk {a : Addr} {g : Nat} {gs : GenState} {Φ : Phi} {Q : Option Value → Shared → Prop} (hh : A.handled = none) (hl : s.heap.NoLimit) (hroom : A.depth < recursionLimit) (hg : s.heap.IsGen a g) (hgs : s.gens[g]? = some gs)
    (hw : Wk (model P w) A.in1 Φ gs (s.setGen g .running))
    (hY : ∀ u gx l k c p fs s₁, Φ (.susp u gx l k c p fs) s₁ → (End.susp u gx l k c p fs).quiet = true ∧ Q (some u) (s₁.setGen g (End.susp u gx l k c p fs).genState))
    (hR : ∀ r s₁, Φ (.ret r) s₁ → r = .ok (.ret .none) ∧ ∀ h', (∀ b o, s₁.heap.get? b = some o → h'.get? b = some o) → Q none { s₁.setGen g .finished with heap := h' }) :
    wpAny (model P w) A (pyNext (.ref a)) Q E s := by
  unfold pyNext
  refine wpAny_bind (wpAny_attempt (wpAny_callSpecial?_slot (name := Str.ofString "__next__") hg.typeIs slot_gen_next
    (wpAny_call_entry slot_gen_next hg.typeIs entry_gen_next ?_ (args_gen_next _))))
  show wpAny _ A.in1 (Builtin.Generator.genWake (.ref a) (.send .none)) _ _ s
  unfold Builtin.Generator.genWake
  refine wpAny_bind (wpAny_holding (wpAny_genNumber hg (wpAny_bind (wpAny_genState hgs ?_))))
  cases gs with
  | running => exact hw.elim
  | finished => exact hw.elim
  | _ =>
    refine wpAny_bind (wpAny_roomToWake hl hroom ?_)
    show wpAny _ A.in1 (.resume g (.send .none) [] _) _ _ s
    refine wpAny_wake hgs hw fun e s₁ he => ?_
    cases e with
    | ret r =>
      obtain ⟨rfl, hp⟩ := hR r s₁ he
      refine ⟨rfl, ?_⟩
      show wpAny _ A.in1 (newExc (.type "StopIteration") [] >>= _) _ _ _
      refine wpAny_bind ?_
      simp only [newExc, newTuple]
      refine wpAny_bind (wpAny_newObj_type ?_ (by size_fits))
      refine wpAny_bind (m := firstArgMember _ _) (wpAny_of_eq (a := Value.none) (by first | rfl | (simp only [firstArgMember]; rfl)) ?_)
      refine wpAny_newObj_type ?_ (by size_fits)
      simp only [raiseNew]
      refine wpAny_bind (wpAny_bind (wpAny_handled ?_))
      first | rw [show A.in1.handled = none from hh] | rw [hh]
      refine wpAny_throw ?_
      refine wpAny_bind (wpAny_isInstance (T := "StopIteration") (b := true) ⟨_, Heap.get?_push_size _ rfl, rfl⟩ isSubtype_stop ?_)
      exact wpAny_pure (hp _ fun b o hb => Heap.get?_push_of_some _ (Heap.get?_push_of_some _ hb))
    | susp u gx l k c p fs =>
      obtain ⟨q, h⟩ := hY u gx l k c p fs s₁ he
      exact ⟨q, wpAny_pure ⟨u, rfl, wpAny_pure h⟩⟩
end
end L3

namespace L3
open PySem PySem.Spec PyProof.Rows L2 GenW

def Ext (n : Nat) (H : Hp) (h : Heap) (a : Addr) : Prop := H a = none ∧ n ≤ a ∧ ∃ o, h.get? a = some o
open Classical in
noncomputable def Hpin (n : Nat) (H : Hp) (h : Heap) : Hp := fun a => if Ext n H h a then (h.get? a).map (frzO a) else H a
def Th.ext (th : Th) (E : Addr → Prop) : Th := { th with hd := fun a => th.hd a ∨ E a }
def Th.less (th : Th) (E : Addr → Prop) : Th := { th with hd := fun a => th.hd a ∧ ¬ E a }
open Classical in
noncomputable def Hless (E : Addr → Prop) (H : Hp) : Hp := fun a => if E a then none else H a
section
variable {n : Nat} {H : Hp} {h : Heap} {a : Addr} {o : HO} {ob : Obj} {E : Addr → Prop}
theorem hpin_ext (e : Ext n H h a) (q : h.get? a = some ob) : Hpin n H h a = some (frzO a ob) := by unfold Hpin; rw [if_pos e, q]; rfl
theorem hpin_not (e : ¬ Ext n H h a) : Hpin n H h a = H a := if_neg e
theorem hpin_some (e : H a = some o) : Hpin n H h a = some o := by
  rw [hpin_not fun z => ?_]; exact e
  rw [z.1] at e; cases e
theorem hpin_none (e : Hpin n H h a = none) : ¬ Ext n H h a ∧ H a = none := by
  by_cases z : Ext n H h a
  · obtain ⟨ob, q⟩ := z.2.2
    rw [hpin_ext z q] at e; cases e
  · exact ⟨z, (hpin_not z).symm.trans e⟩
theorem hless_not (e : ¬ E a) : Hless E H a = H a := if_neg e
theorem hless_at (e : E a) : Hless E H a = none := if_pos e
theorem hless_some (e : Hless E H a = some o) : ¬ E a ∧ H a = some o := by
  by_cases z : E a
  · rw [hless_at z] at e; cases e
  · exact ⟨z, (hless_not z).symm.trans e⟩
end
theorem rel_of {K : PySem.W.Frag} {mg : MG} {th th' : Th} {wh : WH} {H H' : Hp} (rh : RelH K mg th wh H) (le : Le (hid th wh H) (hid th' wh H')) (ea : th'.a = th.a)
    (live : ∀ (l : Nat) (o : Ob) (a : Addr), wh[l]? = some o → o.live = true → th.a[l]? = some a → H' a = H a ∧ ¬ th'.hd a) (tr : ∀ a, th'.hd a → H' a ≠ none) : RelH K mg th' wh H' := by
  refine ⟨by rw [ea]; exact rh.len, fun l l' o o' a e1 e2 e3 e4 e5 e6 => rh.inj l l' o o' a e1 e2 e3 e4 (by rw [← ea]; exact e5) (by rw [← ea]; exact e6), fun l o a e1 e2 => ?_, tr, fun l o a e1 e2 e3 => (live l o a e1 e2 (by rw [← ea]; exact e3)).2⟩
  rw [ea] at e2
  exact objr_le le ea rfl (fun z => (live l o a e1 z e2).1) (rh.obj l o a e1 e2)
theorem pl_eq {th th' : Th} {wh : WH} {a : Addr} (ea : th'.a = th.a) : Pl th' wh a ↔ Pl th wh a := by unfold Pl; rw [ea]
section
variable {K : PySem.W.Frag} {mg : MG} {th : Th} {wh : WH} {n : Nat} {H : Hp} {h : Heap}
theorem pin_le : Le (hid th wh H) (hid (th.ext (Ext n H h)) wh (Hpin n H h)) := fun a o e => by
  obtain ⟨nl, e⟩ := hid_some.mp e
  refine hid_some.mpr ⟨?_, hpin_some e⟩
  rintro ((z | z) | z)
  · exact nl (.inl z)
  · rw [z.1] at e; cases e
  · exact nl (.inr z)
theorem pin_rel (rh : RelH K mg th wh H) : RelH K mg (th.ext (Ext n H h)) wh (Hpin n H h) := by
  refine rel_of rh pin_le rfl (fun l o a e1 e2 e3 => ?_) fun a z => ?_
  · have t := rh.trk (.inr ⟨l, o, e1, e2, e3⟩)
    refine ⟨hpin_not fun z => t z.1, ?_⟩
    rintro (z | z)
    · exact rh.off l o a e1 e2 e3 z
    · exact t z.1
  · rcases z with z | z
    · intro q; exact rh.tr a z (hpin_none q).2
    · obtain ⟨o, q⟩ := z.2.2
      rw [hpin_ext z q]; simp
theorem pin_hok {P : Program} {w : World} (x : HOk P w H h) : HOk P w (Hpin n H h) h := fun a o e => by
  by_cases z : Ext n H h a
  · obtain ⟨ob, q⟩ := z.2.2
    rw [hpin_ext z q] at e; cases e
    exact frzO_ok q
  · rw [hpin_not z] at e
    exact (x a o e).stay (fun _ _ _ q => q) (fun b q => hpin_some q) fun b xs q => hpin_some q
end
structure Giv (D : GD) (it : Addr) (xs : List PyData) (priv : Addr → Prop) (G : Nat → Prop) (th : Th) (wh : WH) (H : Hp) (s : Shared) : Prop where
  gen : ∃ o, H it = some (frzO it o) ∧ ∀ h : Heap, h.get? it = some o → h.IsGen it D.g
  hd : th.hd it
  np : ¬ priv it
  pv : ∀ a, priv a → th.hd a ∧ ∃ o, H a = some (frzO a o)
  st : ∃ gs, s.gens[D.g]? = some gs ∧ Slp D xs priv G gs ⟨th, wh, H⟩ s
  ng : ¬ G D.g
  ig : ∀ i, G i → ∃ y, s.gens[i]? = some y ∧ GSus y = true
structure Mv (priv : Addr → Prop) (th : Th) (H : Hp) (th' : Th) (H' : Hp) : Prop where
  a : th'.a = th.a
  keep : ∀ a o, H a = some o → ¬ priv a → H' a = some o
  there : ∀ a, H' a = none → H a = none ∨ priv a
  hdN : ∀ a, th'.hd a → th.hd a ∨ H a = none
  hds : ∀ a, th.hd a → ¬ priv a → th'.hd a
theorem Slp.move {D : GD} {xs : List PyData} {priv : Addr → Prop} {G : Nat → Prop} {gs : GenState} {gh gh' : Gh} {s s' : Shared} (z : Slp D xs priv G gs gh s) (le : Le gh.hid gh'.hid) (pv : ∀ a, priv a → gh'.H a = gh.H a ∧ gh'.th.hd a)
    (gens : ∀ (i : Nat) (y : GenState), G i → s.gens[i]? = some y → GSus y = true → s'.gens[i]? = some y) (gsz : s.gens.size ≤ s'.gens.size) (os : s'.os = s.os) : Slp D xs priv G gs gh' s' :=
  slp_iff.mpr fun A gh2 s2 W => slp_iff.mp z A gh2 s2 ⟨W.room, W.env, W.rh, le.trans W.le, fun a q => ⟨(W.pv a q).1.trans (pv a q).1, (W.pv a q).2⟩, fun i y h e q => W.gens i y h (gens i y h e q) q, Nat.le_trans gsz W.gsz, W.os.trans os⟩
structure Fits (D : GD) (X : Cx) : Prop where
  P : D.P = X.prog
  w : D.w = X.w
  K : D.K = X.K
  mg : D.mg = X.mg
  base : D.base = X.base
  outer : D.outer = X.stack
  ok : D.Ok
  low : X.s_0.heap.objs.size ≤ D.n0
section
variable {D : GD} {X : Cx} {pins : List (Addr × Obj)} {σ : L2.St} {H : Hp} {s : Shared} {th : Th} {wh : WH} {priv : Addr → Prop} {Gi : Nat → Prop}
theorem Giv.woke {it : Addr} {xs : List PyData} {A : Around} (F : Fits D X) (I : Inv X pins σ H s) (rh : RelH X.K (X.mg, X.w) th wh H) (G : Giv D it xs priv Gi th wh H s) (hA : A.frames = some X.stack) (hr : Rm (D.k + 1) A) :
    ∃ gs, s.gens[D.g]? = some gs ∧ Wk D.M A (PhiOf D xs priv Gi ⟨th.ext (Ext D.n0 H s.heap), wh, Hpin D.n0 H s.heap⟩ (s.setGen D.g .running)) gs (s.setGen D.g .running) := by
  obtain ⟨gs, e, z⟩ := G.st
  refine ⟨gs, e, slp_iff.mp z A ⟨th.ext (Ext D.n0 H s.heap), wh, Hpin D.n0 H s.heap⟩ s ⟨hr, ?_, ?_, pin_le, fun a q => ?_, fun _ _ _ e _ => e, Nat.le_refl _, rfl⟩⟩
  · have e0 := I.env0
    rw [F.P, F.w, F.K, F.mg, F.base, F.outer]
    refine ⟨hA, e0.mod, fun b o q => ⟨(e0.bs b o q).1, ?_⟩, e0.bsz, e0.funs, fun b q => ?_, pin_hok e0.hok, e0.bare⟩
    · show Hpin D.n0 H s.heap b = none
      rw [hpin_not fun z => absurd (Nat.lt_of_lt_of_le (Heap.lt_size q) (F.base ▸ F.ok.bn)) (Nat.not_lt.mpr z.2.1)]
      exact (e0.bs b o q).2
    · show Hpin D.n0 H s.heap b = none
      rw [hpin_not fun z => absurd (F.ok.fr b (F.outer ▸ q)) (Nat.not_lt.mpr z.2.1)]
      exact e0.frf b q
  · rw [F.K, F.mg, F.w]; exact pin_rel rh
  · obtain ⟨h1, o, h2⟩ := G.pv a q
    exact ⟨(hpin_some h2).trans h2.symm, .inl h1⟩
theorem gave {priv3 : Addr → Prop} {G3 : Nat → Prop} {gh3 : Gh} {s3 : Shared} {x : GenState} {h' : Heap} {tk : Nat} (F : Fits D X) (I : Inv X pins σ H s) (rh : RelH X.K (X.mg, X.w) th wh H) (pv : ∀ a, priv a → th.hd a ∧ ∃ o, H a = some (frzO a o)) (hx : x.bare = true) (ng : ¬ Gi D.g) (gl : D.g < s.gens.size)
    (L : Link D priv priv3 Gi G3 ⟨th.ext (Ext D.n0 H s.heap), wh, Hpin D.n0 H s.heap⟩ (s.setGen D.g .running) gh3 s3) (hh : ∀ b o, s3.heap.get? b = some o → h'.get? b = some o) :
    ∃ th' H', Inv X pins σ H' { s3.setGen D.g x with heap := h', toks := tk } ∧ RelH X.K (X.mg, X.w) th' wh H' ∧ Mv priv th H th' H' ∧ Le gh3.hid (hid th' wh H') ∧ (∀ a, priv3 a → H' a = gh3.H a ∧ th'.hd a ∧ (∃ o, H' a = some (frzO a o)) ∧ (priv a ∨ H a = none)) ∧
      (∀ (i : Nat) (y : GenState), i ≠ D.g → ¬ Gi i → s.gens[i]? = some y → GSus y = true → (s3.setGen D.g x).gens[i]? = some y) ∧ ∀ i, G3 i → i ≠ D.g ∧ (Gi i ∨ s.gens.size ≤ i) ∧ ∃ y, (s3.setGen D.g x).gens[i]? = some y ∧ GSus y = true := by
  have npE : ∀ a, priv a → ¬ Ext D.n0 H s.heap a := fun a q z => by
    obtain ⟨_, o, e⟩ := pv a q
    rw [z.1] at e; cases e
  have frz : ∀ a o, Ext D.n0 H s.heap a → s.heap.get? a = some o → gh3.H a = some (frzO a o) := fun a o z q => L.keepH a _ (hpin_ext z q) fun q => npE a q z
  have hk3 : HOk X.prog X.w gh3.H s3.heap := by rw [← F.P, ← F.w]; exact L.hok
  have rh3 : RelH X.K (X.mg, X.w) gh3.th wh gh3.H := by
    have := L.rh
    rw [F.K, F.mg, F.w, L.hh] at this
    exact this
  have keepH : ∀ a o, H a = some o → ¬ priv a → Hless (Ext D.n0 H s.heap) gh3.H a = some o := fun a o e np => by
    rw [hless_not fun z => ?_]
    · exact L.keepH a o (hpin_some e) np
    · rw [z.1] at e; cases e
  have le : Le gh3.hid (hid (gh3.th.less (Ext D.n0 H s.heap)) wh (Hless (Ext D.n0 H s.heap) gh3.H)) := fun a o e => by
    obtain ⟨nl, e⟩ := hid_some.mp e
    have nE : ¬ Ext D.n0 H s.heap a := fun z => nl (.inl (L.hds a (.inr z) fun q => npE a q z))
    refine hid_some.mpr ⟨?_, (hless_not nE).trans e⟩
    rintro (z | z)
    · exact nl (.inl z.1)
    · exact nl (.inr (by rw [show gh3.h = wh from L.hh]; exact z))
  have none2 : ∀ a, Hpin D.n0 H s.heap a = none → H a = none := fun a e => (hpin_none e).2
  have hold : ∀ b o, H b = some o → D.n0 ≤ b → b ∈ (List.range s.heap.objs.size).filter (fun b => decide (D.n0 ≤ b) && (H b).isSome) := fun b o e hb => by
    refine List.mem_filter.mpr ⟨List.mem_range.mpr (I.hok b o e).lt, ?_⟩
    rw [e]
    simpa using hb
  refine ⟨gh3.th.less (Ext D.n0 H s.heap), Hless (Ext D.n0 H s.heap) gh3.H, ?_, ?_, ⟨L.a, keepH, fun a e => ?_, fun a z => ?_, fun a z np => ⟨L.hds a (.inl z) np, fun q => rh.tr a z q.1⟩⟩, le, fun a z => ?_, fun i y ne n e q => (setGen_ne ne).trans (L.gens i y n ((setGen_ne ne).trans e) q), fun i z => ?_⟩
  · have hokL : HOk X.prog X.w (Hless (Ext D.n0 H s.heap) gh3.H) s3.heap := by
      refine hok_less hk3 (fun a o e => (hless_some e).2) (fun a b _ q => ?_) fun b xs q => ?_
      · rw [hless_not fun z => ?_]; exact q
        obtain ⟨o, e⟩ := z.2.2
        rw [frz b o z e] at q; cases q
      · rw [hless_not fun z => ?_]; exact q
        obtain ⟨o, e⟩ := z.2.2
        rw [frz b o z e] at q; cases q
    have low : ∀ {b : Addr}, b < D.n0 → H b = none → Hpin D.n0 H s.heap b = none := fun {b} hb e => (hpin_not fun z => absurd hb (Nat.not_lt.mpr z.2.1)).trans e
    have un : Un (frs X.stack) ((List.range s.heap.objs.size).filter (fun b => decide (D.n0 ≤ b) && (H b).isSome)) H (Hless (Ext D.n0 H s.heap) gh3.H) s.heap s3.heap := by
      refine ⟨fun b o e nb hf _ => ?_, fun b o e nb hf _ => ?_, fun b o e nb _ => ?_, fun b o e hn => ?_, fun b xs q => keepH b _ q fun z => ?_, fun b o u q => keepH b _ q fun z => ?_, fun b ps q => ⟨#[], ?_⟩⟩
      · by_cases hb : b < D.n0
        · exact L.keep b o hb e (low hb nb) (by rw [F.outer]; exact hf)
        · exact frzO_get (hk3 b _ (frz b o ⟨nb, Nat.le_of_not_lt hb, o, e⟩ e))
      · have hb : b < D.n0 := F.ok.fr b (by rw [F.outer]; exact hf)
        exact L.slot b o hb e (low hb nb) (by rw [F.outer]; exact hf)
      · by_cases z : Ext D.n0 H s.heap b
        · exact hless_at z
        · rw [hless_not z]
          by_cases hb : b < D.n0
          · exact L.free b o hb e (low hb nb)
          · exact absurd ⟨nb, Nat.le_of_not_lt hb, o, e⟩ z
      · by_cases hb : b < D.n0
        · exact L.thr b o hb e
        · cases q : H b with
          | none => exact ⟨o, frzO_get (hk3 b _ (frz b o ⟨q, Nat.le_of_not_lt hb, o, e⟩ e))⟩
          | some u => exact absurd (hold b u q (Nat.le_of_not_lt hb)) hn
      · obtain ⟨_, o, e⟩ := pv b z
        rw [q] at e; cases e
      · obtain ⟨_, o', e⟩ := pv b z
        rw [q] at e; cases e
      · rw [keepH b _ q fun z => ?_]
        · simp
        · obtain ⟨_, o', e⟩ := pv b z
          rw [q] at e; cases e
    have un2 : Un (frs X.stack) ((List.range s.heap.objs.size).filter (fun b => decide (D.n0 ≤ b) && (H b).isSome)) H (Hless (Ext D.n0 H s.heap) gh3.H) s.heap h' := un.trans (Un.kept hh)
    refine I.call' L.os un2 (hokL.kept hh) (bare_set L.bare hx) fun b hb => ?_
    obtain ⟨h1, h2⟩ := List.mem_filter.mp hb
    rw [Bool.and_eq_true] at h2
    obtain ⟨h2, h3⟩ := h2
    have h2 : D.n0 ≤ b := of_decide_eq_true h2
    refine ⟨.inr (Nat.le_trans F.low h2), fun z => ?_, fun y c e z => ?_, fun q hq z => ?_⟩
    · rw [z, I.free] at h3; cases h3
    · rw [← z, I.freeC y c e] at h3; cases h3
    · rw [← z, (I.pin q hq).2.1] at h3; cases h3
  · refine rel_of rh3 ?_ rfl (fun l o a e1 e2 e3 => ?_) fun a z => ?_
    · have := le
      rw [show gh3.hid = hid gh3.th wh gh3.H by show L3.hid gh3.th gh3.h gh3.H = _; rw [show gh3.h = wh from L.hh]] at this
      exact this
    · have nE : ¬ Ext D.n0 H s.heap a := fun z => by
        have e4 : th.a[l]? = some a := by rw [← show gh3.th.a = th.a from L.a]; exact e3
        exact rh.trk (.inr ⟨l, o, e1, e2, e4⟩) z.1
      exact ⟨hless_not nE, fun z => rh3.off l o a e1 e2 e3 z.1⟩
    · rw [hless_not z.2]; exact rh3.tr a z.1
  · by_cases z : Ext D.n0 H s.heap a
    · exact .inl z.1
    · rw [hless_not z] at e
      exact (L.there a e).elim .inr fun q => .inl (none2 a q)
  · rcases L.hdN a z.1 with (q | q) | q
    · exact .inl q
    · exact absurd q z.2
    · exact .inr (none2 a q)
  · obtain ⟨h1, ⟨o, h2⟩, h3⟩ := L.pv a z
    have nE : ¬ Ext D.n0 H s.heap a := h3.elim (npE a) fun q => (hpin_none q).1
    exact ⟨hless_not nE, ⟨h1, nE⟩, ⟨o, (hless_not nE).trans h2⟩, h3.imp id (none2 a)⟩
  · obtain ⟨z1, y, z2, z3⟩ := L.newG i z
    have z1 : Gi i ∨ s.gens.size ≤ i := z1.imp id fun z => by
      have : (s.setGen D.g .running).gens.size = s.gens.size := setGen_size ..
      rw [this] at z; exact z
    have ne : i ≠ D.g := fun q => z1.elim (fun z => ng (q ▸ z)) fun z => absurd gl (Nat.not_lt.mpr (q ▸ z))
    exact ⟨ne, z1, y, (setGen_ne ne).trans z2, z3⟩
theorem Giv.next {A : Around} {it : Addr} {xs : List PyData} {E : Value → Shared → Prop} (F : Fits D X) (hA : A.frames = some X.stack) (hr : Rm (D.k + 2) A) (I : Inv X pins σ H s) (rh : RelH X.K (X.mg, X.w) th wh H) (G : Giv D it xs priv Gi th wh H s) :
    wpAny (model X.prog X.w) A (pyNext (.ref it)) (fun r s1 => ∃ th1 H1, Inv X pins σ H1 s1 ∧ RelH X.K (X.mg, X.w) th1 wh H1 ∧ Mv priv th H th1 H1 ∧
      (∀ (i : Nat) (y : GenState), i ≠ D.g → ¬ Gi i → s.gens[i]? = some y → GSus y = true → s1.gens[i]? = some y) ∧ s.gens.size ≤ s1.gens.size ∧
      match xs with
      | [] => r = none
      | x :: xs' => ∃ u v priv1 G1, r = some u ∧ RelV v u ∧ RelW X.K (X.mg, X.w) th1 wh H1 (.d x) v ∧ Giv D it xs' priv1 G1 th1 wh H1 s1 ∧ (∀ a, priv1 a → priv a ∨ H a = none) ∧ (∀ i, G1 i → Gi i ∨ s.gens.size ≤ i) ∧ ∃ gs, s1.gens[D.g]? = some gs ∧ GSus gs = true) E s := by
  obtain ⟨o, e1, isg⟩ := G.gen
  have hit : s.heap.get? it = some o := frzO_get (I.hok it _ e1)
  obtain ⟨gs, eg, wk⟩ := G.woke (A := A.in1) F I rh hA ⟨hr.room.in1, hr.gs⟩
  have hlt : D.g < s.gens.size := (Array.getElem?_eq_some_iff.mp eg).1
  refine wpAny_gsz (Nat.le_refl s.gens.size) (next_wk (hr.room.hd) I.nolimit hr.room.depth (isg _ hit) eg (by rw [← F.P, ← F.w]; exact wk) (fun u gx l k c p fs s3 h => ?_) fun r s3 h => ?_)
  · unfold PhiOf at h
    cases xs with
    | nil => exact h.elim
    | cons x xs' =>
      obtain ⟨hq, gh3, priv3, G3, v, rv, rx, L, z⟩ := h
      refine ⟨hq, fun hsz => ?_⟩
      obtain ⟨th1, H1, I1, rh1, mv, le, hp, hg, hG⟩ := gave (x := (End.susp u gx l k c p fs).genState) (h' := s3.heap) (tk := s3.toks) F I rh G.pv (End.bare_of_quiet hq) G.ng hlt L fun _ _ e => e
      have hs3 : D.g < s3.gens.size := by
        have : s.gens.size ≤ (s3.gens.setIfInBounds D.g (End.susp u gx l k c p fs).genState).size := hsz
        rw [Array.size_setIfInBounds] at this
        exact Nat.lt_of_lt_of_le hlt this
      have eg1 : (s3.setGen D.g (End.susp u gx l k c p fs).genState).gens[D.g]? = some (End.susp u gx l k c p fs).genState := setGen_at hs3
      refine ⟨th1, H1, I1, rh1, mv, hg, hsz, u, v, priv3, G3, rfl, rv, ?_, ⟨⟨o, mv.keep _ _ e1 G.np, isg⟩, mv.hds _ G.hd G.np, fun q => ?_, fun a q => ⟨(hp a q).2.1, (hp a q).2.2.1⟩, ⟨_, eg1, ?_⟩, fun q => (hG _ q).1 rfl, fun i q => (hG i q).2.2⟩, fun a q => (hp a q).2.2.2, fun i q => (hG i q).2.1, _, eg1, rfl⟩
      · have rx : Fz D.K gh3.hid v x := rx
        rw [F.K] at rx
        exact le.fz rx
      · rcases (hp it q).2.2.2 with z | z
        · exact G.np z
        · rw [e1] at z; cases z
      · exact z.move le (fun a q => ⟨(hp a q).1, (hp a q).2.1⟩) (fun i y q e _ => (setGen_ne (hG i q).1).trans e) (by rw [setGen_size]; exact Nat.le_refl _) rfl
  · unfold PhiOf at h
    cases xs with
    | cons x xs' => exact h.elim
    | nil =>
      obtain ⟨rfl, gh3, priv3, G3, L⟩ := h
      refine ⟨rfl, fun h' hh hsz => ?_⟩
      obtain ⟨th1, H1, I1, rh1, mv, le, hp, hg, hG⟩ := gave (x := .finished) (h' := h') (tk := s3.toks) F I rh G.pv rfl G.ng hlt L hh
      exact ⟨th1, H1, I1, rh1, mv, hg, hsz, rfl⟩
end
end L3

namespace L3
open PySem PySem.Spec PyProof.Rows L2 GenW

structure Made (X : Cx) (k : Nat) (pins : List (Addr × Obj)) (σ : L2.St) (xs : List PyData) (th : Th) (wh : WH) (H : Hp) (v : Value) (s : Shared) (D : GD) (it : Addr) (priv : Addr → Prop) (th' : Th) (H' : Hp) : Prop where
  v : v = .ref it
  fits : Fits D X
  dk : D.k + 5 ≤ k
  room : Rm (D.k + 5) X.A
  inv : Inv X pins σ H' s
  stay : Stay th wh H th' wh H'
  rh : RelH X.K (X.mg, X.w) th' wh H'
  giv : Giv D it xs priv (fun _ => False) th' wh H' s
  fresh : ∃ c, s.gens[D.g]? = some (.fresh c) ∧ ∀ s2 : Shared, s.gens.size ≤ s2.gens.size → Slp D xs priv (fun _ => False) (.fresh c) ⟨th', wh, H'⟩ s2
  new : ∀ a, priv a → H a = none
  newI : H it = none
  loc : X.env.locals < D.n0
  cel : ∀ x c, X.env.cells.lookup x = some c → c < D.n0
  pin : ∀ p ∈ X.pn ++ pins, p.1 < D.n0
  sz : D.n0 ≤ s.heap.objs.size
abbrev DenV := WSt → M (List PyData)
section
variable {D : GD} {it : Addr} {xs : List PyData} {priv : Addr → Prop} {Gi : Nat → Prop} {K : PySem.W.Frag} {mg : MG} {th th' th1 : Th} {h h' h1 : WH} {H H' H1 : Hp} {s s' : Shared}
theorem Giv.stay (G : Giv D it xs priv Gi th h H s) (rh : RelH K mg th h H) (st : Stay th h H th' h' H') (hg : ∃ gs, s.gens[D.g]? = some gs ∧ GSus gs = true)
    (kg : ∀ (i : Nat) (y : GenState), s.gens[i]? = some y → GSus y = true → s'.gens[i]? = some y) (gz : s.gens.size ≤ s'.gens.size) (os : s'.os = s.os) : Giv D it xs priv Gi th' h' H' s' := by
  have kp : ∀ a o, th.hd a → H a = some o → H' a = some o := fun a o z e => st.keep a o e fun ⟨l, o', x, y, t⟩ => rh.off l o' a x y t z
  obtain ⟨o, e1, isg⟩ := G.gen
  obtain ⟨gs, eg, sus⟩ := hg
  obtain ⟨gs', eg', z⟩ := G.st
  rw [eg] at eg'; cases eg'
  refine ⟨⟨o, kp _ _ G.hd e1, isg⟩, st.hds _ G.hd, G.np, fun a q => ?_, ⟨gs, kg _ _ eg sus, z.move st.le (fun a q => ?_) (fun i y _ e q => kg i y e q) gz os⟩, G.ng, fun i q => let ⟨y, a, b⟩ := G.ig i q; ⟨y, kg i y a b, b⟩⟩
  · obtain ⟨z1, o, z2⟩ := G.pv a q
    exact ⟨st.hds a z1, o, kp _ _ z1 z2⟩
  · obtain ⟨z1, o, z2⟩ := G.pv a q
    exact ⟨(kp _ _ z1 z2).trans z2.symm, st.hds a z1⟩
theorem Mv.stay (mv : Mv priv th H th' H') (st : Stay th1 h1 H1 th h H) (r1 : RelH K mg th1 h1 H1) (fr : ∀ a, priv a → H1 a = none) : Stay th1 h1 H1 th' h H' where
  len := st.len
  pre := fun l a e => by rw [mv.a]; exact st.pre l a e
  keep := fun a o e n => mv.keep a o (st.keep a o e n) fun q => by rw [fr a q] at e; cases e
  there := fun a e => (mv.there a e).elim (st.there a) (fr a)
  newP := fun a z => st.newP a ((pl_eq mv.a).mp z)
  newH := fun a z => (mv.hdN a z).elim (st.newH a) fun q => .inr (st.there a q)
  hds := fun a z => mv.hds a (st.hds a z) fun q => r1.tr a z (fr a q)
theorem Mv.grow (mv : Mv priv th H th' H') (rh : RelH K mg th h H) (hp : ∀ a, priv a → th.hd a) : Le (hid th h H) (hid th' h H') := fun a o e => by
  obtain ⟨n, e⟩ := hid_some.mp e
  refine hid_some.mpr ⟨?_, mv.keep a o e fun q => n (.inl (hp a q))⟩
  rintro (z | z)
  · rcases mv.hdN a z with z | z
    · exact n (.inl z)
    · rw [z] at e; cases e
  · exact n (.inr ((pl_eq mv.a).mp z))
end
section
variable {X : Cx} {k : Nat} {pos : Pos} {tg iter : Expr} {body : List Stmt} {d : DenV} {g : DenG} {db : S}
end
end L3

namespace L3
open PySem PySem.Spec PyProof.Rows L2 GenW

def W.plain : W → Bool
  | .loc _ => false
  | _ => true
section
variable {K : PySem.W.Frag} {mg : MG} {th th' : Th} {h h' : WH} {H H' : Hp}
end
structure Born (P : Program) (w : World) (K : PySem.W.Frag) (mg : Str → Option Value) (base : Heap) (k : Nat) (outer : List Env) (s : Shared) (xs : List PyData) (th : Th) (wh : WH) (H : Hp) (D : GD) (it : Addr) (th' : Th) (H' : Hp) (s' : Shared) : Prop where
  dP : D.P = P
  dw : D.w = w
  dK : D.K = K
  dmg : D.mg = mg
  dbase : D.base = base
  douter : D.outer = outer
  ok : D.Ok
  dk : D.k + 5 ≤ k
  n0 : D.n0 = s.heap.objs.size
  os : s'.os = s.os
  bare : AllBare s'.gens
  un : Un (frs outer) [] H H' s.heap s'.heap
  hok : HOk P w H' s'.heap
  stay : Stay th wh H th' wh H'
  rh : RelH K (mg, w) th' wh H'
  giv : Giv D it xs (own D []) (fun _ => False) th' wh H' s'
  fresh : ∃ c, s'.gens[D.g]? = some (.fresh c) ∧ ∀ s2 : Shared, s'.gens.size ≤ s2.gens.size → Slp D xs (own D []) (fun _ => False) (.fresh c) ⟨th', wh, H'⟩ s2
  new : ∀ a, own D [] a → H a = none
  newI : H it = none
  newg : s.gens.size ≤ D.g
structure FnV (P : Program) (w : World) (K : PySem.W.Frag) (mg : Str → Option Value) (base : Heap) (k : Nat) (f : Addr) (fd : FuncData) (ps : List Str) (m : List W → Option (List PyData)) : Prop where
  run : ∀ (A : Around) (outer : List Env) (s : Shared) (H : Hp) (args : Args) (us : List Value) (vs : List V) (th : Th) (wh : WH) (ws : List W) (xs : List PyData), Rm k A → Env0 P w K mg base A outer s H → BindsTo s fd args (ps.zip us) → Vals vs us → vs.length = ps.length →
    RelWs K (mg, w) th wh H ws vs → RelH K (mg, w) th wh H → m ws = some xs → codeAny (model P w) A (.call (.ref f) args) (fun r s' => ∃ D it th' H', r = .ok (.ret (.ref it)) ∧ Born P w K mg base k outer s xs th wh H D it th' H' s') s
theorem FnV.mono {P : Program} {w : World} {K : PySem.W.Frag} {mg : Str → Option Value} {base : Heap} {j k : Nat} {f : Addr} {fd : FuncData} {ps : List Str} {m : List W → Option (List PyData)} (F : FnV P w K mg base j f fd ps m) (h : j ≤ k) : FnV P w K mg base k f fd ps m :=
  ⟨fun A outer s H args us vs th wh ws xs hr e b r l rw_ rh e2 => codeAny_mono (F.run A outer s H args us vs th wh ws xs (hr.mono h) e b r l rw_ rh e2) fun _ _ ⟨D, it, th', H', q, B⟩ => ⟨D, it, th', H', q, { B with dk := Nat.le_trans B.dk h }⟩⟩
section
variable {P : Program} {w : World} {K : PySem.W.Frag} {mg : Str → Option Value} {base : Heap} {k : Nat} {f : Addr} {fd : FuncData} {name qual : Str} {params : Arguments} {body : List Stmt} {scope : Scope} {N ps : List Str} {d : GDen}
end
end L3

namespace L3
open PySem PySem.Spec PyProof.Rows L2 GenW

section
variable {X : Cx} {k n : Nat} {f : Addr} {fd : FuncData} {ps ks : List Str} {m : List W → Option (List PyData)} {gW : List W → List W → List W} {x : Str} {p pos : Pos} {e : Expr} {es : List Expr} {kws : List Keyword} {da dk : DenA}
end
end L3

namespace L3
open PySem PySem.Spec PyProof.Rows L2 GenW

section
variable {X : Cx} {pins : List (Addr × Obj)} {σ : L2.St} {H : Hp} {s : Shared}
end
section
variable {X : Cx} {D : GD} {pins : List (Addr × Obj)} {σ : L2.St}
end
end L3

namespace L3
open PySem PySem.Spec PyProof.Rows L2 GenW

section
variable {X : Cx} {k : Nat} {e : Expr} {d : DenV} {p pos : Pos}
end
end L3

namespace L3
open PySem PySem.Spec PyProof.Rows L2 GenW

section
variable {X : Cx} {pins : List (Addr × Obj)} {σ : L2.St} {H H3 : Hp} {s s3 : Shared} {scope : Scope} {ce : Env} {n : Nat}
end
section
variable {X : Cx} {k : Nat} {scope : Scope} {own : List (Str × Nat)} {tg elt iter : Expr} {ifs : List Expr} {t : Tg} {tt : DenT} {de : Den} {d : DenV} {pos pos' : Pos}
end
end L3

namespace L3
open PySem PySem.Spec PyProof.Rows L2 GenW

structure Inn (D : GD) (p : Pc) (iv : Addr → Prop) (ig : Nat → Prop) (D2 : GD) (it : Addr) (pv : Addr → Prop) (Gi : Nat → Prop) : Prop where
  a : ∀ a, (pv a ∨ a = it) → (p.iv a ∨ p.H D a = none) ∧ ¬ iv a
  g : ∀ i, (Gi i ∨ i = D2.g) → (p.ig i ∨ p.s.gens.size ≤ i) ∧ ¬ ig i
section
variable {D D2 : GD} {p : Pc} {ip : List (Addr × Obj)} {iv pv : Addr → Prop} {ig Gi : Nat → Prop} {it : Addr} {th th1 : Th} {σ : L2.St} {H H1 : Hp} {s s1 : Shared}
end
section
variable {D D2 : GD} {tg iter : Expr} {body : List Stmt} {g : DenG} {db : GDen}
end
end L3

namespace L3
open PySem PySem.Spec PyProof.Rows L2 GenW

section
variable {X : Cx} {tg a b : Expr} {p pos : Pos} {da db : Den}
end
end L3

namespace L3
open PySem PySem.Spec PyProof.Rows L2
end L3

namespace L3
open PySem PySem.Spec PyProof.Rows L2
def Vp (r : Option (List PyData × Fl × WSt)) (Q : List PyData → Fl → WSt → Prop) : Prop := match r with
  | none => False
  | some (ys, f, ws) => Q ys f ws
section
variable {ws : WSt} {Q Q' : List PyData → Fl → WSt → Prop}
theorem Vp.imp {r : Option (List PyData × Fl × WSt)} (o : Vp r Q) (i : ∀ ys f ws, Q ys f ws → Q' ys f ws) : Vp r Q' := by
  unfold Vp at *; split at o
  · exact o
  · exact i _ _ _ o
end
end L3

set_option maxHeartbeats 2000000
namespace L3
open PySem PySem.Spec PyProof.Rows L2
set_option hygiene false in
local macro_rules
  | `(tactic| simp_arith [$ls,*] $[$loc:location]?) => `(tactic| simp (maxSteps := 1000000) (disch := first | omega | assumption | decide | (simp only [List.length_take, List.length_drop, List.length_map, List.length_append, List.length_reverse, List.length_cons, List.length_nil, Int.reduceToNat]; omega)) only [wp_ok, wp_var, wp_c, wp_op, wp_un, wp_and, wp_or, wp_not, wp_if, wp_nil, wp_cons, wp_star, wp_lst, wp_tup, wp_new, wp_b, wp_call, wp_tB, wp_tOf, wp_tNot, wp_tAnd, wp_tOr, 
      wp_tTrue, wp_sm, wp_slice, wp_pN, wp_pS, wp_chain, wp_lm, wp_gN, wp_names, star_t, star_d, List.map_cons, List.map_nil, wp_listN, wp_addN, wp_range1, wp_range2, wp_val, 
      List.getElem?_cons_zero, List.getElem?_cons_succ, Option.join_some, ex_eq, exL, exI, exI2, exO, exO2, List.set_cons_zero, List.set_cons_succ, setAll, gm_add, gm_sub, 
      gm_lt, gm_le, gm_gt, gm_ge, gm_len, gm_lenT, gm_intb, gm_mul, gm_mod, gm_div, gm_pow, asB_b, tru_b, dats_nil, dats_cons, Option.map_some, szl, List.length_cons, 
      List.length_nil, Nat.reduceAdd, and_self, true_and, and_true, if_true, if_false, Bool.false_eq_true, Bool.not_true, Bool.not_false, pk0, pk1, pick_eq, List.filterMap_cons, 
      List.filterMap_nil, List.cons_append, List.nil_append, gs_eqs, gs_nes, ix_l0, ix_lS, Int.reduceToNat, app_get, app_get1, app_get2, app_set, app_set1, app_set2, app_app, 
      app_len, app_len2, gsl_l, gsl_t, cutL_takeI, cutL_dropI, rev_l, gm_addv, gm_addvT, List.length_take, obI_l, rtq, nxq, ctq, gm_lenP, ix_loc, bind_some, lset0, mAppend_eq, $ls,*] $[$loc]?)
local macro_rules
  | `(tactic| simp_arith $[$loc:location]?) => `(tactic| simp_arith [and_self] $[$loc:location]?)
set_option hygiene false in
local macro_rules
  | `(tactic| simp_arith! [$ls,*] $[$loc:location]?) => `(tactic| simp (maxSteps := 1000000) (disch := first | omega | assumption | decide | (simp only [List.length_take, List.length_drop, List.length_map, List.length_append, List.length_reverse, List.length_cons, List.length_nil, Int.reduceToNat]; omega)) only [wp_ok, wp_var, wp_c, wp_op, wp_un, wp_and, wp_or, wp_not, wp_if, wp_nil, wp_cons, wp_star, wp_lst, wp_tup, wp_new, wp_b, wp_call, wp_tB, wp_tOf, wp_tNot, wp_tAnd, wp_tOr, 
      wp_tTrue, wp_sm, wp_slice, wp_pN, wp_pS, wp_chain, wp_lm, wp_gN, wp_names, star_t, star_d, List.map_cons, List.map_nil, wp_listN, wp_addN, wp_range1, wp_range2, wp_val, 
      List.getElem?_cons_zero, List.getElem?_cons_succ, Option.join_some, ex_eq, exL, exI, exI2, exO, exO2, List.set_cons_zero, List.set_cons_succ, setAll, gm_add, gm_sub, 
      gm_lt, gm_le, gm_gt, gm_ge, gm_len, gm_lenT, gm_intb, gm_mul, gm_mod, gm_div, gm_pow, asB_b, tru_b, dats_nil, dats_cons, Option.map_some, szl, List.length_cons, 
      List.length_nil, Nat.reduceAdd, and_self, true_and, and_true, if_true, if_false, Bool.false_eq_true, Bool.not_true, Bool.not_false, pk0, pk1, pick_eq, List.filterMap_cons, 
      List.filterMap_nil, List.cons_append, List.nil_append, gs_eqs, gs_nes, ix_l0, ix_lS, Int.reduceToNat, app_get, app_get1, app_get2, app_set, app_set1, app_set2, app_app, 
      app_len, app_len2, gsl_l, gsl_t, cutL_takeI, cutL_dropI, rev_l, gm_addv, gm_addvT, List.length_take, obI_l, rtq, nxq, ctq, gm_lenP, ix_loc, bind_some, lset0, mAppend_eq, 
      ws_seq, ws_set, ws_ret, ws_do, ws_skip, ws_brk, ws_cnt, ws_retN, ws_if, ws_asg, ws_asg2, ws_par, ws_augI, tw_nx, tw_rt, tw_bk, tw_ct, tw_ex, $ls,*] $[$loc]?)
local macro_rules
  | `(tactic| simp_arith! $[$loc:location]?) => `(tactic| simp_arith! [and_self] $[$loc:location]?)
def prD (q : Vl × Vl) : PyData := .tuple [q.1.p, q.2.p]
section
variable {a b c : Vl} {w mk : W} {xs ms : List Vl} {h : WH}
end
end L3

namespace L3
open PySem PySem.Spec PyProof.Rows L2
open Builtin Builtin.Str Builtin.Int Builtin.Float
section
variable {prog : Program} {w : World} {A : Around} {E : Value → Shared → Prop} {s : Shared}
end
section
variable {X : Cx} {pos p1 p2 : Pos} {e : Expr} {de : Den} {te : TE} {j : Nat}
end
end L3

namespace L3
open PySem PySem.Spec PyProof.Rows L2
theorem gslS {z : Str} {lo hi : Option Int} {h : WH} (hz : z.length ≤ 1000) : gSlice (.d (.str z)) lo hi h = some (.d (.str (L2.cutS z lo hi))) := if_pos (Nat.le_trans hz (by decide))
end L3

namespace L3
open PySem PySem.Spec PyProof.Rows L2
theorem dlt_irrefl (x : PyData) : PySem.W.dataLt x x = false := lex_irrefl _
theorem dlt_trans {x y z : PyData} (a : PySem.W.dataLt x y = true) (b : PySem.W.dataLt y z = true) : PySem.W.dataLt x z = true := lex_trans _ _ _ a b
theorem dlt_total {x y : PyData} (a : PySem.W.dataLt x y = false) (b : PySem.W.dataLt y x = false) : PySem.W.keyToks x = PySem.W.keyToks y := lex_total _ _ a b
theorem dlt_congr {x y z : PyData} (e : PySem.W.keyToks x = PySem.W.keyToks y) : PySem.W.dataLt z x = PySem.W.dataLt z y := by unfold PySem.W.dataLt; rw [e]
theorem leV_total (a b : Vl) : (leV a b || leV b a) = true := by
  unfold leV
  cases h1 : PySem.W.dataLt b.p a.p with
  | false => rfl
  | true =>
    cases h2 : PySem.W.dataLt a.p b.p with
    | false => rfl
    | true => have := dlt_trans h1 h2; rw [dlt_irrefl] at this; cases this
theorem leV_trans (a b c : Vl) (h1 : leV a b = true) (h2 : leV b c = true) : leV a c = true := by
  unfold leV at *
  rw [Bool.not_eq_true'] at *
  cases h : PySem.W.dataLt c.p a.p with
  | false => rfl
  | true =>
    cases h3 : PySem.W.dataLt a.p b.p with
    | true => have := dlt_trans h h3; rw [h2] at this; cases this
    | false =>
      have := dlt_congr (z := c.p) (dlt_total h3 h1)
      rw [h, h2] at this; cases this
theorem toks_vl (a : Vl) : PySem.W.keyToks a.p = [.inl 1, .inr a.k.cps.toList, .inl 1, .inl a.o, .inl 1, .inl a.m, .inl 0] := by
  unfold Vl.p
  simp [PySem.W.keyToks, PySem.W.keyToksAll]
theorem leV_anti {a b : Vl} (h1 : leV a b = true) (h2 : leV b a = true) : a = b := by
  unfold leV at *
  rw [Bool.not_eq_true'] at *
  have := dlt_total h2 h1
  rw [toks_vl, toks_vl] at this
  simp only [List.cons.injEq, Sum.inr.injEq, Sum.inl.injEq, and_true, true_and] at this
  obtain ⟨e1, e2, e3⟩ := this
  cases a; cases b
  simp only [Vl.mk.injEq]
  exact ⟨PySem.W.str_of_cps e1, e2, e3⟩
theorem sorted_perm_eq {α : Type} {le : α → α → Prop} (anti : ∀ a b, le a b → le b a → a = b) : ∀ {l1 l2 : List α}, l1.Pairwise le → l2.Pairwise le → l1.Perm l2 → l1 = l2
  | [], l2, _, _, p => (List.Perm.nil_eq p)
  | a :: l1, [], _, _, p => by have := p.length_eq; simp at this
  | a :: l1, b :: l2, h1, h2, p => by
    rw [List.pairwise_cons] at h1 h2
    have e : a = b := by
      rcases List.mem_cons.mp (p.subset (List.mem_cons_self ..)) with e | m1
      · exact e
      · rcases List.mem_cons.mp (p.symm.subset (List.mem_cons_self ..)) with e | m2
        · exact e.symm
        · exact anti a b (h1.1 b m2) (h2.1 a m1)
    subst e
    rw [sorted_perm_eq anti h1.2 h2.2 (List.Perm.cons_inv p)]
theorem sortV_pw (vs : List Vl) : (sortV vs).Pairwise fun a b => leV a b = true := by
  unfold sortV
  first
    | exact List.pairwise_mergeSort leV_trans leV_total vs
    | exact List.sorted_mergeSort leV_trans leV_total vs
theorem sortV_congr {xs ys : List Vl} (p : xs.Perm ys) : sortV xs = sortV ys :=
  sorted_perm_eq (fun a b => leV_anti) (sortV_pw xs) (sortV_pw ys) ((sortV_perm xs).trans (p.trans (sortV_perm ys).symm))
end L3

namespace L3
open PySem PySem.Spec PyProof.Rows L2
set_option hygiene false in
local macro_rules
  | `(tactic| simp_arith [$ls,*] $[$loc:location]?) => `(tactic| simp (maxSteps := 1000000) (disch := first | omega | assumption | decide | (simp only [List.length_take, List.length_drop, List.length_map, List.length_append, List.length_reverse, List.length_cons, List.length_nil, Int.reduceToNat]; omega)) only [wp_ok, wp_var, wp_c, wp_op, wp_un, wp_and, wp_or, wp_not, wp_if, wp_nil, wp_cons, wp_star, wp_lst, wp_tup, wp_new, wp_b, wp_call, wp_tB, wp_tOf, wp_tNot, wp_tAnd, wp_tOr, 
      wp_tTrue, wp_sm, wp_slice, wp_pN, wp_pS, wp_chain, wp_lm, wp_gN, wp_names, star_t, star_d, List.map_cons, List.map_nil, wp_listN, wp_addN, wp_range1, wp_range2, wp_val, 
      List.getElem?_cons_zero, List.getElem?_cons_succ, Option.join_some, ex_eq, exL, exI, exI2, exO, exO2, List.set_cons_zero, List.set_cons_succ, setAll, gm_add, gm_sub, 
      gm_lt, gm_le, gm_gt, gm_ge, gm_len, gm_lenT, gm_intb, gm_mul, gm_mod, gm_div, gm_pow, asB_b, tru_b, dats_nil, dats_cons, Option.map_some, szl, List.length_cons, 
      List.length_nil, Nat.reduceAdd, and_self, true_and, and_true, if_true, if_false, Bool.false_eq_true, Bool.not_true, Bool.not_false, pk0, pk1, pick_eq, List.filterMap_cons, 
      List.filterMap_nil, List.cons_append, List.nil_append, gs_eqs, gs_nes, ix_l0, ix_lS, Int.reduceToNat, app_get, app_get1, app_get2, app_set, app_set1, app_set2, app_app, 
      app_len, app_len2, gsl_l, gsl_t, cutL_takeI, cutL_dropI, rev_l, gm_addv, gm_addvT, List.length_take, obI_l, rtq, nxq, ctq, gm_lenP, ix_loc, bind_some, lset0, mAppend_eq, $ls,*] $[$loc]?)
local macro_rules
  | `(tactic| simp_arith $[$loc:location]?) => `(tactic| simp_arith [and_self] $[$loc:location]?)
def spn (q : Vl × Vl) : Int × Int := (q.1.m, q.2.m)
def kI (k : Int × Int) : List Key := [.inl k.1, .inl k.2]
abbrev Ent := (Int × Int) × Nat
def entD (es : List Ent) : List (PyData × W) := es.map fun e => (keyT (kI e.1), .loc e.2)
structure SpI (h0 : WH) (done : List (Vl × Vl)) (es : List Ent) (h : WH) : Prop where
  pre : ∃ rest, h = h0 ++ .dct (entD es) :: rest
  nd : (es.map Prod.fst).Nodup
  ix : ∀ e ∈ es, h0.length + 1 ≤ e.2 ∧ h[e.2]? = some (.lst ((done.filter fun q => decide (spn q = e.1)).map fun q => .d (prD q)))
  dif : ∀ e ∈ es, ∀ e' ∈ es, e.2 = e'.2 → e.1 = e'.1
  all : ∀ q ∈ done, spn q ∈ es.map Prod.fst
  len : es.length ≤ done.length
theorem nd_inj : ∀ {es : List Ent} {e e' : Ent}, (es.map Prod.fst).Nodup → e ∈ es → e' ∈ es → e.1 = e'.1 → e = e'
  | a :: r, e, e', nd, m, m', q => by
    rw [List.map_cons, List.nodup_cons] at nd
    rcases List.mem_cons.mp m with m1 | m1 <;> rcases List.mem_cons.mp m' with m2 | m2
    · rw [m1, m2]
    · rw [m1] at q; exact absurd (List.mem_map.mpr ⟨e', m2, q.symm⟩) nd.1
    · rw [m2] at q; exact absurd (List.mem_map.mpr ⟨e, m1, q⟩) nd.1
    · exact nd_inj nd.2 m1 m2 q
theorem SpI.start (h0 : WH) : SpI h0 [] [] (h0 ++ [.dct []]) := ⟨⟨[], rfl⟩, List.nodup_nil, fun _ m => (nomatch m), fun _ m => (nomatch m), fun _ m => (nomatch m), Nat.le_refl _⟩
section
variable {h0 h : WH} {done : List (Vl × Vl)} {es : List Ent} {q : Vl × Vl}
theorem SpI.lt (i : SpI h0 done es h) : h0.length + 1 ≤ h.length := by
  obtain ⟨rest, e⟩ := i.pre
  rw [e]; simp
theorem SpI.dct (i : SpI h0 done es h) : h[h0.length]? = some (.dct (entD es)) := by
  obtain ⟨rest, e⟩ := i.pre
  rw [e]; exact app_get
theorem filt_app (k : Int × Int) : (done ++ [q]).filter (fun p => decide (spn p = k)) = if spn q = k then done.filter (fun p => decide (spn p = k)) ++ [q] else done.filter (fun p => decide (spn p = k)) := by
  rw [List.filter_append]
  by_cases e : spn q = k
  · rw [if_pos e]; simp [e]
  · rw [if_neg e]; simp [e]
theorem SpI.old (i : SpI h0 done es h) {e : Ent} (m : e ∈ es) (ek : e.1 = spn q) :
    SpI h0 (done ++ [q]) es (List.set (h ++ [Ob.lst []]) e.2 (Ob.lst ((done.filter fun p => decide (spn p = spn q)).map (fun p => W.d (prD p)) ++ [W.d (prD q)]))) := by
  obtain ⟨h1, h2⟩ := i.ix e m
  have hl : e.2 < h.length := (List.getElem?_eq_some_iff.mp h2).1
  obtain ⟨rest, er⟩ := i.pre
  refine ⟨?_, i.nd, fun e' m' => ⟨(i.ix e' m').1, ?_⟩, i.dif, fun p mp => ?_, by rw [List.length_append]; exact Nat.le_trans i.len (Nat.le_add_right _ _)⟩
  · have hl2 : h0.length ≤ e.2 := by omega
    refine ⟨List.set (rest ++ [Ob.lst []]) (e.2 - (h0.length + 1)) (Ob.lst ((done.filter fun p => decide (spn p = spn q)).map (fun p => W.d (prD p)) ++ [W.d (prD q)])), ?_⟩
    rw [er, List.append_assoc, List.cons_append, List.set_append_right _ _ hl2]
    obtain ⟨n, en⟩ : ∃ n, e.2 - h0.length = n + 1 := ⟨e.2 - (h0.length + 1), by omega⟩
    rw [en, List.set_cons_succ, show e.2 - (h0.length + 1) = n by omega]
  · obtain ⟨h3, h4⟩ := i.ix e' m'
    have hl' : e'.2 < h.length := (List.getElem?_eq_some_iff.mp h4).1
    rw [filt_app]
    by_cases q2 : e.2 = e'.2
    · have := i.dif e m e' m' q2
      rw [if_pos (by rw [← this, ek]), ← q2, List.getElem?_set_self (by rw [List.length_append]; omega), List.map_append, ← this, ek]; rfl
    · have ne : spn q ≠ e'.1 := fun z => by
        have : e = e' := by
          exact nd_inj i.nd m m' (ek.trans z)
        exact q2 (by rw [this])
      rw [if_neg ne, List.getElem?_set_ne q2, List.getElem?_append_left hl']
      exact h4
  · rcases List.mem_append.mp mp with mp | mp
    · exact i.all p mp
    · rw [List.mem_singleton.mp mp, ← ek]; exact List.mem_map.mpr ⟨e, m, rfl⟩
theorem SpI.new (i : SpI h0 done es h) (nk : spn q ∉ es.map Prod.fst) :
    SpI h0 (done ++ [q]) (es ++ [(spn q, h.length)]) (List.set (List.set (h ++ [Ob.lst []]) h0.length (Ob.dct (entD es ++ [(keyT (kI (spn q)), W.loc h.length)]))) h.length (Ob.lst [W.d (prD q)])) := by
  have hl := i.lt
  obtain ⟨rest, er⟩ := i.pre
  have ent : entD (es ++ [(spn q, h.length)]) = entD es ++ [(keyT (kI (spn q)), .loc h.length)] := by unfold entD; rw [List.map_append]; rfl
  have nf : done.filter (fun p => decide (spn p = spn q)) = [] := by
    rw [List.filter_eq_nil_iff]
    intro p mp z
    exact nk (of_decide_eq_true z ▸ i.all p mp)
  refine ⟨⟨rest ++ [Ob.lst [W.d (prD q)]], ?_⟩, ?_, fun e m => ?_, fun e m e' m' z => ?_, fun p mp => ?_, by rw [List.length_append, List.length_append]; have := i.len; simp; exact this⟩
  · have hn : h.length = h0.length + 1 + rest.length := by rw [er]; simp; omega
    rw [ent, hn, er, List.append_assoc, List.cons_append, List.set_append_right _ _ (Nat.le_refl _), Nat.sub_self, List.set_cons_zero, List.set_append_right _ _ (by omega), show h0.length + 1 + rest.length - h0.length = rest.length + 1 by omega, List.set_cons_succ, List.set_append_right _ _ (Nat.le_refl _), Nat.sub_self]
    rfl
  · rw [List.map_append]
    refine List.nodup_append.mpr ⟨i.nd, by simp, fun a ma b mb z => ?_⟩
    have : b = spn q := by simpa using mb
    exact nk (this ▸ z ▸ ma)
  · rcases List.mem_append.mp m with m | m
    · obtain ⟨h1, h2⟩ := i.ix e m
      have hl' : e.2 < h.length := (List.getElem?_eq_some_iff.mp h2).1
      refine ⟨h1, ?_⟩
      have ne : spn q ≠ e.1 := fun z => nk (z ▸ List.mem_map.mpr ⟨e, m, rfl⟩)
      rw [filt_app, if_neg ne, List.getElem?_set_ne (by omega), List.getElem?_set_ne (by omega), List.getElem?_append_left hl']
      exact h2
    · rw [List.mem_singleton.mp m]
      refine ⟨hl, ?_⟩
      show (List.set _ h.length _)[h.length]? = _
      rw [filt_app, if_pos rfl, nf, List.getElem?_set_self (by rw [List.length_set, List.length_append]; simp)]
      rfl
  · rcases List.mem_append.mp m with m | m <;> rcases List.mem_append.mp m' with m' | m'
    · exact i.dif e m e' m' z
    · have := (List.getElem?_eq_some_iff.mp (i.ix e m).2).1
      rw [List.mem_singleton.mp m'] at z
      exact absurd z (Nat.ne_of_lt this)
    · have := (List.getElem?_eq_some_iff.mp (i.ix e' m').2).1
      rw [List.mem_singleton.mp m] at z
      exact absurd z.symm (Nat.ne_of_lt this)
    · rw [List.mem_singleton.mp m, List.mem_singleton.mp m']
  · rw [List.map_append]
    rcases List.mem_append.mp mp with mp | mp
    · exact List.mem_append_left _ (i.all p mp)
    · rw [List.mem_singleton.mp mp]; exact List.mem_append_right _ (by simp)
end
section
variable {w mk : W} {xs ms : List Vl} {h : WH}
end
end L3

namespace K06
open PySem PySem.Spec PyProof.Rows L2 L3
set_option hygiene false in
local macro_rules
  | `(tactic| simp_arith [$ls,*] $[$loc:location]?) => `(tactic| simp (maxSteps := 1000000) (disch := first | omega | assumption | decide | (simp only [List.length_take, List.length_drop, List.length_map, List.length_append, List.length_reverse, List.length_cons, List.length_nil, Int.reduceToNat]; omega)) only [wp_ok, wp_var, wp_c, wp_op, wp_un, wp_and, wp_or, wp_not, wp_if, wp_nil, wp_cons, wp_star, wp_lst, wp_tup, wp_new, wp_b, wp_call, wp_tB, wp_tOf, wp_tNot, wp_tAnd, wp_tOr, 
      wp_tTrue, wp_sm, wp_slice, wp_pN, wp_pS, wp_chain, wp_lm, wp_gN, wp_names, star_t, star_d, List.map_cons, List.map_nil, wp_listN, wp_addN, wp_range1, wp_range2, wp_val, 
      List.getElem?_cons_zero, List.getElem?_cons_succ, Option.join_some, ex_eq, exL, exI, exI2, exO, exO2, List.set_cons_zero, List.set_cons_succ, setAll, gm_add, gm_sub, 
      gm_lt, gm_le, gm_gt, gm_ge, gm_len, gm_lenT, gm_intb, gm_mul, gm_mod, gm_div, gm_pow, asB_b, tru_b, dats_nil, dats_cons, Option.map_some, szl, List.length_cons, 
      List.length_nil, Nat.reduceAdd, and_self, true_and, and_true, if_true, if_false, Bool.false_eq_true, Bool.not_true, Bool.not_false, pk0, pk1, pick_eq, List.filterMap_cons, 
      List.filterMap_nil, List.cons_append, List.nil_append, gs_eqs, gs_nes, ix_l0, ix_lS, Int.reduceToNat, app_get, app_get1, app_get2, app_set, app_set1, app_set2, app_app, 
      app_len, app_len2, gsl_l, gsl_t, cutL_takeI, cutL_dropI, rev_l, gm_addv, gm_addvT, List.length_take, obI_l, rtq, nxq, ctq, gm_lenP, ix_loc, bind_some, lset0, mAppend_eq, $ls,*] $[$loc]?)
local macro_rules
  | `(tactic| simp_arith $[$loc:location]?) => `(tactic| simp_arith [and_self] $[$loc:location]?)
noncomputable def kndD (xs : List Vl) : List PyData := sortD (nubD (xs.map fun v => .str v.k))
def ofK (xs : List Vl) (s : Str) : List Vl := sortV (xs.filter fun v => decide (v.k = s))
theorem keys_eq (xs : List Vl) : (xs.map fun v => keyD (.inr v.k)) = (xs.map fun v => (Sum.inr v.k : Key)).map keyD := by rw [List.map_map]; rfl
theorem kndD_congr {xs ys : List Vl} (h : ∀ v, v ∈ xs ↔ v ∈ ys) : kndD xs = kndD ys := by
  have e := sortK_congr (ks := xs.map fun v => Sum.inr v.k) (js := ys.map fun v => Sum.inr v.k) (.inr fun k m => by obtain ⟨v, _, rfl⟩ := List.mem_map.mp m; exact ⟨_, rfl⟩) fun k => by
    simp only [List.mem_map, h]
  rw [← keys_eq, ← keys_eq] at e
  exact e
section
variable {w : W} {xs : List Vl} {h : WH} {s : Str}
theorem kinds_eq (hx : Sq w xs) (hl : xs.length ≤ 63) : m_kinds_of [w] h = some (.ok (.d (.tuple (kndD xs))), h) := by
  refine fn_pureR rfl rfl ?_
  show Ws (d_kinds_of [some w, none] h) _
  unfold d_kinds_of
  refine ws_ret.mpr ?_
  simp_arith
  refine wp_sortK xs (fun v => .d v.p) (fun _ => true) (fun v => .inr v.k) hl (.inr fun v _ => ⟨_, rfl⟩) ?_ (fun v m => ?_) ?_
  · simp_arith
    exact ⟨_, sq_walk hx, rfl, trivial⟩
  · show Wp (gName1 1 _ _ _) _ _
    simp_arith [wipeW, ixp0, keyD]
  · rw [List.filter_eq_self.mpr fun _ _ => rfl]
    exact ⟨_, rfl, rfl, rfl⟩
theorem of_wp {l : List Vl} {x : W} {ws : WSt} {n m : Nat} {i : Nat} {d : Den} {E : EQ} {Q : W → WH → Prop} (hx : Sq x xs) (hl : xs.length ≤ 1000) (hd : Wp (d ws h) (fun w h' => w = x ∧ h' = h) E) (hn : ∀ v, ((wipeW ws [i]).set i (some (.d v)))[n]?.join = some (.d (.str s))) (hi : ∀ v, ((wipeW ws [i]).set i (some (.d v)))[i]?.join = some (.d v))
    (q : Q (.d (.list ((ofK xs s).map Vl.p))) h) : Wp (eB gSorted (aCons (eComp [i] (iVal d) (.one i) (tB (eOp gEqS (eOp gIx (eVar i) (eC (.d (.int 0)))) (eVar n))) (eVar i)) aNil) ws h) Q E := by
  rw [wp_b, wp_cons]
  refine wp_compP xs (fun v => .d v.p) (fun v => decide (v.k = s)) Vl.p (by omega) ?_ (fun v m => ?_) ?_
  · rw [wp_val]
    refine hd.imp (fun w h' ⟨e1, e2⟩ => ?_) fun _ _ _ z => z
    subst e1 e2
    exact ⟨_, sq_walk hx, rfl, rfl, trivial⟩
  · show Wp (gName1 i _ _ _) _ _
    have e1 := hn v.p
    have e2 := hi v.p
    rw [wp_gN]
    generalize (wipeW ws [i]).set i (some (.d v.p)) = ws2 at e1 e2 ⊢
    simp_arith [e1, e2, ixp0]
    by_cases z : v.k = s <;> simp [z, wp_var, e2]
  · have hs : Sq (.d (.list ((xs.filter fun v => decide (v.k = s)).map Vl.p))) (xs.filter fun v => decide (v.k = s)) := Sq.l fun v m => hx.2 v (List.mem_filter.mp m).1
    simp_arith
    exact ⟨_, sq_sorted hs, q⟩
theorem of_kind_eq (hx : Sq w xs) (hl : xs.length ≤ 1000) : m_of_kind [w, .d (.str s)] h = some (.ok (.d (.tuple ((ofK xs s).map Vl.p))), h) := by
  refine fn_pureR rfl rfl ?_
  show Ws (d_of_kind [some w, some (.d (.str s)), none] h) _
  unfold d_of_kind
  refine ws_ret.mpr ?_
  rw [wp_b, wp_cons]
  refine of_wp (l := xs) (m := 0) (n := 1) (i := 2) (s := s) hx hl ?_ (fun _ => rfl) (fun _ => rfl) ?_
  · simp_arith
  · simp_arith
    have hs : Sq (.d (.list ((ofK xs s).map Vl.p))) (ofK xs s) := Sq.l fun v m => hx.2 v (List.mem_filter.mp (sortV_mem.mp m)).1
    exact ⟨_, sq_tuple hs, rfl⟩
end
theorem draw_ok : DrawOk m_law_draw := drawA_ok (by decide)
theorem mul3 {x : PyData} {h : WH} : gMulT (.d (.list [x])) (.d (.int 3)) h = some (.d (.list [x, x, x])) := by
  show (if (([x] : List PyData).isEmpty ∨ (3 : Int) = 1) ∧ -(2 ^ 63) ≤ (3 : Int) ∧ (3 : Int) < 2 ^ 63 then some (W.d (.list [x])) else if 2 ≤ (3 : Int) ∧ (3 : Int) ≤ 1000 ∧ [x].length ≤ 1000 ∧ ([x] : List PyData).isEmpty = false then some (W.d (.list (List.replicate (3 : Int).toNat [x]).flatten)) else none) = _
  rw [if_neg (fun q => q.1.elim (fun z => by cases z) (by decide)), if_pos ⟨by decide, by decide, by simp, rfl⟩]
  rfl
theorem kndD_gd {xs : List Vl} (hx : ∀ v ∈ xs, v.Ok) (hl : xs.length ≤ 40) : Gd 1 4100 (.tuple (kndD xs)) := by
  obtain ⟨ts, e, _, m, l⟩ := sortS_ex (xs.map fun v => v.k)
  have e2 : kndD xs = ts.map .str := by
    unfold kndD
    rw [← e, List.map_map]
    rfl
  rw [e2]
  refine gd_tup (k := 0) (w := 100) (n := 40) (fun x mx => ?_) (by rw [List.length_map]; rw [List.length_map] at l; omega) (by decide)
  obtain ⟨s, ms, rfl⟩ := List.mem_map.mp mx
  obtain ⟨v, mv, rfl⟩ := List.mem_map.mp ((m s).mp ms)
  have := hx v mv
  exact gd_str this.pl (by have := this.sz; omega)
theorem gd_vlT {xs : List Vl} (h : ∀ v ∈ xs, v.Ok) (hl : xs.length ≤ 40) : Gd 2 (40 * 304) (.tuple (xs.map Vl.p)) := gd_tup (fun x m => by obtain ⟨v, mv, rfl⟩ := List.mem_map.mp m; exact (h v mv).gd) (by rw [List.length_map]; exact hl) (by decide)
theorem gd_vlL {xs : List Vl} (h : ∀ v ∈ xs, v.Ok) (hl : xs.length ≤ 40) : Gd 2 (40 * 304) (.list (xs.map Vl.p)) := gd_list (fun x m => by obtain ⟨v, mv, rfl⟩ := List.mem_map.mp m; exact (h v mv).gd) (by rw [List.length_map]; exact hl) (by decide)
structure Whole (vs : List Vl) (ss : List Str) (done : List Str) (ws : List Vl) : Prop where
  nd : ws.Nodup
  mem : ∀ v, v ∈ ws ↔ v ∈ vs ∧ v.k ∈ done ∧ v.k ∈ ss
theorem str_any {s : Str} {ss : List Str} : ((ss.map PyData.str).any fun z => PyData.eqv z (.str s)) = decide (s ∈ ss) := by
  rw [Bool.eq_iff_iff, List.any_eq_true, decide_eq_true_eq]
  constructor
  · rintro ⟨z, mz, e⟩
    obtain ⟨t, mt, rfl⟩ := List.mem_map.mp mz
    rw [eqv_str, decide_eq_true_eq] at e
    exact e ▸ mt
  · intro m
    exact ⟨_, List.mem_map_of_mem m, by rw [eqv_str]; simp⟩
theorem Whole.next {vs : List Vl} {ss done : List Str} {ws : List Vl} {s : Str} (h : Whole vs ss done ws) (nd : vs.Nodup) :
    Whole vs ss (s :: done) (ws ++ (ofK vs s).filter fun v => decide (s ∈ ss) && !decide (v ∈ ws)) := by
  have mo : ∀ v, v ∈ ofK vs s ↔ v ∈ vs ∧ v.k = s := fun v => by unfold ofK; rw [sortV_mem, List.mem_filter, decide_eq_true_eq]
  have no : (ofK vs s).Nodup := (sortV_perm _).nodup_iff.mpr (nd.filter _)
  refine ⟨List.nodup_append.mpr ⟨h.nd, no.filter _, fun x mx y my e => ?_⟩, fun v => ?_⟩
  · subst e
    have := (List.mem_filter.mp my).2
    simp [mx] at this
  · have hm := h.mem v
    rw [List.mem_append, List.mem_filter, mo]
    simp only [Bool.and_eq_true, Bool.not_eq_true', decide_eq_true_eq, decide_eq_false_iff_not, List.mem_cons]
    constructor
    · rintro (z | ⟨⟨a, b⟩, c, d⟩)
      · obtain ⟨a, b, c⟩ := hm.mp z
        exact ⟨a, .inr b, c⟩
      · exact ⟨a, .inl b, b ▸ c⟩
    · rintro ⟨a, b | b, c⟩
      · by_cases z : v ∈ ws
        · exact .inl z
        · exact .inr ⟨⟨a, b⟩, b ▸ c, z⟩
      · exact .inl (hm.mpr ⟨a, b, c⟩)
theorem plain_cut {s : Str} {lo hi : Option Int} (p : Plain s) : Plain (L2.cutS s lo hi) := fun c m => by
  refine p c ?_
  unfold L2.cutS at m
  first
    | exact List.mem_of_mem_drop (List.mem_of_mem_take (by simpa using m))
    | (simp only [Array.toList_extract] at m; exact List.mem_of_mem_drop (List.mem_of_mem_take m))
theorem law_wp (ns : List Int) : Wp (m_law [scriptW ns] []) (fun w _ => w = .d (.bool true)) noE := by
  refine wp_fnR (fun w _ => w = .d (.bool true)) rfl ?_ (fun w h' e => ⟨⟨Nat.zero_le _, .inl rfl⟩, w, by subst e; rfl, e⟩)
  show Ws (d_law [some (scriptW ns), none, none, none, none, none, none, none, none, none, none] []) _
  unfold d_law
  refine ws_seq.mpr (ws_set.mpr ?_)
  simp_arith [g_bn8]
  refine (pen_ok ns).wp ?_
  rintro _ _ ⟨rfl, o0, rfl, p0⟩
  refine tw_nx.mpr (ws_seq.mpr ?_)
  refine ws_forN (fun rem ws h => ∃ (x2 x3 x4 x5 x6 x7 x8 x9 : Option W) (o' : Ob), ws = [some (scriptW ns), some (.loc 0), x2, x3, x4, x5, x6, x7, x8, x9, none] ∧ h = [o'] ∧ rem.length ≤ 4 ∧ Pen (3000 * (4 - rem.length)) o') ?_
  simp_arith
  refine ⟨_, rng_ok (by decide), ⟨none, none, none, none, none, none, none, none, o0, rfl, rfl, by rw [rngL_length]; decide, p0.mono (by omega)⟩, ?_, ?_⟩
  · rintro w r _ _ ⟨x2, x3, x4, x5, x6, x7, x8, x9, o1, rfl, rfl, hl, p1⟩
    generalize hn : 3000 * (4 - (r.length + 1)) = n at p1
    have hn2 : n ≤ 12000 := by omega
    simp_arith
    refine ws_seq.mpr (ws_set.mpr ?_)
    simp_arith [g_bn7, g_bn0]
    refine draw_wp draw_ok p1 (by decide) (by omega) hlt_nil fun d1 o2 a0 a1 p2 => ?_
    simp_arith
    refine (namesA_ok draw_ok p2 (by omega) (by omega)).wp ?_
    rintro _ _ ⟨nms, o3, rfl, nl, hnm, rfl, p3⟩
    have nl1 : 1 ≤ nms.length ∧ nms.length ≤ 8 := by omega
    refine tw_nx.mpr (ws_seq.mpr (ws_set.mpr ?_))
    simp_arith [g_bn6]
    refine (bagN_ok draw_ok p3 hnm ⟨nl1.1, by omega⟩ (by decide) (by omega)).wp ?_
    rintro _ _ ⟨vs, o4, rfl, hvl, hvv, hnd, hvn, rfl, p4⟩
    have hv : ∀ v ∈ vs, v.Ok := fun v m => (hvv v m).ok
    have hvr : ∀ v ∈ vs.reverse, v.Ok := fun v m => hv v (List.mem_reverse.mp m)
    obtain ⟨ss, rfl, hss⟩ := nms_str hnm
    rw [List.length_map] at nl1
    have hvn2 : ∀ v ∈ vs, v.k ∈ ss := fun v m => by
      obtain ⟨s, ms, e⟩ := List.mem_map.mp (hvn v m)
      cases e
      exact ms
    have hl40 : vs.length ≤ 40 := by omega
    refine tw_nx.mpr (ws_seq.mpr (ws_set.mpr ?_))
    simp_arith [gm_repr (gd_vlL hv hl40)]
    refine tw_nx.mpr (ws_seq.mpr (ws_set.mpr ?_))
    rw [wp_b, wp_cons]
    refine wp_sortL (wp_compP vs (fun v => .d v.p) (fun _ => true) (fun v => .str v.k) (by omega) ?_ (fun v m => ?_) ?_)
    · simp_arith
      exact ⟨_, sq_walk (Sq.l hv), rfl, trivial⟩
    · show Wp (gName1 10 _ _ _) _ _
      simp_arith [wipeW, ixp0]
    · rw [List.filter_eq_self.mpr fun _ _ => rfl]
      refine ⟨vs.map fun v => .inr v.k, by rw [List.map_map]; rfl, .inr fun k m => ?_, by rw [List.length_map]; omega, ?_⟩
      · obtain ⟨v, _, rfl⟩ := List.mem_map.mp m; exact ⟨_, rfl⟩
      have ek : sortD (nubD ((vs.map fun v => (Sum.inr v.k : Key)).map keyD)) = kndD vs := by rw [List.map_map]; rfl
      rw [ek]
      simp_arith
      refine ⟨_, rfl, ?_⟩
      have c1 : ∀ h, m_kinds_of [.d (.list (vs.map Vl.p))] h = some (.ok (.d (.tuple (kndD vs))), h) := fun h => kinds_eq (Sq.l hv) (by omega)
      have c2 : ∀ h, m_kinds_of [.d (.tuple (vs.map Vl.p))] h = some (.ok (.d (.tuple (kndD vs))), h) := fun h => kinds_eq (Sq.t hv) (by omega)
      have c3 : ∀ h, m_kinds_of [.d (.list (vs.reverse.map Vl.p))] h = some (.ok (.d (.tuple (kndD vs))), h) := fun h => by
        rw [← kndD_congr (xs := vs.reverse) (ys := vs) fun v => List.mem_reverse]
        exact kinds_eq (Sq.l hvr) (by rw [List.length_reverse]; omega)
      have gk := kndD_gd hv hl40
      generalize kndD vs = kd at c1 c2 c3 gk
      have g3 : Gd 2 12400 (.list [.tuple kd, .tuple kd, .tuple kd]) := gd_list (k := 1) (w := 4100) (n := 3) (fun z m => by
        simp only [List.mem_cons, List.not_mem_nil, or_false] at m
        rcases m with rfl | rfl | rfl <;> exact gk) (Nat.le_refl 3) (by decide)
      refine tw_nx.mpr (ws_seq.mpr (ws_if.mpr ?_))
      simp_arith [g_bn3, g_bn5, sq_tuple (Sq.l hv), wp_run (c1 _), wp_run (c2 _), wp_run (c3 _), mul3, gm_repr g3, decide_true]
      refine ws_skip.mpr (tw_nx.mpr (ws_seq.mpr (ws_set.mpr ?_)))
      simp_arith
      refine tw_nx.mpr (ws_seq.mpr ?_)
      obtain ⟨n0, rest, en⟩ : ∃ n0 rest, ss = n0 :: rest := List.exists_cons_of_ne_nil (fun z => by rw [z] at nl1; exact absurd nl1.1 (by decide))
      have n0z := NmOk.sz (hss n0 (by rw [en]; exact List.mem_cons_self))
      have sdn : Sd 1 (.list (ss.map PyData.str)) := sd_list (k := 0) fun x m => by
        obtain ⟨s, ms, rfl⟩ := List.mem_map.mp m
        exact sd_str (NmOk.pl (hss s ms))
      refine ws_forN (fun rem ws h => ∃ (x8 x9 : Option W) (wl : List Vl) (done todo : List Str), ws = [some (scriptW ns), some (.loc 0), some w, some (.d (.list (ss.map .str))), some (.d (.list (vs.map Vl.p))), some (.d (.str (PyData.list (vs.map Vl.p)).shown)), some (.d (.tuple kd)), some (.d (.list (wl.map Vl.p))), x8, x9, none] ∧ h = [o4] ∧
        rem = (todo.map PyData.str).map W.d ∧ Whole vs ss done wl ∧ (∀ s ∈ ss, s ∈ done ∨ s ∈ todo) ∧ wl.length ≤ 40 ∧ ∀ s ∈ todo, Plain s) ?_
      have i0 : gIx (.d (.list (ss.map PyData.str))) (.d (.int 0)) [o4] = some (.d (.str n0)) := by rw [en]; exact ix_l0
      have s7 : ∀ k : Int, gSlice (.d (.str n0)) none (some k) [o4] = some (.d (.str (L2.cutS n0 none (some k)))) := fun k => gslS (show n0.cps.size ≤ 1000 by omega)
      have a7 : ∃ z, gAdd (.d (.str (L2.cutS n0 none (some 7)))) (.d (.str "q")) [o4] = some (.d (.str z)) ∧ Plain z := by
        refine ⟨_, gm_adds ?_, plain_app (plain_cut (NmOk.pl (hss n0 (by rw [en]; exact List.mem_cons_self)))) (plain_of _)⟩
        have z : (L2.cutS n0 none (some 7)).cps.size ≤ n0.cps.size := by
          unfold L2.cutS
          first
            | (simp only [Array.size_extract]; omega)
            | (simp; omega)
        have : ("q" : Str).cps.size = 1 := by decide +kernel
        omega
      obtain ⟨z7, a7, pz⟩ := a7
      simp_arith [i0, s7, a7]
      rw [show ([PyData.str "q", .str z7, .str (L2.cutS n0 none (some 1))]) = ([Str.ofString "q", z7, L2.cutS n0 none (some 1)] : List Str).map PyData.str from rfl]
      refine ⟨_, gm_addl (by rw [List.length_map, List.length_map]; show ss.length + 3 ≤ _; omega), ⟨_, fun _ => True⟩, rfl, ?_, ?_, ?_⟩
      · refine ⟨_, _, [], [], ss ++ [Str.ofString "q", z7, L2.cutS n0 none (some 1)], rfl, by rw [List.map_append (f := PyData.str)], ⟨List.nodup_nil, fun v => by simp⟩, fun s m => .inr (List.mem_append_left _ m), by decide, fun s m => ?_⟩
        rcases List.mem_append.mp m with m | m
        · exact NmOk.pl (hss s m)
        · simp only [List.mem_cons, List.not_mem_nil, or_false] at m
          rcases m with rfl | rfl | rfl
          · exact plain_of _
          · exact pz
          · exact plain_cut (NmOk.pl (hss n0 (by rw [en]; exact List.mem_cons_self)))
      · rintro w8 r8 _ _ ⟨x8, x9, wl, done, todo, rfl, rfl, er, hw, hd, hwl, hpl⟩
        obtain ⟨s, todo', rfl⟩ : ∃ s t, todo = s :: t := by
          cases todo with
          | nil => cases er
          | cons s t => exact ⟨s, t, rfl⟩
        rw [List.map_cons, List.map_cons] at er
        obtain ⟨rfl, rfl⟩ := List.cons.inj er
        simp_arith
        refine ws_seq.mpr (ws_set.mpr ?_)
        rw [wp_b, wp_cons]
        refine of_wp (l := vs) (m := 0) (n := 8) (i := 10) (s := s) (Sq.l hv) (by omega) ?_ (fun _ => rfl) (fun _ => rfl) ?_
        · simp_arith
        · have ho : ∀ v ∈ ofK vs s, v.Ok := fun v m => hv v (List.mem_filter.mp (sortV_mem.mp m)).1
          have lo : (ofK vs s).length ≤ 40 := by
            have z := sortV_len (vs.filter fun v => decide (v.k = s))
            have := List.length_filter_le (fun v : Vl => decide (v.k = s)) vs
            unfold ofK
            omega
          have d1 : ∀ h, m_of_kind [.d (.list (vs.map Vl.p)), .d (.str s)] h = some (.ok (.d (.tuple ((ofK vs s).map Vl.p))), h) := fun h => of_kind_eq (Sq.l hv) (by omega)
          have d2 : ∀ h, m_of_kind [.d (.tuple (vs.map Vl.p)), .d (.str s)] h = some (.ok (.d (.tuple ((ofK vs s).map Vl.p))), h) := fun h => of_kind_eq (Sq.t hv) (by omega)
          have g2 : Gd 3 25000 (.list [.tuple ((ofK vs s).map Vl.p), .tuple ((ofK vs s).map Vl.p)]) := gd_list (k := 2) (w := 40 * 304) (n := 2) (fun z m => by
            simp only [List.mem_cons, List.not_mem_nil, or_false] at m
            rcases m with rfl | rfl <;> exact gd_vlT ho lo) (Nat.le_refl 2) (by decide)
          have nx := hw.next (s := s) hnd
          have hwo : ∀ v ∈ wl, v.Ok := fun v m => hv v ((hw.mem v).mp m).1
          generalize eo : ofK vs s = ok at ho lo d1 d2 g2 nx ⊢
          simp_arith
          refine ⟨_, sq_tuple (Sq.l ho), ?_⟩
          refine tw_nx.mpr (ws_seq.mpr (ws_if.mpr ?_))
          simp_arith [g_bn2, g_bn4, sq_tuple (Sq.l hv), wp_run (d1 _), wp_run (d2 _), gm_repr g2, decide_true]
          refine ws_skip.mpr (tw_nx.mpr (ws_set.mpr ?_))
          rw [wp_op]
          simp_arith
          refine wp_compP ok (fun v => .d v.p) (fun v => decide (s ∈ ss) && !decide (v ∈ wl)) Vl.p (by omega) ?_ (fun v m => ?_) ?_
          · simp_arith
            exact ⟨_, sq_walk (Sq.t ho), rfl, trivial⟩
          · show Wp (gName1 10 _ _ _) _ _
            simp_arith [wipeW, gm_inS (sd_str (k := 1) (hpl s List.mem_cons_self)) sdn, str_any, vl_ni (ho v m |> id) hwo]
            by_cases z1 : s ∈ ss <;> by_cases z2 : v ∈ wl <;> simp [z1, z2, wp_var]
          · have nl2 : (wl ++ ok.filter fun v => decide (s ∈ ss) && !decide (v ∈ wl)).length ≤ 40 := by
              refine Nat.le_trans (List.Nodup.length_le_of_subset nx.nd fun v m => ((nx.mem v).mp m).1) hl40
            have z := List.length_append (as := wl) (bs := ok.filter fun v => decide (s ∈ ss) && !decide (v ∈ wl))
            refine ⟨_, gm_addv (by omega), ?_⟩
            refine ⟨_, _, _, s :: done, todo', rfl, rfl, rfl, nx, fun t m => ?_, nl2, fun t m => hpl t (List.mem_cons_of_mem _ m)⟩
            rcases hd t m with a | a
            · exact .inl (List.mem_cons_of_mem _ a)
            · rcases List.mem_cons.mp a with rfl | a
              · exact .inl List.mem_cons_self
              · exact .inr a
      · rintro _ _ ⟨x8, x9, wl, done, todo, rfl, rfl, er, hw, hd, hwl, _⟩
        have et : todo = [] := by
          cases todo with
          | nil => rfl
          | cons s t => cases er
        subst et
        have pm : wl.Perm vs := (List.perm_ext_iff_of_nodup hw.nd hnd).mpr fun v => by
          rw [hw.mem]
          exact ⟨fun z => z.1, fun m => ⟨m, (hd _ (hvn2 v m)).elim id (fun z => nomatch z), hvn2 v m⟩⟩
        have hwo : ∀ v ∈ wl, v.Ok := fun v m => hv v (pm.mem_iff.mp m)
        have es : sortV wl = sortV vs := sortV_congr pm
        have hso : ∀ v ∈ sortV vs, v.Ok := fun v m => hv v (sortV_mem.mp m)
        refine tw_nx.mpr (ws_if.mpr ?_)
        simp_arith [sq_sorted (Sq.l hwo), sq_sorted (Sq.l hv), es, gs_ne (vls_sd hso) (vls_sd hso), gm_repr (gd_vlL hv hl40), decide_true, PySem.SeqAt.eqv_refl _ (vls_sd hso).1]
        refine ws_skip.mpr (nxq.mpr ⟨_, _, _, _, _, _, _, _, o4, rfl, rfl, by omega, p4.mono (by omega)⟩)
  · rintro _ _ ⟨x2, x3, x4, x5, x6, x7, x8, x9, o1, rfl, rfl, hl, p1⟩
    have c1 : ∀ h, m_kinds_of [.d (.list [])] h = some (.ok (.d (.tuple [])), h) := fun h => by
      have e := kinds_eq (h := h) Sq.nilL (by decide)
      have z : kndD [] = [] := by
        unfold kndD nubD sortD
        simp
      rw [z] at e
      exact e
    have c2 : ∀ h, m_of_kind [.d (.list []), .d (.str "a")] h = some (.ok (.d (.tuple [])), h) := fun h => by
      have e := of_kind_eq (h := h) (s := "a") Sq.nilL (by decide)
      have z : ofK [] "a" = [] := by
        unfold ofK sortV
        simp
      rw [z] at e
      exact e
    refine tw_nx.mpr (ws_ret.mpr ?_)
    have q : ∀ h : WH, gEqS (.d (.tuple [])) (.d (.tuple [])) h = some (.d (.bool true)) := fun h => by
      have sd : Sd 1 (.tuple []) := sd_tup (k := 0) (xs := []) fun x m => nomatch m
      rw [gs_eq sd sd]; rfl
    simp_arith [g_bn2, g_bn3, wp_run (c1 _), wp_run (c2 _), q]
theorem law_ok : LawOk m_law 63 := fun ns _ => by
  obtain ⟨w, h, e, rfl⟩ := (law_wp ns).ok
  exact ⟨h, e⟩
end K06

open PySem PySem.W PyProof.Rows
set_option maxHeartbeats 0 in
theorem PySem.Challenge.cw_crossrank_k06_kinds_of_values_holds : PySem.Challenge.rw_crossrank_k06_kinds_of_values.Holds := by
  w_on; o_law; k_head; (case hw => w_witness2)
  k_fill
  refine L3.walkG (l := PySem.Challenge.rw_crossrank_k06_kinds_of_values) (n := 63) (k := 4) (x := "_law_script") (m := K06.m_law) rfl (by decide) rfl ⟨rfl, by decide, by decide⟩ (fun w h Y => PySem.W.kIn_of Y) ?F K06.law_ok
  case F =>
    intro w mg fa h KX G hmg
    refine' K06.all_mk KX G hmg ?a_kinds_of ?l_kinds_of ?c_kinds_of ?k_kinds_of ?a_of_kind ?l_of_kind ?c_of_kind ?k_of_kind ?a_law_pen ?l_law_pen ?c_law_pen ?k_law_pen ?a_law_draw ?l_law_draw ?c_law_draw ?k_law_draw ?a_law_names ?l_law_names ?c_law_names ?k_law_names ?a_law_numbers ?l_law_numbers ?c_law_numbers ?k_law_numbers ?a_law_bag ?l_law_bag ?c_law_bag ?k_law_bag ?a_law_some ?l_law_some ?c_law_some ?k_law_some ?a_law ?l_law ?c_law ?k_law ?zz_abs ?zz_int ?zz_len ?zz_list ?zz_min ?zz_range ?zz_repr ?zz_set ?zz_sorted ?zz_tuple
    (case a_kinds_of => k_is); (case l_kinds_of => k_is); (case c_kinds_of => k_is); (case k_kinds_of => k_is); (case a_of_kind => k_is); (case l_of_kind => k_is); (case c_of_kind => k_is); (case k_of_kind => k_is); (case a_law_pen => k_is); (case l_law_pen => k_is); (case c_law_pen => k_is); (case k_law_pen => k_is); (case a_law_draw => k_is); (case l_law_draw => k_is); (case c_law_draw => k_is); (case k_law_draw => k_is); (case a_law_names => k_is); (case l_law_names => k_is); (case c_law_names => k_is); (case k_law_names => k_is); (case a_law_numbers => k_is); (case l_law_numbers => k_is); (case c_law_numbers => k_is); (case k_law_numbers => k_is); (case a_law_bag => k_is); (case l_law_bag => k_is); (case c_law_bag => k_is); (case k_law_bag => k_is); (case a_law_some => k_is); (case l_law_some => k_is); (case c_law_some => k_is); (case k_law_some => k_is); (case a_law => k_is); (case l_law => k_is); (case c_law => k_is); (case k_law => k_is); (case zz_abs => k_is); (case zz_int => k_is); (case zz_len => k_is); (case zz_list => k_is); (case zz_min => k_is); (case zz_range => k_is); (case zz_repr => k_is); (case zz_set => k_is); (case zz_sorted => k_is); (case zz_tuple => k_is)

