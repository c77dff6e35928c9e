import PyProof.Rows.All
import Wide.All
import OpenK.AllK
import Wide.FinOn
import HandS.ForMost
import HandS.ForExc
import KE.DataEq
import PyProof.FactsAll.bool
import PyProof.TwoTypes
import PyProof.TwoTypesSub
import PyProof.AutoIntG7
import HandS.Wide
import HandS.TupAny
import HandS.TupMul
import HandS.TupLe
import HandS.Text
import HandS.IsInst
import HandS.More
import HandS.Flow
import HandS.Style
import HandS.Iter
import HandS.Walk
import KE.GoesEnum
import HandS.Zip
import HandS.ExcOwn
import HandS.Words
import HandS.WordsExc
import HandS.Conv
import HandS.SortInts
import HandS.Strs
import PyProof.Rows.StrMeet
import HandS.HeadHook3
import HandS.EndBits
import PyProof.StrLawsIn
import PyProof.StrLawsRepr
import PyProof.FitsInt
import PyProof.ReprLen
import PyProof.Rows.StrFit
import PyProof.Rows.ReprOcc
import PySem.Challenge.RW_laidtongues_k01_tongues_looked_at
set_option Elab.async false
set_option linter.all false
set_option maxRecDepth 100000
/-! GA: values, cells, what stands for them in the layer's heap -/
namespace G
open PySem PySem.Spec PyProof.Rows L2

inductive Val where
  | d (x : PyData)
  | loc (n : Nat)
  | scr (ns : List Int)
inductive Cell where
  | lst (xs : List Val)
  | dct (kvs : List (PyData × Val))
  | dead
abbrev Store := List Cell
abbrev Rho := List (Option Val)
structure Exn where
  cls : Str
  flds : List (Str × Val)
inductive R (α : Type) where
  | ok (a : α) (st : Store)
  | exc (e : Exn) (st : Store)
  | no
def R.bind {α β : Type} (r : R α) (f : α → Store → R β) : R β := match r with
  | .ok a st => f a st
  | .exc e st => .exc e st
  | .no => .no
def R.ofO {α : Type} : Option (α × Store) → R α
  | some (a, st) => .ok a st
  | none => .no

/-- where the cells lie; P: what is under way elsewhere and not to be touched -/
structure Mp where
  ls : List (Option Addr)
  P : Addr → Prop
def Mp.In (m : Mp) (a : Addr) : Prop := some a ∈ m.ls
def Frz (m : Mp) (a : Addr) : Prop := ¬ m.In a ∧ ¬ m.P a
structure Ext (m : Mp) (H : Hp) (m' : Mp) (H' : Hp) : Prop where
  len : m.ls.length ≤ m'.ls.length
  at_ : ∀ n, n < m.ls.length → m'.ls[n]? = m.ls[n]? ∨ m'.ls[n]? = some none
  P : m'.P = m.P
  keep : ∀ a o, H a = some o → ¬ m.In a → H' a = some o
  new : ∀ a, m'.In a → ¬ m.In a → H a = none
theorem Ext.refl {m : Mp} {H : Hp} : Ext m H m H := ⟨Nat.le_refl _, fun _ _ => .inl rfl, rfl, fun _ _ h _ => h, fun _ h n => absurd h n⟩
theorem some_ne {H : Hp} {a : Addr} {o : HO} (h : H a = some o) (h' : H a = none) : False := by rw [h] at h'; cases h'
theorem Ext.trans {m m1 m2 : Mp} {H H1 H2 : Hp} (a : Ext m H m1 H1) (b : Ext m1 H1 m2 H2) : Ext m H m2 H2 where
  len := Nat.le_trans a.len b.len
  at_ := fun n hn => by
    rcases b.at_ n (Nat.lt_of_lt_of_le hn a.len) with e | e
    · rw [e]; exact a.at_ n hn
    · exact .inr e
  P := b.P.trans a.P
  keep := fun x o h n => b.keep x o (a.keep x o h n) fun z => some_ne h (a.new x z n)
  new := fun x h n => by
    by_cases z : m1.In x
    · exact a.new x z n
    · have q := b.new x h z
      cases e : H x with
      | none => rfl
      | some o => exact (some_ne (a.keep x o e n) q).elim

/-- what is looked at, not changed, stays so -/
def Stay (H : Hp) (m : Mp) (H' : Hp) (m' : Mp) : Prop := ∀ a o, H a = some o → Frz m a → H' a = some o ∧ Frz m' a
theorem Ext.stay {m m' : Mp} {H H' : Hp} (e : Ext m H m' H') : Stay H m H' m' := fun a o h f =>
  ⟨e.keep a o h f.1, fun z => some_ne h (e.new a z f.1), by rw [e.P]; exact f.2⟩

/-- the written part's own tuples and lists -/
def KT (K : PySem.W.Frag) (a : Addr) (xs : List V) : Prop := ∃ (o : Obj) (its : Array Value) (n : Nat), K.lookup a = some o ∧ o.cls = .type "tuple" ∧ o.data = .seq its n ∧ its.size ≤ sizeLine ∧ Vals xs its.toList
def KL (K : PySem.W.Frag) (a : Addr) (xs : List V) : Prop := ∃ (o : Obj) (its : Array Value) (n : Nat), K.lookup a = some o ∧ o.cls = .type "list" ∧ o.dict = none ∧ o.data = .seq its n ∧ its.size ≤ sizeLine ∧ Vals xs its.toList
def IsTp (K : PySem.W.Frag) (H : Hp) (m : Mp) (a : Addr) (xs : List V) : Prop := (Rd H a (.tup xs) ∧ Frz m a) ∨ KT K a xs
def IsLs (H : Hp) (m : Mp) (a : Addr) (xs : List V) : Prop := H a = some (.lst xs) ∧ Frz m a
def IsDk (H : Hp) (m : Mp) (a : Addr) (kvs : List (Key × V)) : Prop := H a = some (.dK kvs) ∧ Frz m a
theorem Rd.stay {H H' : Hp} {m m' : Mp} {a : Addr} {u : HO} (s : Stay H m H' m') (h : Rd H a u) (f : Frz m a) : Rd H' a u ∧ Frz m' a := by
  rcases h with h | ⟨o, h⟩
  · exact ⟨.inl (s a _ h f).1, (s a _ h f).2⟩
  · exact ⟨.inr ⟨o, (s a _ h f).1⟩, (s a _ h f).2⟩
theorem IsTp.sq {K : PySem.W.Frag} {H : Hp} {m : Mp} {a : Addr} {xs : List V} (h : IsTp K H m a xs) : SqT K H a xs := h.imp (fun x => x.1) id
theorem IsTp.stay {K : PySem.W.Frag} {H H' : Hp} {m m' : Mp} {a : Addr} {xs : List V} (s : Stay H m H' m') (h : IsTp K H m a xs) : IsTp K H' m' a xs := h.imp (fun x => Rd.stay s x.1 x.2) id

def keyD : Key → PyData
  | .inl i => .int i
  | .inr x => .str x

mutual
inductive RepD (K : PySem.W.Frag) (H : Hp) (m : Mp) : V → PyData → Prop
  | non : RepD K H m .non .none
  | bl (b : Bool) : RepD K H m (.bl b) (.bool b)
  | int (i : Int) : RepD K H m (.int i) (.int i)
  | str (x : Str) : RepD K H m (.str x) (.str x)
  | tup {a : Addr} {xs : List V} {ds : List PyData} : IsTp K H m a xs → RepDs K H m xs ds → RepD K H m (.ref a) (.tuple ds)
  | lst {a : Addr} {xs : List V} {ds : List PyData} : IsLs H m a xs → RepDs K H m xs ds → RepD K H m (.ref a) (.list ds)
  | dct {a : Addr} {es : List (Key × V)} {kvs : List (PyData × PyData)} : IsDk H m a es → RepKv K H m es kvs → RepD K H m (.ref a) (.dict kvs)
inductive RepDs (K : PySem.W.Frag) (H : Hp) (m : Mp) : List V → List PyData → Prop
  | nil : RepDs K H m [] []
  | cons {v : V} {vs : List V} {d : PyData} {ds : List PyData} : RepD K H m v d → RepDs K H m vs ds → RepDs K H m (v :: vs) (d :: ds)
inductive RepKv (K : PySem.W.Frag) (H : Hp) (m : Mp) : List (Key × V) → List (PyData × PyData) → Prop
  | nil : RepKv K H m [] []
  | cons {k : Key} {v : V} {es : List (Key × V)} {d : PyData} {kvs : List (PyData × PyData)} : RepD K H m v d → RepKv K H m es kvs → RepKv K H m ((k, v) :: es) ((keyD k, d) :: kvs)
end
mutual
theorem RepD.stay {K : PySem.W.Frag} {H H' : Hp} {m m' : Mp} (s : Stay H m H' m') : ∀ {v : V} {d : PyData}, RepD K H m v d → RepD K H' m' v d
  | _, _, .non => .non
  | _, _, .bl b => .bl b
  | _, _, .int i => .int i
  | _, _, .str x => .str x
  | _, _, .tup h r => .tup (h.stay s) (RepDs.stay s r)
  | _, _, .lst h r => .lst (s _ _ h.1 h.2) (RepDs.stay s r)
  | _, _, .dct h r => .dct (s _ _ h.1 h.2) (RepKv.stay s r)
theorem RepDs.stay {K : PySem.W.Frag} {H H' : Hp} {m m' : Mp} (s : Stay H m H' m') : ∀ {v : List V} {d : List PyData}, RepDs K H m v d → RepDs K H' m' v d
  | _, _, .nil => .nil
  | _, _, .cons h r => .cons (RepD.stay s h) (RepDs.stay s r)
theorem RepKv.stay {K : PySem.W.Frag} {H H' : Hp} {m m' : Mp} (s : Stay H m H' m') : ∀ {v : List (Key × V)} {d : List (PyData × PyData)}, RepKv K H m v d → RepKv K H' m' v d
  | _, _, .nil => .nil
  | _, _, .cons h r => .cons (RepD.stay s h) (RepKv.stay s r)
end

inductive Rep (K : PySem.W.Frag) (H : Hp) (m : Mp) : V → Val → Prop
  | d {v : V} {x : PyData} : RepD K H m v x → Rep K H m v (.d x)
  | scr {a : Addr} {ns : List Int} : ((∃ o, H a = some (.frz o (.lst (ns.map V.int))) ∧ Frz m a) ∨ KL K a (ns.map V.int)) → Rep K H m (.ref a) (.scr ns)
  | loc {v : V} {n : Nat} : n < m.ls.length → (∀ a, m.ls[n]? = some (some a) → v = .ref a) → Rep K H m v (.loc n)
abbrev Reps (K : PySem.W.Frag) (H : Hp) (m : Mp) : List V → List Val → Prop := Paired (Rep K H m)
def RepE (K : PySem.W.Frag) (H : Hp) (m : Mp) : List (Key × V) → List (PyData × Val) → Prop := Paired fun p q => keyD p.1 = q.1 ∧ Rep K H m p.2 q.2
theorem Rep.ext {K : PySem.W.Frag} {H H' : Hp} {m m' : Mp} (e : Ext m H m' H') {v : V} {x : Val} (h : Rep K H m v x) : Rep K H' m' v x := by
  cases h with
  | d h => exact .d (h.stay e.stay)
  | scr h => exact .scr (h.imp (fun ⟨o, h1, h2⟩ => ⟨o, e.stay _ _ h1 h2⟩) id)
  | loc hn h =>
    refine .loc (Nat.lt_of_lt_of_le hn e.len) fun a q => ?_
    rcases e.at_ _ hn with z | z
    · exact h a (z ▸ q)
    · rw [z] at q; cases q
theorem Reps.ext {K : PySem.W.Frag} {H H' : Hp} {m m' : Mp} (e : Ext m H m' H') {v : List V} {x : List Val} (h : Reps K H m v x) : Reps K H' m' v x := Paired.mapP h fun _ _ z => z.ext e
theorem RepE.ext {K : PySem.W.Frag} {H H' : Hp} {m m' : Mp} (e : Ext m H m' H') {v : List (Key × V)} {x : List (PyData × Val)} (h : RepE K H m v x) : RepE K H' m' v x := Paired.mapP h fun _ _ z => ⟨z.1, z.2.ext e⟩

def CellRel (K : PySem.W.Frag) (H : Hp) (m : Mp) (a : Addr) : Cell → Prop
  | .lst ds => ∃ xs, H a = some (.lst xs) ∧ Reps K H m xs ds
  | .dct kvs => ∃ es, H a = some (.dK es) ∧ RepE K H m es kvs
  | .dead => True
structure StRel (K : PySem.W.Frag) (H : Hp) (m : Mp) (st : Store) : Prop where
  len : m.ls.length = st.length
  inj : ∀ (i j : Nat) a, m.ls[i]? = some (some a) → m.ls[j]? = some (some a) → i = j
  dead : ∀ n : Nat, m.ls[n]? = some none → st[n]? = some .dead
  np : ∀ a, m.In a → ¬ m.P a
  live : ∀ a, m.In a → H a ≠ none
  trk : ∀ a, m.P a → H a ≠ none
  cell : ∀ (n : Nat) a c, m.ls[n]? = some (some a) → st[n]? = some c → CellRel K H m a c
theorem ext_of_le {H H' : Hp} {m : Mp} (h : ∀ a o, H a = some o → H' a = some o) : Ext m H m H' := ⟨Nat.le_refl _, fun _ _ => .inl rfl, rfl, fun a o q _ => h a o q, fun _ q n => absurd q n⟩
theorem le_upd {H : Hp} {p : Addr} {o : HO} (hp : H p = none) : ∀ a u, H a = some u → upd H p o a = some u := fun a u q => by rw [upd_ne (ne_of_none q hp)]; exact q
theorem CellRel.ext {K : PySem.W.Frag} {H H' : Hp} {m m' : Mp} (e : Ext m H m' H') {a : Addr} {c : Cell} (k : ∀ o, H a = some o → H' a = some o) (h : CellRel K H m a c) : CellRel K H' m' a c := by
  cases c with
  | lst ds => obtain ⟨xs, h1, h2⟩ := h; exact ⟨xs, k _ h1, h2.ext e⟩
  | dct kvs => obtain ⟨xs, h1, h2⟩ := h; exact ⟨xs, k _ h1, h2.ext e⟩
  | dead => trivial
theorem StRel.le {K : PySem.W.Frag} {H H' : Hp} {m : Mp} {st : Store} (s : StRel K H m st) (h : ∀ a o, H a = some o → H' a = some o) : StRel K H' m st where
  len := s.len
  inj := s.inj
  dead := s.dead
  np := s.np
  live := fun a q z => by
    cases e : H a with
    | none => exact s.live a q e
    | some o => exact some_ne (h a o e) z
  trk := fun a q z => by
    cases e : H a with
    | none => exact s.trk a q e
    | some o => exact some_ne (h a o e) z
  cell := fun n a c h1 h2 => (s.cell n a c h1 h2).ext (ext_of_le h) (h a)

structure Gx where
  K : PySem.W.Frag
  mg : Str → Option Value
def RepF (K : PySem.W.Frag) (H : Hp) (m : Mp) : List (Str × V) → List (Str × Val) → Prop := Paired fun p q => p.1 = q.1 ∧ Rep K H m p.2 q.2
def ERel (g : Gx) (H : Hp) (m : Mp) (e : Exn) (cls : Value) (dd : Option Addr) : Prop := ∃ C, g.mg e.cls = some (.ref C) ∧ cls = Value.ref C ∧
  ((e.flds = [] ∧ dd = none) ∨ ∃ d fs, dd = some d ∧ H d = some (.xd fs) ∧ Frz m d ∧ RepF g.K H m fs e.flds)

/-- what is wanted behind a run; W of exceptions -/
def Out (g : Gx) (W : WX) {α : Type} (m : Mp) (H : Hp) (σ : L2.St) (r : R α) (k : α → Store → Mp → Hp → Prop) : Prop := match r with
  | .ok a st => ∀ m' H', Ext m H m' H' → StRel g.K H' m' st → k a st m' H'
  | .exc e st => ∀ m' H' cls dd, Ext m H m' H' → StRel g.K H' m' st → ERel g H' m' e cls dd → W cls dd σ H'
  | .no => False
def OutO (g : Gx) {α : Type} (m : Mp) (H : Hp) (r : Option (α × Store)) (k : α → Store → Mp → Hp → Prop) : Prop := match r with
  | some (a, st) => ∀ m' H', Ext m H m' H' → StRel g.K H' m' st → k a st m' H'
  | none => False
section
variable {g : Gx} {W : WX} {α β : Type} {m m1 : Mp} {H H1 : Hp} {σ : L2.St} {st : Store}
theorem Out.from {r : R α} {k : α → Store → Mp → Hp → Prop} (e : Ext m H m1 H1) (h : Out g W m H σ r k) : Out g W m1 H1 σ r k := by
  cases r with
  | ok a st => exact fun m' H' e' s => h m' H' (e.trans e') s
  | exc x st => exact fun m' H' c d e' s => h m' H' c d (e.trans e') s
  | no => exact h
theorem Out.imp {r : R α} {k k' : α → Store → Mp → Hp → Prop} (h : Out g W m H σ r k) (hk : ∀ a st m' H', Ext m H m' H' → StRel g.K H' m' st → k a st m' H' → k' a st m' H') : Out g W m H σ r k' := by
  cases r with
  | ok a st => exact fun m' H' e' s => hk a st m' H' e' s (h m' H' e' s)
  | exc x st => exact h
  | no => exact h
theorem Out.bind {r : R α} {f : α → Store → R β} {k : β → Store → Mp → Hp → Prop} (h : Out g W m H σ (r.bind f) k) : Out g W m H σ r (fun a st1 m1 H1 => Out g W m1 H1 σ (f a st1) k) := by
  cases r with
  | ok a st => exact fun m' H' e' s => Out.from e' h
  | exc x st => exact h
  | no => exact h
theorem Out.ofO {r : Option (α × Store)} {k : α → Store → Mp → Hp → Prop} (h : Out g W m H σ (R.ofO r) k) : OutO g m H r k := by
  cases r with
  | none => exact h
  | some p => obtain ⟨a, st⟩ := p; exact h
theorem OutO.imp {r : Option (α × Store)} {k k' : α → Store → Mp → Hp → Prop} (h : OutO g m H r k) (hk : ∀ a st m' H', Ext m H m' H' → StRel g.K H' m' st → k a st m' H' → k' a st m' H') : OutO g m H r k' := by
  cases r with
  | none => exact h
  | some p => obtain ⟨a, st⟩ := p; exact fun m' H' e' s => hk a st m' H' e' s (h m' H' e' s)
theorem Out.here {a : α} {k : α → Store → Mp → Hp → Prop} (h : Out g W m H σ (.ok a st) k) (s : StRel g.K H m st) : k a st m H := h m H .refl s
theorem OutO.here {a : α} {k : α → Store → Mp → Hp → Prop} (h : OutO g m H (some (a, st)) k) (s : StRel g.K H m st) : k a st m H := h m H .refl s
theorem OutO.fresh {a : α} {k : α → Store → Mp → Hp → Prop} (h : OutO g m H (some (a, st)) k) (s : StRel g.K H m st) {p : Addr} {o : HO} (hp : H p = none) : k a st m (upd H p o) :=
  h m _ (ext_of_le (le_upd hp)) (s.le (le_upd hp))
theorem StRel.frz {K : PySem.W.Frag} (s : StRel K H m st) {p : Addr} (hp : H p = none) : Frz m p := ⟨fun z => s.live p z hp, fun z => s.trk p z hp⟩
end

structure Rel (K : PySem.W.Frag) (H : Hp) (m : Mp) (σ : L2.St) (ρ : Rho) (st : Store) : Prop where
  len : σ.length = ρ.length
  env : ∀ (i : Nat) x, ρ[i]? = some (some x) → ∃ v, σ[i]? = some (some v) ∧ Rep K H m v x
  st : StRel K H m st
theorem Rel.ext {K : PySem.W.Frag} {H H' : Hp} {m m' : Mp} {σ : L2.St} {ρ : Rho} {st st' : Store} (r : Rel K H m σ ρ st) (e : Ext m H m' H') (s : StRel K H' m' st') : Rel K H' m' σ ρ st' :=
  ⟨r.len, fun i x h => let ⟨v, h1, h2⟩ := r.env i x h; ⟨v, h1, h2.ext e⟩, s⟩

/-- an expression's reading by a meaning -/
def DE (g : Gx) (W : WX) (f : Rho → Store → R Val) : TE := fun σ H Q => ∃ m ρ st, Rel g.K H m σ ρ st ∧ Out g W m H σ (f ρ st) fun x _ m' H' => ∀ v, Rep g.K H' m' v x → Q v H'
def DT (g : Gx) (W : WX) (f : Rho → Store → R Bool) : TT := fun σ H Q => ∃ m ρ st, Rel g.K H m σ ρ st ∧ Out g W m H σ (f ρ st) fun b _ _ H' => Q b H'
def DA (g : Gx) (W : WX) (f : Rho → Store → R (List Val)) : TA := fun σ H Q => ∃ m ρ st, Rel g.K H m σ ρ st ∧ Out g W m H σ (f ρ st) fun xs _ m' H' => ∀ vs, Reps g.K H' m' vs xs → Q vs H'
section
variable {X : Cx}
theorem PEw {e : Expr} {t t' : TE} (h : PE X e t) (w : ∀ σ H Q, t' σ H Q → t σ H Q) : PE X e t' := ⟨fun pins s σ H Q I q => h.run pins s σ H Q I (w σ H Q q)⟩
theorem PTw {e : Expr} {t t' : TT} (h : PT X e t) (w : ∀ σ H Q, t' σ H Q → t σ H Q) : PT X e t' := ⟨fun pins s σ H Q I q => h.run pins s σ H Q I (w σ H Q q)⟩
theorem PWw {e : Expr} {t t' : TT} (h : PW X e t) (w : ∀ σ H Q, t' σ H Q → t σ H Q) : PW X e t' := ⟨fun wh pins s σ H Q I q => h.run wh pins s σ H Q I (w σ H Q q)⟩
theorem PAw {e : List Expr} {t t' : TA} (h : PA X e t) (w : ∀ σ H Q, t' σ H Q → t σ H Q) : PA X e t' := ⟨fun pos pins s σ H Q I q => h.run pos pins s σ H Q I (w σ H Q q)⟩
theorem OpR.pick {f : Value → Value → Sem Value} {r : R2} (h : ∀ x y H Q, r x y H Q → ∃ r', OpR X f r' ∧ r' x y H Q) : OpR X f r := fun pins s σ H x y v u Q I rx ry q =>
  let ⟨_, h1, h2⟩ := h x y H Q q; h1 pins s σ H x y v u Q I rx ry h2
theorem CallR.pick {f : Value} {r : List V → Hp → VK → Prop} (h : ∀ xs H Q, r xs H Q → ∃ r', CallR X f r' ∧ r' xs H Q) : CallR X f r := fun pins s σ H xs us Q I rx q =>
  let ⟨_, h1, h2⟩ := h xs H Q q; h1 pins s σ H xs us Q I rx h2
end
/-- an operation by its meaning -/
def rD2 (g : Gx) (op : Val → Val → Store → Option (Val × Store)) : R2 := fun x y H Q => ∃ m st a b, StRel g.K H m st ∧ Rep g.K H m x a ∧ Rep g.K H m y b ∧ OutO g m H (op a b st) fun z _ m' H' => ∀ v, Rep g.K H' m' v z → Q v H'
def rDn (g : Gx) (op : List Val → Store → Option (Val × Store)) : List V → Hp → VK → Prop := fun xs H Q => ∃ m st as, StRel g.K H m st ∧ Reps g.K H m xs as ∧ OutO g m H (op as st) fun z _ m' H' => ∀ v, Rep g.K H' m' v z → Q v H'
def rDm (g : Gx) (op : Val → List Val → Store → Option (Val × Store)) : V → List V → Hp → VK → Prop := fun x xs H Q => ∃ m st a as, StRel g.K H m st ∧ Rep g.K H m x a ∧ Reps g.K H m xs as ∧ OutO g m H (op a as st) fun z _ m' H' => ∀ v, Rep g.K H' m' v z → Q v H'
theorem R.bind_assoc {α β γ : Type} (r : R α) (f : α → Store → R β) (h : β → Store → R γ) : (r.bind f).bind h = r.bind fun a st => (f a st).bind h := by cases r <;> rfl
section
variable {X : Cx} {W : WX} {a b : Expr} {pos : Pos}
def mBin (op : Val → Val → Store → Option (Val × Store)) (fa fb : Rho → Store → R Val) : Rho → Store → R Val := fun ρ st => (fa ρ st).bind fun x st1 => (fb ρ st1).bind fun y st2 => R.ofO (op x y st2)
theorem de_op {g : Gx} {op : Val → Val → Store → Option (Val × Store)} {fa fb : Rho → Store → R Val} {σ : L2.St} {H : Hp} {Q : VK} (h : DE g W (mBin op fa fb) σ H Q) : tOp (rD2 g op) (DE g W fa) (DE g W fb) σ H Q := by
  obtain ⟨m, ρ, st, r, o⟩ := h
  refine ⟨m, ρ, st, r, (Out.bind o).imp fun x st1 m1 H1 e1 s1 o1 v rv => ?_⟩
  refine ⟨m1, ρ, st1, r.ext e1 s1, (Out.bind o1).imp fun y st2 m2 H2 e2 s2 o2 u ru => ?_⟩
  exact ⟨m2, st2, x, y, s2, rv.ext e2, ru, Out.ofO o2⟩
theorem pe_bin {o : Operator} {op : Val → Val → Store → Option (Val × Store)} {fa fb : Rho → Store → R Val} (ho : OpR X (binaryOp o) (rD2 ⟨X.K, X.mg⟩ op)) (ha : PE X a (DE ⟨X.K, X.mg⟩ W fa)) (hb : PE X b (DE ⟨X.K, X.mg⟩ W fb)) :
    PE X (.BinOp a o b pos) (DE ⟨X.K, X.mg⟩ W (mBin op fa fb)) := PEw (pe_op ho ha hb) fun _ _ _ h => de_op h
end
end G
set_option Elab.async false
set_option linter.all false
set_option maxRecDepth 100000
/-! GB: the small language and what it means -/
namespace G
open PySem PySem.Spec PyProof.Rows L2

/-! ### equality of data, decided -/
mutual
def eqD : PyData → PyData → Bool
  | .none, .none => true
  | .bool a, .bool b => a == b
  | .int a, .int b => a == b
  | .str a, .str b => a == b
  | .list a, .list b => eqDs a b
  | .tuple a, .tuple b => eqDs a b
  | .dict a, .dict b => eqKv a b
  | _, _ => false
def eqDs : List PyData → List PyData → Bool
  | [], [] => true
  | x :: xs, y :: ys => eqD x y && eqDs xs ys
  | _, _ => false
def eqKv : List (PyData × PyData) → List (PyData × PyData) → Bool
  | [], [] => true
  | (a, b) :: xs, (c, d) :: ys => eqD a c && eqD b d && eqKv xs ys
  | _, _ => false
end
mutual
theorem eqD_of : ∀ a b : PyData, eqD a b = true → a = b
  | .none, b, h => by cases b <;> simp_all [eqD]
  | .bool _, b, h => by cases b <;> simp_all [eqD]
  | .int _, b, h => by cases b <;> simp_all [eqD]
  | .str _, b, h => by cases b <;> simp_all [eqD]
  | .list xs, b, h => by
    cases b <;> simp [eqD] at h
    rw [eqDs_of _ _ h]
  | .tuple xs, b, h => by
    cases b <;> simp [eqD] at h
    rw [eqDs_of _ _ h]
  | .dict xs, b, h => by
    cases b <;> simp [eqD] at h
    rw [eqKv_of _ _ h]
theorem eqDs_of : ∀ a b : List PyData, eqDs a b = true → a = b
  | [], b, h => by cases b <;> simp_all [eqDs]
  | x :: xs, [], h => by simp [eqDs] at h
  | x :: xs, y :: ys, h => by
    simp [eqDs] at h
    rw [eqD_of _ _ h.1, eqDs_of _ _ h.2]
theorem eqKv_of : ∀ a b : List (PyData × PyData), eqKv a b = true → a = b
  | [], b, h => by cases b <;> simp_all [eqKv]
  | x :: xs, [], h => by obtain ⟨_, _⟩ := x; simp [eqKv] at h
  | (a, b) :: xs, (c, d) :: ys, h => by
    simp [eqKv] at h
    rw [eqD_of _ _ h.1.1, eqD_of _ _ h.1.2, eqKv_of _ _ h.2]
end
mutual
theorem eqD_rfl : ∀ a : PyData, eqD a a = true
  | .none => rfl
  | .bool _ => by simp [eqD]
  | .int _ => by simp [eqD]
  | .str _ => by simp [eqD]
  | .list xs => by simp [eqD, eqDs_rfl xs]
  | .tuple xs => by simp [eqD, eqDs_rfl xs]
  | .dict xs => by simp [eqD, eqKv_rfl xs]
theorem eqDs_rfl : ∀ a : List PyData, eqDs a a = true
  | [] => rfl
  | x :: xs => by simp [eqDs, eqD_rfl x, eqDs_rfl xs]
theorem eqKv_rfl : ∀ a : List (PyData × PyData), eqKv a a = true
  | [] => rfl
  | (x, y) :: xs => by simp [eqKv, eqD_rfl x, eqD_rfl y, eqKv_rfl xs]
end
instance : DecidableEq PyData := fun a b => match h : eqD a b with
  | true => .isTrue (eqD_of a b h)
  | false => .isFalse fun e => by rw [e, eqD_rfl] at h; cases h
instance : DecidableEq Val := fun a b => match a, b with
  | .d x, .d y => if h : x = y then .isTrue (by rw [h]) else .isFalse fun e => h (Val.d.inj e)
  | .loc x, .loc y => if h : x = y then .isTrue (by rw [h]) else .isFalse fun e => h (Val.loc.inj e)
  | .scr x, .scr y => if h : x = y then .isTrue (by rw [h]) else .isFalse fun e => h (Val.scr.inj e)
  | .d _, .loc _ => .isFalse fun e => Val.noConfusion e
  | .loc _, .d _ => .isFalse fun e => Val.noConfusion e
  | .d _, .scr _ => .isFalse fun e => Val.noConfusion e
  | .loc _, .scr _ => .isFalse fun e => Val.noConfusion e
  | .scr _, .d _ => .isFalse fun e => Val.noConfusion e
  | .scr _, .loc _ => .isFalse fun e => Val.noConfusion e
instance : DecidableEq Cell := fun a b => match a, b with
  | .lst x, .lst y => if h : x = y then .isTrue (by rw [h]) else .isFalse fun e => h (Cell.lst.inj e)
  | .dct x, .dct y => if h : x = y then .isTrue (by rw [h]) else .isFalse fun e => h (Cell.dct.inj e)
  | .dead, .dead => .isTrue rfl
  | .lst _, .dct _ => .isFalse fun e => Cell.noConfusion e
  | .lst _, .dead => .isFalse fun e => Cell.noConfusion e
  | .dct _, .lst _ => .isFalse fun e => Cell.noConfusion e
  | .dct _, .dead => .isFalse fun e => Cell.noConfusion e
  | .dead, .lst _ => .isFalse fun e => Cell.noConfusion e
  | .dead, .dct _ => .isFalse fun e => Cell.noConfusion e

/-! ### the language -/
inductive Bop where
  | add | sub | mul | mod | fdiv | pow | shr | band
  deriving DecidableEq
inductive Cop where
  | eq | ne | lt | le | gt | ge | is | isnot | isin | notin
  deriving DecidableEq
inductive Ty where
  | tuple | list | str | int | bool | dict
  deriving DecidableEq
/-- built-in functions, and methods of built-in things, by values -/
inductive Bi where
  | len | tuple | list | listm | all | any | str | repr | sorted | int | abs | min2 | max2 | sum | dict | bool | lenset | max1 | min1
  deriving DecidableEq
inductive Me where
  | append | extend | pop | popat | join | upper | strip | rstrip | lstrip | split | find3 | find4 | isalnum | count | get1 | get2 | index | insert | remove | replace | rstripc | stripc | lstripc | update | setdefault | startswith | endswith
  deriving DecidableEq
mutual
inductive E where
  | var (i : Nat)
  | cst (d : PyData)
  | glob (n : Nat)
  | bin (o : Bop) (a b : E)
  | neg (a : E)
  | cmp (o : Cop) (a b : E)
  | chain (o o' : Cop) (a b c : E)
  | and (es : Es)
  | or (es : Es)
  | not (a : E)
  | ite (c a b : E)
  | tup (es : Es)
  | lst (mu : Bool) (es : Es)
  | dct (mu : Bool) (kvs : Kvs)
  | ix (a i : E)
  | slice (a : E) (lo hi : Pt)
  | rev (a : E)
  | step2 (a : E) (lo : Nat)
  | none_
  | inG (neg : Bool) (a : E) (g : Nat)
  | ixG (g : Nat) (i : E)
  | call (f : Nat) (args : Es)
  | bi (b : Bi) (args : Es)
  | isi (a : E) (ts : List Ty)
  | me (m : Me) (a : E) (args : Es)
  | comp (mu : Bool) (elt : E) (tg : Tg) (it : It) (ifs : Es) (own : List Nat)
  | frz (a : E)
  | never
  | comp2 (mu : Bool) (elt : E) (tg : Tg) (it : It) (ifs : Es) (tg1 : Tg) (it1 : It) (ifs1 : Es) (own own1 : List Nat)
  | lenset (a : E)
  | lrng (mu : Bool) (a : E)
inductive Kvs where
  | nil
  | cons (k v : E) (r : Kvs)
inductive Pt where
  | no
  | e (a : E)
inductive Es where
  | nil
  | cons (e : E) (r : Es)
inductive It where
  | e (a : E)
  | rng (as : Es)
  | enum (as : Es)
  | zip (as : Es)
  | items (a : E)
  | values (a : E)
  | rev (a : E)
inductive Tg where
  | name (i : Nat)
  | tup (ts : Tgs)
  | sub (a i : E)
inductive Tgs where
  | nil
  | cons (t : Tg) (r : Tgs)
end
mutual
inductive S where
  | expr (e : E)
  | asg (t : Tg) (e : E)
  | par (i j : Nat) (a b : E)
  | par3 (i j l : Nat) (a b c : E)
  | parn (ts : Tgs) (es : Es)
  | never
  | aug (i : Nat) (o : Bop) (e : E)
  | ret (e : E)
  | retn
  | ite (c : E) (a b : Ss)
  | for_ (t : Tg) (it : It) (b : Ss)
  | while_ (c : E) (b : Ss)
  | brk
  | cont
  | pass
inductive Ss where
  | nil
  | cons (s : S) (r : Ss)
end
structure Fn where
  np : Nat
  ns : Nat
  keep : Bool
  body : Ss

/-! ### operations -/
def datas : List Val → Option (List PyData)
  | [] => some []
  | .d x :: r => (datas r).map (x :: ·)
  | _ :: _ => none
/-- a list's items -/
def lsOf (st : Store) : Val → Option (List Val)
  | .d (.list xs) => some (xs.map Val.d)
  | .loc n => match st[n]? with
    | some (.lst xs) => some xs
    | _ => none
  | _ => none
def lsDat (st : Store) (v : Val) : Option (List PyData) := (lsOf st v).bind datas
/-- a list's or a tuple's items -/
def sqOf (st : Store) : Val → Option (List Val)
  | .d (.tuple xs) => some (xs.map Val.d)
  | v => lsOf st v
/-- a dict's pairs -/
def dcOf (st : Store) : Val → Option (List (PyData × Val))
  | .d (.dict kvs) => some (kvs.map fun p => (p.1, Val.d p.2))
  | .loc n => match st[n]? with
    | some (.dct kvs) => some kvs
    | _ => none
  | _ => none
/-- data: a cell's list frozen in the look -/
def datOf (st : Store) : Val → Option PyData
  | .d x => some x
  | .loc n => match st[n]? with
    | some (.lst xs) => (datas xs).map PyData.list
    | _ => none
  | .scr _ => none
def truthO (st : Store) (v : Val) : Option Bool := match v with
  | .d .none => some false
  | .d (.bool b) => some b
  | .d (.int i) => some (i != 0)
  | .d (.str x) => if x.length ≤ sizeLine then some ((x.length : Int) != 0) else none
  | v => (sqOf st v).map fun xs => !xs.isEmpty
abbrev Op2 := Val → Val → Store → Option (Val × Store)
def guard' {α : Type} (c : Prop) [Decidable c] (x : Option α) : Option α := if c then x else none
def dat (st : Store) (x : PyData) : Option (Val × Store) := some (.d x, st)
def repL {α : Type} (k : Int) (xs : List α) : List α := (List.replicate k.toNat xs).flatten
def b2z (b : Bool) : Int := if b = true then 1 else 0
def oAdd : Op2 := fun a b st => match a, b with
  | .d (.int i), .d (.int j) => dat st (.int (i + j))
  | .d (.bool i), .d (.int j) => dat st (.int (b2z i + j))
  | .d (.int i), .d (.bool j) => dat st (.int (i + b2z j))
  | .d (.str x), .d (.str y) => guard' (x.length + y.length ≤ sizeLine) (dat st (.str (x ++ y)))
  | .d (.tuple xs), .d (.tuple ys) => guard' (xs.length + ys.length ≤ sizeLine) (dat st (.tuple (xs ++ ys)))
  | a, b => (lsDat st a).bind fun xs => (lsDat st b).bind fun ys => guard' (xs.length + ys.length ≤ sizeLine) (dat st (.list (xs ++ ys)))
def oSub : Op2 := fun a b st => match a, b with
  | .d (.int i), .d (.int j) => dat st (.int (i - j))
  | .d (.bool i), .d (.int j) => dat st (.int (b2z i - j))
  | .d (.int i), .d (.bool j) => dat st (.int (i - b2z j))
  | _, _ => none
def oMul : Op2 := fun a b st => match a, b with
  | .d (.int i), .d (.int j) => guard' (i.natAbs.log2 + j.natAbs.log2 < 1000000) (dat st (.int (i * j)))
  | .d (.str x), .d (.int k) => guard' (-(2 ^ 63) ≤ k ∧ k < 2 ^ 63 ∧ x.length * k.toNat ≤ sizeLine) (dat st (.str ⟨(repL k x.cps.toList).toArray⟩))
  | .d (.tuple xs), .d (.int k) => guard' (xs ≠ [] ∧ 2 ≤ k ∧ k ≤ 1000 ∧ xs.length ≤ 1000) (dat st (.tuple (repL k xs)))
  | .d (.list xs), .d (.int k) => guard' (-(2 ^ 63) ≤ k ∧ k < 2 ^ 63 ∧ xs.length * k.toNat ≤ sizeLine) (dat st (.list (repL k xs)))
  | _, _ => none
def oMod : Op2 := fun a b st => match a, b with
  | .d (.int i), .d (.int j) => guard' (0 < j) (dat st (.int (i % j)))
  | _, _ => none
def oFdiv : Op2 := fun a b st => match a, b with
  | .d (.int i), .d (.int j) => guard' (0 < j ∧ j.natAbs.log2 < 9000) (dat st (.int (i / j)))
  | _, _ => none
def oPow : Op2 := fun a b st => match a, b with
  | .d (.int i), .d (.int j) => guard' (0 ≤ j ∧ j ≤ 1000000 ∧ i.natAbs < 2 ^ 64) (dat st (.int (i ^ j.toNat)))
  | _, _ => none
def oShr : Op2 := fun a b st => match a, b with
  | .d (.int i), .d (.int j) => guard' (0 ≤ j) (dat st (.int (i / 2 ^ j.toNat)))
  | _, _ => none
def oBand : Op2 := fun a b st => match a, b with
  | .d (.int i), .d (.int j) => dat st (.int (Builtin.bitAnd i j))
  | _, _ => none
def binO : Bop → Op2
  | .add => oAdd | .sub => oSub | .mul => oMul | .mod => oMod | .fdiv => oFdiv | .pow => oPow | .shr => oShr | .band => oBand

def bl (st : Store) (b : Bool) : Option (Val × Store) := dat st (.bool b)
/-- == of data -/
def eqO (x y : PyData) : Option Bool :=
  if x.plain = true ∧ y.plain = true ∧ x.depth ≤ 64 ∧ y.depth ≤ 64 then some (x.eqv y) else
    match x, y with
    | .tuple xs, .tuple [] => some xs.isEmpty
    | .list xs, .list ys => if xs.length ≠ ys.length then some false else none
    | _, _ => none
def isFlat : PyData → Bool
  | .none | .bool _ | .int _ | .str _ => true
  | _ => false
/-- x in a list | a tuple -/
def inO (x : PyData) (ds : List PyData) : Option Bool :=
  if x.plain = true ∧ x.depth ≤ 64 ∧ PyData.plainAll ds = true ∧ PyData.depthAll ds ≤ 63 then some (ds.any fun z => z.eqv x) else none
def findK (kvs : List (PyData × Val)) (k : PyData) : Option Val := match kvs with
  | [] => none
  | p :: r => if p.1 = k then some p.2 else findK r k
/-- a written dict's worth at a text -/
def findD : List (PyData × PyData) → Str → Option PyData
  | [], _ => none
  | p :: r, x => if p.1 = .str x then some p.2 else findD r x
def isKey : PyData → Bool
  | .int _ | .str _ => true
  | _ => false
def sqDat (st : Store) (v : Val) : Option (List PyData) := (sqOf st v).bind datas
def tyOf (st : Store) : Val → Option Ty
  | .d .none => none
  | .d (.bool _) => some .bool
  | .d (.int _) => some .int
  | .d (.str _) => some .str
  | .d (.list _) => some .list
  | .d (.tuple _) => some .tuple
  | .d (.dict _) => some .dict
  | .loc n => match st[n]? with
    | some (.lst _) => some .list
    | some (.dct _) => some .dict
    | _ => none
  | .scr _ => none
def isInO : Val → Val → Store → Option Bool := fun a b st => match a, b with
  | .d (.str x), .d (.str y) => some (!(Builtin.Str.occurrences y x 0 y.length 1).isEmpty)
  | .d x, b => match tyOf st b with
    | some .dict => (dcOf st b).bind fun kvs => guard' (isKey x = true) (some (findK kvs x).isSome)
    | _ => (sqDat st b).bind (inO x)
  | _, _ => none
def ltO : Val → Val → Option Bool := fun a b => match a, b with
  | .d (.int i), .d (.int j) => some (decide (i < j))
  | .d (.str x), .d (.str y) => some (decide (x.cps.toList < y.cps.toList))
  | _, _ => none
def leO : Val → Val → Option Bool := fun a b => match a, b with
  | .d (.int i), .d (.int j) => some (decide (i ≤ j))
  | .d (.str x), .d (.str y) => some (!decide (y.cps.toList < x.cps.toList))
  | _, _ => none
def eqV' (st : Store) (a b : Val) : Option Bool := match datOf st a, datOf st b with
  | some x, some y => eqO x y
  | _, _ => none
def isO : Val → Val → Option Bool := fun a b => match a, b with
  | .d x, .d .none => some (decide (x = .none))
  | .d (.bool i), .d (.bool j) => some (decide (i = j))
  | _, _ => none
def cmpO : Cop → Op2
  | .eq => fun a b st => (eqV' st a b).bind fun k => bl st k
  | .ne => fun a b st => (eqV' st a b).bind fun k => bl st (!k)
  | .lt => fun a b st => (ltO a b).bind fun k => bl st k
  | .gt => fun a b st => (ltO b a).bind fun k => bl st k
  | .le => fun a b st => (leO a b).bind fun k => bl st k
  | .ge => fun a b st => (leO b a).bind fun k => bl st k
  | .is => fun a b st => (isO a b).bind fun k => bl st k
  | .isnot => fun a b st => (isO a b).bind fun k => bl st (!k)
  | .isin => fun a b st => (isInO a b st).bind fun k => bl st k
  | .notin => fun a b st => (isInO a b st).bind fun k => bl st (!k)

def oIx : Op2 := fun a b st => match a, b with
  | .scr ns, .d (.int i) => (atI ns i).bind fun v => dat st (.int v)
  | .d (.str x), .d (.int i) => if x.length ≤ sizeLine then (atI x.cps.toList i).bind fun c => dat st (.str ⟨#[c]⟩) else none
  | .d (.tuple xs), .d (.int i) => (atI xs i).bind fun v => dat st v
  | a, .d k => match tyOf st a with
    | some .dict => (dcOf st a).bind fun kvs => guard' (isKey k = true) ((findK kvs k).bind fun v => some (v, st))
    | _ => match k with
      | .int i => (lsOf st a).bind fun xs => (atI xs i).bind fun v => some (v, st)
      | _ => none
  | _, _ => none
def cutL {α : Type} (xs : List α) (lo hi : Option Int) : List α := (xs.drop (HT.sIx xs.length 0 lo)).take (HT.sIx xs.length xs.length hi - HT.sIx xs.length 0 lo)
def partO : Option Val → Option (Option Int)
  | none => some none
  | some (.d (.int i)) => some (some i)
  | _ => none
def oSlice (a : Val) (lo hi : Option Int) (st : Store) : Option (Val × Store) := match a with
  | .d (.str x) => guard' (x.length ≤ sizeLine) (dat st (.str ⟨(cutL x.cps.toList lo hi).toArray⟩))
  | .d (.tuple xs) => dat st (.tuple (cutL xs lo hi))
  | .scr ns => dat st (.list ((cutL ns lo hi).map PyData.int))
  | a => (lsDat st a).bind fun ds => dat st (.list (cutL ds lo hi))
/-- a value that has a kind at all -/
def hasTy (st : Store) : Val → Bool
  | .d _ => true
  | .loc n => match st[n]? with
    | some (.lst _) => true
    | some (.dct _) => true
    | _ => false
  | .scr _ => false
def isT (t : Option Ty) (u : Ty) : Bool := match t, u with
  | some .bool, .int => true
  | some a, b => decide (a = b)
  | none, _ => false
def isiO (st : Store) (v : Val) (ts : List Ty) : Option Bool := if hasTy st v = true then some (ts.any (isT (tyOf st v))) else none

/-! ### built-in functions and methods -/
def boolsOf : List PyData → Option (List Bool)
  | [] => some []
  | .bool b :: r => (boolsOf r).map (b :: ·)
  | _ :: _ => none
def intsOf : List PyData → Option (List Int)
  | [] => some []
  | .int b :: r => (intsOf r).map (b :: ·)
  | _ :: _ => none
def strsOf : List PyData → Option (List Str)
  | [] => some []
  | .str b :: r => (strsOf r).map (b :: ·)
  | _ :: _ => none
def sortS (xs : List Str) : List Str := xs.mergeSort fun a b => !decide (b.cps.toList < a.cps.toList)
def sortI (xs : List Int) : List Int := xs.mergeSort fun a b => decide (a ≤ b)
abbrev OpN := List Val → Store → Option (Val × Store)
def biO : Bi → OpN
  | .len => fun vs st => match vs with
    | [.d (.str x)] => guard' (x.length ≤ sizeLine) (dat st (.int x.length))
    | [.scr ns] => dat st (.int ns.length)
    | [v] => match tyOf st v with
      | some .dict => (dcOf st v).bind fun kvs => dat st (.int kvs.length)
      | _ => (sqOf st v).bind fun xs => dat st (.int xs.length)
    | _ => none
  | .tuple => fun vs st => match vs with
    | [v] => (sqDat st v).bind fun ds => dat st (.tuple ds)
    | _ => none
  | .list => fun vs st => match vs with
    | [v] => (sqDat st v).bind fun ds => dat st (.list ds)
    | _ => none
  | .listm => fun vs st => match vs with
    | [v] => (sqOf st v).bind fun xs => some (.loc st.length, st ++ [.lst xs])
    | _ => none
  | .all => fun vs st => match vs with
    | [v] => (lsDat st v).bind fun ds => (boolsOf ds).bind fun bs => bl st (bs.all id)
    | _ => none
  | .any => fun vs st => match vs with
    | [v] => (lsDat st v).bind fun ds => (boolsOf ds).bind fun bs => bl st (bs.any id)
    | _ => none
  | .str => fun vs st => match vs with
    | [.d (.int n)] => guard' (n.natAbs.log2 < 1920) (dat st (.str (toString n)))
    | [.d (.str x)] => dat st (.str x)
    | [v] => (datOf st v).bind fun d => guard' (d.showable = true ∧ d.depth ≤ 64 ∧ d.shown.length ≤ sizeLine) (dat st (.str d.shown))
    | _ => none
  | .repr => fun vs st => match vs with
    | [v] => (datOf st v).bind fun d => guard' (d.showable = true ∧ d.depth ≤ 64 ∧ d.shown.length ≤ sizeLine) (dat st (.str d.shown))
    | _ => none
  | .sorted => fun vs st => match vs with
    | [v] => match tyOf st v with
      | some .dict => (dcOf st v).bind fun kvs => (strsOf (kvs.map (·.1))).bind fun xs => guard' (xs.length < 64) (dat st (.list ((sortS xs).map PyData.str)))
      | _ => (lsDat st v).bind fun ds => match intsOf ds with
        | some ns => dat st (.list ((sortI ns).map PyData.int))
        | none => (strsOf ds).bind fun xs => guard' (xs.length < 64) (dat st (.list ((sortS xs).map PyData.str)))
    | _ => none
  | .int => fun vs st => match vs with
    | [.d (.int n)] => dat st (.int n)
    | [.d (.bool b)] => dat st (.int (if b then 1 else 0))
    | _ => none
  | .abs => fun vs st => match vs with
    | [.d (.int n)] => dat st (.int (if n < 0 then -n else n))
    | _ => none
  | .min2 => fun vs st => match vs with
    | [.d (.int m), .d (.int n)] => dat st (.int (if n < m then n else m))
    | _ => none
  | .max2 => fun vs st => match vs with
    | [.d (.int m), .d (.int n)] => dat st (.int (if n > m then n else m))
    | _ => none
  | _ => fun _ _ => none
def meTy : Me → Ty
  | .append | .extend | .pop | .popat | .insert | .remove | .index | .count => .list
  | .get1 | .get2 | .update | .setdefault => .dict
  | _ => .str
def recv (m : Me) (st : Store) (v : Val) : Bool := match meTy m, v with
  | .str, .d (.str _) => true
  | .list, v => (lsOf st v).isSome
  | .dict, v => (dcOf st v).isSome
  | _, _ => false
abbrev OpM := Val → List Val → Store → Option (Val × Store)
def setC (st : Store) (n : Nat) (c : Cell) : Store := st.set n c
def meO : Me → OpM
  | .append => fun a vs st => match a, vs with
    | .loc n, [v] => match st[n]? with
      | some (.lst xs) => guard' (xs.length < sizeLine) (some (.d .none, setC st n (.lst (xs ++ [v]))))
      | _ => none
    | _, _ => none
  | .extend => fun a vs st => match a, vs with
    | .loc n, [v] => match st[n]?, lsOf st v with
      | some (.lst xs), some ys => guard' (xs.length + ys.length ≤ sizeLine) (some (.d .none, setC st n (.lst (xs ++ ys))))
      | _, _ => none
    | _, _ => none
  | .pop => fun a vs st => match a, vs with
    | .loc n, [] => match st[n]? with
      | some (.lst xs) => (xs[xs.length - 1]?).bind fun y => some (y, setC st n (.lst xs.dropLast))
      | _ => none
    | _, _ => none
  | .popat => fun a vs st => match a, vs with
    | .loc n, [.d (.int i)] => match st[n]? with
      | some (.lst xs) => guard' (-(2 ^ 63) ≤ i ∧ i < 2 ^ 63) ((seqIndex? i xs.length).bind fun k => (xs[k]?).bind fun y => some (y, setC st n (.lst (xs.eraseIdx k))))
      | _ => none
    | _, _ => none
  | .join => fun a vs st => match a, vs with
    | .d (.str s), [v] => (sqDat st v).bind fun ds => (strsOf ds).bind fun ys => guard' ((ys.map (·.length)).sum + ys.length * s.length ≤ 16777216) (dat st (.str (Txt.join s ys)))
    | _, _ => none
  | .upper => fun a vs st => match a, vs with
    | .d (.str s), [] => guard' (s.length ≤ 5592405) (dat st (.str (Txt.upper s)))
    | _, _ => none
  | _ => fun _ _ _ => none

/-! ### runs -/
structure Env' where
  glob : Nat → Option PyData
  fns : Nat → List Val → Store → R Val
def one' {α : Type} (a : α) : Store → R α := fun st => .ok a st
def ofOpt {α : Type} (o : Option α) (st : Store) : R α := match o with
  | some a => .ok a st
  | none => .no
def truthR (v : Val) (st : Store) : R Bool := ofOpt (truthO st v) st
/-- a list's items stand still while they are walked -/
abbrev Grd := Option (Nat × Cell)
def Grd.ok (g : Grd) (st : Store) : Prop := match g with
  | none => True
  | some (n, c) => st[n]? = some c
instance (g : Grd) (st : Store) : Decidable (g.ok st) := match g with
  | none => .isTrue trivial
  | some (n, c) => inferInstanceAs (Decidable (st[n]? = some c))
abbrev Items := List Val × Grd
def seqItems (v : Val) (st : Store) : Option Items := match v with
  | .d (.str x) => some (x.cps.toList.map fun c => Val.d (.str ⟨#[c]⟩), none)
  | .d (.tuple xs) => some (xs.map Val.d, none)
  | .d (.list xs) => some (xs.map Val.d, none)
  | .loc n => match st[n]? with
    | some (.lst xs) => some (xs, some (n, .lst xs))
    | _ => none
  | _ => none
def rng (lo : Int) (n : Nat) (c : Int) : List Val := (List.range n).map fun i => Val.d (.int (lo + (i : Nat) * c))
def small62 (i : Int) : Prop := -(2 ^ 62) ≤ i ∧ i < 2 ^ 62
instance (i : Int) : Decidable (small62 i) := inferInstanceAs (Decidable (_ ∧ _))
def pairD (a b : Val) : Option Val := match a, b with
  | .d x, .d y => some (.d (.tuple [x, y]))
  | _, _ => none
def allO {α : Type} : List (Option α) → Option (List α)
  | [] => some []
  | some a :: r => (allO r).map (a :: ·)
  | none :: _ => none
def enumI (i : Nat) : List Val → List (Option Val)
  | [] => []
  | x :: r => pairD (.d (.int (i : Nat))) x :: enumI (i + 1) r
def rangeN (lo hi c : Int) : Nat := if 0 < c then ((hi - lo + c - 1) / c).toNat else if c < 0 then ((lo - hi - c - 1) / (-c)).toNat else 0
def rngO (vs : List Val) : Option Items := match vs with
  | [.d (.int j)] => if small62 j then some (rng 0 j.toNat 1, none) else none
  | [.d (.int i), .d (.int j)] => if small62 i ∧ small62 j then some (rng i (j - i).toNat 1, none) else none
  | [.d (.int i), .d (.int j), .d (.int k)] => if (k ≠ 0 ∧ k.natAbs < 1073741824) ∧ Builtin.Range.small i j k = true ∧ 0 ≤ Builtin.Range.rangeSize i j k then some (rng i (Builtin.Range.rangeSize i j k).toNat k, none) else none
  | _ => none
/-- enumerate(list), enumerate(tuple) -/
def enumO (vs : List Val) (st : Store) : Option Items := match vs with
  | [.d (.tuple ds)] => (allO (enumI 0 (ds.map .d))).map fun ys => (ys, none)
  | [v] => match lsOf st v with
    | some xs => (allO (enumI 0 xs)).map fun ys => (ys, match v with
      | .loc n => some (n, .lst xs)
      | _ => none)
    | none => none
  | _ => none
def pairs2 (xs ys : List PyData) : List Val := List.zipWith (fun x y => Val.d (.tuple [x, y])) xs ys
/-- zip of two lists, of two tuples -/
def zipO (vs : List Val) (st : Store) : Option Items := match vs with
  | [.d (.tuple xs), .d (.tuple ys)] => some (pairs2 xs ys, none)
  | [.d (.list xs), .d (.list ys)] => some (pairs2 xs ys, none)
  | [.loc n, .d (.list ys)] => match st[n]? with
    | some (.lst us) => match datas us with
      | some xs => some (pairs2 xs ys, some (n, .lst us))
      | none => none
    | _ => none
  | _ => none
def R.noExc {α : Type} (r : R α) : R α := match r with
  | .exc _ _ => .no
  | r => r
/-- a comprehension's turns: f gives the item's value, or none -/
def foldR (f : Val → Store → R (Option Val)) (g : Grd) : List Val → Store → R (List Val)
  | [], st => if g.ok st then .ok [] st else .no
  | x :: r, st => if g.ok st then (f x st).bind fun o st1 => (foldR f g r st1).bind fun ys st2 => .ok (o.toList ++ ys) st2 else .no
/-- with two fors: an item of the first gives a list of values -/
def foldRR (f : Val → Store → R (List Val)) (g : Grd) : List Val → Store → R (List Val)
  | [], st => if g.ok st then .ok [] st else .no
  | x :: r, st => if g.ok st then (f x st).bind fun o st1 => (foldRR f g r st1).bind fun ys st2 => .ok (o ++ ys) st2 else .no
/-- how many unlike ones -/
def distinct : List Str → List Str → List Str
  | σ, [] => σ
  | σ, x :: r => distinct (if σ.any (· == x) then σ else σ ++ [x]) r
def wipeR (ρ : Rho) : List Nat → Rho
  | [] => ρ
  | v :: vs => (wipeR ρ vs).set v none
def mkList (mu : Bool) (ys : List Val) (st : Store) : R Val :=
  if ys.length ≤ sizeLine then (if mu then .ok (.loc st.length) (st ++ [.lst ys]) else match datas ys with
    | some ds => .ok (.d (.list ds)) st
    | none => .no) else .no
def mergeD {α : Type} (acc : List (PyData × α)) : List (PyData × α) → List (PyData × α)
  | [] => acc
  | (k, v) :: r => mergeD (if acc.any (fun p => decide (p.1 = k)) then acc.map fun p => if p.1 = k then (k, v) else p else acc ++ [(k, v)]) r
def zipKv (ks vs : List Val) : Option (List (PyData × Val)) := match ks, vs with
  | [], [] => some []
  | .d k :: ks, v :: vs => if isKey k = true then (zipKv ks vs).map ((k, v) :: ·) else none
  | _, _ => none
def datKv : List (PyData × Val) → Option (List (PyData × PyData))
  | [] => some []
  | (k, .d v) :: r => (datKv r).map ((k, v) :: ·)
  | _ :: _ => none
def mkDict (mu : Bool) (ks vs : List Val) (st : Store) : R Val := match zipKv ks vs with
  | some kvs => if kvs.length ≤ 15 then (if mu then .ok (.loc st.length) (st ++ [.dct (mergeD [] kvs)]) else match datKv (mergeD [] kvs) with
    | some ds => .ok (.d (.dict ds)) st
    | none => .no) else .no
  | none => .no
def setO (o i v : Val) (st : Store) : Option Store := match o with
  | .loc n => match st[n]?, i with
    | some (.lst xs), .d (.int k) => (ixN xs.length k).bind fun j => some (setC st n (.lst (xs.set j v)))
    | some (.dct kvs), .d k => if isKey k = true ∧ kvs.length < sizeLine then some (setC st n (.dct (mergeD kvs [(k, v)]))) else none
    | _, _ => none
  | _ => none
def partR (v : Option Val) : Option (Option Int) := partO v
mutual
def ev (N : Env') : E → Rho → Store → R Val
  | .var i, ρ, st => match ρ[i]? with
    | some (some v) => .ok v st
    | _ => .no
  | .cst d, _, st => .ok (.d d) st
  | .glob n, _, st => match N.glob n with
    | some d => .ok (.d d) st
    | none => .no
  | .bin o a b, ρ, st => mBin (binO o) (ev N a) (ev N b) ρ st
  | .neg a, ρ, st => (ev N a ρ st).bind fun v st1 => match v with
    | .d (.int i) => .ok (.d (.int (-i))) st1
    | _ => .no
  | .cmp o a b, ρ, st => mBin (cmpO o) (ev N a) (ev N b) ρ st
  | .chain o o' a b c, ρ, st => (ev N a ρ st).bind fun x st1 => (ev N b ρ st1).bind fun y st2 => (R.ofO (cmpO o x y st2)).bind fun k st3 => match k with
    | .d (.bool true) => (ev N c ρ st3).bind fun z st4 => R.ofO (cmpO o' y z st4)
    | .d (.bool false) => .ok (.d (.bool false)) st3
    | _ => .no
  | .and es, ρ, st => evAnd N es ρ st
  | .or es, ρ, st => evOr N es ρ st
  | .not a, ρ, st => (ev N a ρ st).bind fun v st1 => (truthR v st1).bind fun b st2 => .ok (.d (.bool (!b))) st2
  | .ite c a b, ρ, st => (ev N c ρ st).bind fun v st1 => (truthR v st1).bind fun k st2 => if k then ev N a ρ st2 else ev N b ρ st2
  | .tup es, ρ, st => (evs N es ρ st).bind fun vs st1 => match datas vs with
    | some ds => if ds.length ≤ sizeLine then .ok (.d (.tuple ds)) st1 else .no
    | none => .no
  | .lst mu es, ρ, st => (evs N es ρ st).bind fun vs st1 => mkList mu vs st1
  | .dct mu kvs, ρ, st => (evKv N kvs ρ st).bind fun p st1 => mkDict mu p.1 p.2 st1
  | .ix a i, ρ, st => mBin oIx (ev N a) (ev N i) ρ st
  | .slice a lo hi, ρ, st => (ev N a ρ st).bind fun x st1 => (evPart N lo ρ st1).bind fun l st2 => (evPart N hi ρ st2).bind fun u st3 => R.ofO (oSlice x l u st3)
  | .rev a, ρ, st => (ev N a ρ st).bind fun x st1 => match x with
    | .d (.tuple xs) => .ok (.d (.tuple xs.reverse)) st1
    | x => match lsDat st1 x with
      | some xs => .ok (.d (.list xs.reverse)) st1
      | none => .no
  | .step2 _ _, _, _ => .no
  | .none_, _, st => .ok (.d .none) st
  | .inG neg a g, ρ, st => (ev N a ρ st).bind fun v st1 => match v, N.glob g with
    | .d (.str x), some (.dict kvs) => .ok (.d (.bool (if neg then !(findD kvs x).isSome else (findD kvs x).isSome))) st1
    | _, _ => .no
  | .ixG g i, ρ, st => (ev N i ρ st).bind fun v st1 => match v, N.glob g with
    | .d (.str x), some (.dict kvs) => match findD kvs x with
      | some d => .ok (.d d) st1
      | none => .no
    | _, _ => .no
  | .call f args, ρ, st => (evs N args ρ st).bind fun vs st1 => N.fns f vs st1
  | .bi b args, ρ, st => (evs N args ρ st).bind fun vs st1 => R.ofO (biO b vs st1)
  | .isi a ts, ρ, st => (ev N a ρ st).bind fun v st1 => R.ofO ((isiO st1 v ts).bind fun k => bl st1 k)
  | .me m a args, ρ, st => (ev N a ρ st).bind fun x st1 => if recv m st1 x = true then (evs N args ρ st1).bind fun vs st2 => R.ofO (meO m x vs st2) else .no
  | .comp mu elt tg it ifs own, ρ, st => (evIt N it ρ st).bind fun p st1 =>
      ((foldR (fun x st2 => (asg N tg x (wipeR ρ own) st2).bind fun ρ1 st3 => (evTests N ifs ρ1 st3).bind fun b st4 =>
        if b then (ev N elt ρ1 st4).bind fun y st5 => .ok (some y) st5 else .ok none st4) p.2 p.1 st1).noExc).bind fun ys st6 => mkList mu ys st6
  | .frz a, ρ, st => (ev N a ρ st).bind fun v st1 => match v with
    | .loc n => match st1[n]? with
      | some (.lst xs) => match datas xs with
        | some ds => .ok (.d (.list ds)) (st1.set n .dead)
        | none => .no
      | _ => .no
    | v => .ok v st1
  | .never, _, _ => .no
  | .comp2 mu elt tg it ifs tg1 it1 ifs1 own own1, ρ, st => (evIt N it ρ st).bind fun p st1 =>
      ((foldRR (fun x st2 => (asg N tg x (wipeR ρ own) st2).bind fun ρ1 st3 => (evTests N ifs ρ1 st3).bind fun b st4 =>
        if b then (evIt N it1 ρ1 st4).bind fun p1 st5 => foldR (fun x1 st6 => (asg N tg1 x1 (wipeR ρ1 own1) st6).bind fun ρ2 st7 => (evTests N ifs1 ρ2 st7).bind fun b1 st8 =>
          if b1 then (ev N elt ρ2 st8).bind fun y st9 => .ok (some y) st9 else .ok none st8) p1.2 p1.1 st5 else .ok [] st4) p.2 p.1 st1).noExc).bind fun ys st6 => mkList mu ys st6
  | .lenset a, ρ, st => (ev N a ρ st).bind fun v st1 => match lsDat st1 v with
    | some ds => match strsOf ds with
      | some xs => if xs.length < 4000 then .ok (.d (.int ((distinct [] xs).length : Nat))) st1 else .no
      | none => .no
    | none => .no
  | .lrng mu a, ρ, st => (ev N a ρ st).bind fun v st1 => match v with
    | .d (.int n) => if -(2 ^ 62) ≤ n ∧ n ≤ 16777216 then mkList mu (rng 0 n.toNat 1) st1 else .no
    | _ => .no
def evPart (N : Env') : Pt → Rho → Store → R (Option Int)
  | .no, _, st => .ok none st
  | .e a, ρ, st => (ev N a ρ st).bind fun v st1 => match v with
    | .d (.int i) => .ok (some i) st1
    | _ => .no
def evAnd (N : Env') : Es → Rho → Store → R Val
  | .nil, _, _ => .no
  | .cons a .nil, ρ, st => ev N a ρ st
  | .cons a r, ρ, st => (ev N a ρ st).bind fun v st1 => (truthR v st1).bind fun b st2 => if b then evAnd N r ρ st2 else .ok v st2
def evOr (N : Env') : Es → Rho → Store → R Val
  | .nil, _, _ => .no
  | .cons a .nil, ρ, st => ev N a ρ st
  | .cons a r, ρ, st => (ev N a ρ st).bind fun v st1 => (truthR v st1).bind fun b st2 => if b then .ok v st2 else evOr N r ρ st2
def evs (N : Env') : Es → Rho → Store → R (List Val)
  | .nil, _, st => .ok [] st
  | .cons e r, ρ, st => (ev N e ρ st).bind fun v st1 => (evs N r ρ st1).bind fun vs st2 => .ok (v :: vs) st2
def evKv (N : Env') : Kvs → Rho → Store → R (List Val × List Val)
  | .nil, _, st => .ok ([], []) st
  | .cons k v r, ρ, st => (ev N k ρ st).bind fun x st1 => (ev N v ρ st1).bind fun y st2 => (evKv N r ρ st2).bind fun p st3 => .ok (x :: p.1, y :: p.2) st3
def evTests (N : Env') : Es → Rho → Store → R Bool
  | .nil, _, st => .ok true st
  | .cons e .nil, ρ, st => (ev N e ρ st).bind fun v st1 => truthR v st1
  | _, _, _ => .no
def evIt (N : Env') : It → Rho → Store → R Items
  | .e a, ρ, st => (ev N a ρ st).bind fun v st1 => ofOpt (seqItems v st1) st1
  | .rng as, ρ, st => (evs N as ρ st).bind fun vs st1 => ofOpt (rngO vs) st1
  | .enum as, ρ, st => (evs N as ρ st).bind fun vs st1 => ofOpt (enumO vs st1) st1
  | .zip as, ρ, st => (evs N as ρ st).bind fun vs st1 => ofOpt (zipO vs st1) st1
  | .items a, ρ, st => (ev N a ρ st).bind fun v st1 => match v with
    | .d (.dict kvs) => .ok (kvs.map fun p => Val.d (.tuple [p.1, p.2]), none) st1
    | _ => .no
  | .values a, ρ, st => (ev N a ρ st).bind fun v st1 => match v with
    | .d (.dict kvs) => .ok (kvs.map fun p => Val.d p.2, none) st1
    | _ => .no
  | .rev a, ρ, st => (ev N a ρ st).bind fun v st1 => match v with
    | .d (.list xs) => .ok (xs.reverse.map Val.d, none) st1
    | _ => .no
def asg (N : Env') : Tg → Val → Rho → Store → R Rho
  | .name i, v, ρ, st => if i < ρ.length then .ok (ρ.set i (some v)) st else .no
  | .tup ts, v, ρ, st => match v with
    | .d (.tuple xs) => asgs N ts (xs.map Val.d) ρ st
    | _ => .no
  | .sub a i, v, ρ, st => (ev N a ρ st).bind fun o st1 => (ev N i ρ st1).bind fun k st2 => match setO o k v st2 with
    | some st3 => .ok ρ st3
    | none => .no
def asgs (N : Env') : Tgs → List Val → Rho → Store → R Rho
  | .nil, [], ρ, st => .ok ρ st
  | .cons t r, v :: vs, ρ, st => (asg N t v ρ st).bind fun ρ1 st1 => asgs N r vs ρ1 st1
  | _, _, _, _ => .no
end

/-! ### statements, defs -/
inductive Fl where
  | next (ρ : Rho)
  | ret (v : Val)
  | brk (ρ : Rho)
  | cont (ρ : Rho)
  | exc (e : Exn) (ρ : Rho)
/-- in a statement: an exception with the names as they are -/
def R.cat {α : Type} (r : R α) (ρ : Rho) (f : α → Store → R Fl) : R Fl := match r with
  | .ok a st => f a st
  | .exc e st => .ok (.exc e ρ) st
  | .no => .no
def R.noX : R Fl → R Fl
  | .exc _ _ => .no
  | r => r
def forL (f : Val → Rho → Store → R Fl) (g : Grd) : List Val → Rho → Store → R Fl
  | [], ρ, st => if g.ok st then .ok (.next ρ) st else .no
  | x :: r, ρ, st => if g.ok st then (f x ρ st).noX.bind fun fl st1 => match fl with
    | .next ρ1 => forL f g r ρ1 st1
    | .cont ρ1 => forL f g r ρ1 st1
    | .brk ρ1 => .ok (.next ρ1) st1
    | .ret v => .ok (.ret v) st1
    | .exc e ρ1 => .ok (.exc e ρ1) st1 else .no
def whL (c : Rho → Store → R Bool) (b : Rho → Store → R Fl) : Nat → Rho → Store → R Fl
  | 0, _, _ => .no
  | n + 1, ρ, st => (c ρ st).cat ρ fun k st1 => if k then (b ρ st1).noX.bind fun fl st2 => match fl with
    | .next ρ1 => whL c b n ρ1 st2
    | .cont ρ1 => whL c b n ρ1 st2
    | .brk ρ1 => .ok (.next ρ1) st2
    | .ret v => .ok (.ret v) st2
    | .exc e ρ1 => .ok (.exc e ρ1) st2 else .ok (.next ρ) st1
def fuelW : Nat := 1000000
def tst (N : Env') (e : E) : Rho → Store → R Bool := fun ρ st => (ev N e ρ st).bind fun v st1 => truthR v st1
mutual
def ex (N : Env') : S → Rho → Store → R Fl
  | .expr e, ρ, st => (ev N e ρ st).cat ρ fun _ st1 => .ok (.next ρ) st1
  | .asg t e, ρ, st => (ev N e ρ st).cat ρ fun v st1 => (asg N t v ρ st1).noExc.bind fun ρ1 st2 => .ok (.next ρ1) st2
  | .par i j a b, ρ, st => (ev N a ρ st).cat ρ fun v st1 => (ev N b ρ st1).cat ρ fun u st2 => if i < ρ.length ∧ j < ρ.length then .ok (.next ((ρ.set i (some v)).set j (some u))) st2 else .no
  | .par3 i j l a b c, ρ, st => (ev N a ρ st).cat ρ fun v st1 => (ev N b ρ st1).cat ρ fun u st2 => (ev N c ρ st2).cat ρ fun w st3 => if i < ρ.length ∧ j < ρ.length ∧ l < ρ.length then .ok (.next (((ρ.set i (some v)).set j (some u)).set l (some w))) st3 else .no
  | .parn ts es, ρ, st => (evs N es ρ st).cat ρ fun vs st1 => if vs.length ≤ sizeLine then (asgs N ts vs ρ st1).noExc.bind fun ρ1 st2 => .ok (.next ρ1) st2 else .no
  | .never, _, _ => .no
  | .aug i o e, ρ, st => match ρ[i]? with
    | some (some v) => (ev N e ρ st).cat ρ fun u st1 => match v, u with
      | .d (.int _), .d (.int _) => (R.ofO (binO o v u st1)).cat ρ fun z st2 => .ok (.next (ρ.set i (some z))) st2
      | _, _ => .no
    | _ => .no
  | .ret e, ρ, st => (ev N e ρ st).cat ρ fun v st1 => .ok (.ret v) st1
  | .retn, _, st => .ok (.ret (.d .none)) st
  | .ite c a b, ρ, st => (tst N c ρ st).cat ρ fun k st1 => if k then exs N a ρ st1 else exs N b ρ st1
  | .for_ t it b, ρ, st => (evIt N it ρ st).cat ρ fun p st1 => forL (fun x ρ1 st2 => (asg N t x ρ1 st2).noExc.bind fun ρ2 st3 => exs N b ρ2 st3) p.2 p.1 ρ st1
  | .while_ c b, ρ, st => whL (tst N c) (exs N b) fuelW ρ st
  | .brk, ρ, st => .ok (.brk ρ) st
  | .cont, ρ, st => .ok (.cont ρ) st
  | .pass, ρ, st => .ok (.next ρ) st
def exs (N : Env') : Ss → Rho → Store → R Fl
  | .nil, ρ, st => .ok (.next ρ) st
  | .cons s r, ρ, st => (ex N s ρ st).noX.bind fun fl st1 => match fl with
    | .next ρ1 => exs N r ρ1 st1
    | fl => .ok fl st1
end
def valOk (n : Nat) : Val → Bool
  | .loc k => decide (k < n)
  | _ => true
def cellOk (n : Nat) : Cell → Bool
  | .lst xs => xs.all (valOk n)
  | .dct kvs => kvs.all fun p => valOk n p.2
  | .dead => true
/-- what a def made for itself is forgotten when it is left -/
def leaveS (keep : Bool) (st0 : Store) (ok : Bool) (st : Store) : Option Store :=
  if keep = true ∨ st.length = st0.length then some st
  else if ok = true ∧ (st.take st0.length = st0 ∨ (st.take st0.length).all (cellOk st0.length) = true) then some (st.take st0.length)
  else none
def startR (n : Nat) (vs : List Val) : Rho := vs.map some ++ List.replicate (n - vs.length) none
def runFn (N : Env') (fn : Fn) (vs : List Val) (st : Store) : R Val :=
  if vs.length = fn.np then (exs N fn.body (startR fn.ns vs) st).noX.bind fun fl st1 => match fl with
    | .next _ => match leaveS fn.keep st true st1 with
      | some st2 => .ok (.d .none) st2
      | none => .no
    | .ret v => match leaveS fn.keep st (valOk st.length v) st1 with
      | some st2 => .ok v st2
      | none => .no
    | .exc e _ => match leaveS fn.keep st (e.flds.all fun p => valOk st.length p.2) st1 with
      | some st2 => .exc e st2
      | none => .no
    | _ => .no
  else .no
structure Prg where
  glob : List PyData
  fns : List Fn
def phi (P : Prg) : Nat → Nat → List Val → Store → R Val
  | 0, _, _, _ => .no
  | k + 1, f, vs, st => match P.fns[f]? with
    | some fn => runFn ⟨fun n => P.glob[n]?, phi P k⟩ fn vs st
    | none => .no
abbrev Prg.env (P : Prg) (k : Nat) : Env' := ⟨fun n => P.glob[n]?, phi P k⟩
end G
set_option Elab.async false
set_option linter.all false
set_option maxRecDepth 100000
/-! G0: truths among whole numbers -/
namespace G
open PySem PySem.Spec PyProof.Rows L2
section
variable {prog : Program} {w : World} {A : Around} {E : Value → Shared → Prop} {s : Shared}
theorem g_add_bi (a : Bool) (b : Int) (u : Tok) : Gives (Builtin.«int.__add__» ⟨[.bool a, .int b u], []⟩) (.int ((if a = true then (1 : Int) else 0) + b)) :=
  .of_wp fun M A E s Q h => by obtain ⟨hp, g, d, tk, os⟩ := s; wp_walk; exact ⟨_, rfl, h⟩
theorem g_sub_bi (a : Bool) (b : Int) (u : Tok) : Gives (Builtin.«int.__sub__» ⟨[.bool a, .int b u], []⟩) (.int ((if a = true then (1 : Int) else 0) - b)) :=
  .of_wp fun M A E s Q h => by obtain ⟨hp, g, d, tk, os⟩ := s; wp_walk; exact ⟨_, rfl, h⟩
theorem no_sub_ib : isSubtype (.type "int") (.type "bool") = pure false := by kernel_rfl
theorem refl_ib_sub : reflectedDiffers (.type "int") (.type "bool") "sub" = pure false := by
  unfold reflectedDiffers
  show (typeLookup (.type "bool") (dunderR "sub") >>= fun x => typeLookup (.type "int") (dunderR "sub") >>= fun y => pure (x.isSome && x != y)) = pure false
  rw [typeLookup_type, typeLookup_type, builtinLookup_eq_fast]; kernel_rfl





theorem sub_ib {a : Int} {t : Tok} {b : Bool} {Q : Value → Shared → Prop} (h : Q (.int (a - if b = true then (1 : Int) else 0) s.toks) { s with toks := s.toks + 1 }) : wpAny (model prog w) A (binaryOp .Sub (.int a t) (.bool b)) Q E s :=
  binaryOp_sub_gives (op := .Sub) (T := "int") (U := "bool") (by decide) (typeIs_int s a t) rfl F.fills_int_sub F.fills_bool_sub isSubtype_bool_int refl_ib_sub F.slot_int_sub F.entry_int_sub (F.args_int_sub_2 _ _) (AutoIntG7.int___sub___int_bool_0 a t b) trivial h
theorem add_bi {a : Bool} {b : Int} {u : Tok} {Q : Value → Shared → Prop} (h : Q (.int ((if a = true then (1 : Int) else 0) + b) s.toks) { s with toks := s.toks + 1 }) : wpAny (model prog w) A (binaryOp .Add (.bool a) (.int b u)) Q E s :=
  binaryOp_left_gives (op := .Add) (T := "bool") (U := "int") (by decide) rfl (fun s => typeIs_int s b u) F.fills_bool_add F.fills_int_add no_sub_ib F.slot_bool_add F.slot_int_radd F.entry_int_add (F.args_int_add_2 _ _) (g_add_bi a b u) trivial h
theorem sub_bi {a : Bool} {b : Int} {u : Tok} {Q : Value → Shared → Prop} (h : Q (.int ((if a = true then (1 : Int) else 0) - b) s.toks) { s with toks := s.toks + 1 }) : wpAny (model prog w) A (binaryOp .Sub (.bool a) (.int b u)) Q E s :=
  binaryOp_left_gives (op := .Sub) (T := "bool") (U := "int") (by decide) rfl (fun s => typeIs_int s b u) F.fills_bool_sub F.fills_int_sub no_sub_ib F.slot_bool_sub F.slot_int_rsub F.entry_int_sub (F.args_int_sub_2 _ _) (g_sub_bi a b u) trivial h
end
end G
set_option Elab.async false
set_option linter.all false
set_option maxRecDepth 100000
/-! GC: the operations, held against the machine -/
namespace G
open PySem PySem.Spec PyProof.Rows L2
section
variable {K : PySem.W.Frag} {H : Hp} {m : Mp} {x : V} {st : Store}
theorem inv_d {d : PyData} (h : Rep K H m x (.d d)) : RepD K H m x d := by cases h; assumption
theorem inv_int {i : Int} (h : Rep K H m x (.d (.int i))) : x = .int i := by cases inv_d h; rfl
theorem inv_str {i : Str} (h : Rep K H m x (.d (.str i))) : x = .str i := by cases inv_d h; rfl
theorem inv_bl {i : Bool} (h : Rep K H m x (.d (.bool i))) : x = .bl i := by cases inv_d h; rfl
theorem inv_non (h : Rep K H m x (.d .none)) : x = .non := by cases inv_d h; rfl
theorem inv_tup {ds : List PyData} (h : Rep K H m x (.d (.tuple ds))) : ∃ a xs, x = .ref a ∧ IsTp K H m a xs ∧ RepDs K H m xs ds := by cases inv_d h; exact ⟨_, _, rfl, by assumption, by assumption⟩
theorem inv_lst {ds : List PyData} (h : Rep K H m x (.d (.list ds))) : ∃ a xs, x = .ref a ∧ IsLs H m a xs ∧ RepDs K H m xs ds := by cases inv_d h; exact ⟨_, _, rfl, by assumption, by assumption⟩
theorem inv_dct {ds : List (PyData × PyData)} (h : Rep K H m x (.d (.dict ds))) : ∃ a xs, x = .ref a ∧ IsDk H m a xs ∧ RepKv K H m xs ds := by cases inv_d h; exact ⟨_, _, rfl, by assumption, by assumption⟩
theorem inv_scr {ns : List Int} (h : Rep K H m x (.scr ns)) : ∃ a, x = .ref a ∧ SqL K H a (ns.map V.int) := by
  cases h with
  | scr h => exact ⟨_, rfl, h.imp (fun ⟨o, h1, _⟩ => .inr ⟨o, h1⟩) id⟩
theorem RepDs.pair : ∀ {vs : List V} {ds : List PyData}, RepDs K H m vs ds → Paired (RepD K H m) vs ds
  | _, _, .nil => .nil
  | _, _, .cons h r => .cons h (RepDs.pair r)
theorem RepDs.of : ∀ {vs : List V} {ds : List PyData}, Paired (RepD K H m) vs ds → RepDs K H m vs ds
  | _, _, .nil => .nil
  | _, _, .cons h r => .cons h (RepDs.of r)
theorem reps_d : ∀ {vs : List V} {ds : List PyData}, RepDs K H m vs ds → Reps K H m vs (ds.map Val.d)
  | _, _, .nil => .nil
  | _, _, .cons h r => .cons (.d h) (reps_d r)
theorem repds_of : ∀ {vs : List V} {xs : List Val} {ds : List PyData}, Reps K H m vs xs → datas xs = some ds → RepDs K H m vs ds
  | _, _, _, .nil, e => by cases e; exact .nil
  | _, _, _, .cons (a := v) (b := x) h r, e => by
    cases x with
    | d y =>
      unfold datas at e
      obtain ⟨ds', e1, e2⟩ := Option.map_eq_some_iff.mp e
      subst e2
      exact .cons (inv_d h) (repds_of r e1)
    | _ => cases e
theorem rep_new_lst {p : Addr} {vs : List V} {ds : List PyData} (s : StRel K H m st) (hp : H p = none) (r : RepDs K H m vs ds) : Rep K (upd H p (.lst vs)) m (.ref p) (.d (.list ds)) :=
  .d (.lst ⟨upd_same, s.frz hp⟩ (r.stay (ext_of_le (le_upd hp)).stay))
theorem rep_new_tup {p : Addr} {vs : List V} {ds : List PyData} (s : StRel K H m st) (hp : H p = none) (r : RepDs K H m vs ds) : Rep K (upd H p (.tup vs)) m (.ref p) (.d (.tuple ds)) :=
  .d (.tup (.inl ⟨.inl upd_same, s.frz hp⟩) (r.stay (ext_of_le (le_upd hp)).stay))
theorem rep_ls (s : StRel K H m st) {v : Val} {xs : List Val} (h : Rep K H m x v) (e : lsOf st v = some xs) : ∃ p vs, x = .ref p ∧ H p = some (.lst vs) ∧ Reps K H m vs xs := by
  cases v with
  | d d =>
    cases d with
    | list ds =>
      obtain ⟨a, vs, ex, hl, r⟩ := inv_lst h
      cases e
      exact ⟨a, vs, ex, hl.1, reps_d r⟩
    | _ => cases e
  | scr ns => cases e
  | loc n =>
    cases h with
    | loc hn hv =>
      have e : (match st[n]? with | some (.lst xs) => some xs | _ => none) = some xs := e
      cases ec : st[n]? with
      | none => rw [ec] at e; cases e
      | some c =>
        rw [ec] at e
        cases c with
        | lst ys =>
          cases e
          cases el : m.ls[n]? with
          | none => exact absurd (List.getElem?_eq_none_iff.mp el) (by omega)
          | some o =>
            cases o with
            | none => rw [s.dead n el] at ec; cases ec
            | some a =>
              obtain ⟨vs, h1, h2⟩ := s.cell n a _ el ec
              exact ⟨a, vs, hv a el, h1, h2⟩
        | _ => cases e
theorem rep_lsd (s : StRel K H m st) {v : Val} {ds : List PyData} (h : Rep K H m x v) (e : lsDat st v = some ds) : ∃ p vs, x = .ref p ∧ H p = some (.lst vs) ∧ RepDs K H m vs ds := by
  obtain ⟨xs, e1, e2⟩ := Option.bind_eq_some_iff.mp e
  obtain ⟨p, vs, ex, hl, r⟩ := rep_ls s h e1
  exact ⟨p, vs, ex, hl, repds_of r e2⟩
theorem rep_sq (s : StRel K H m st) {v : Val} {xs : List Val} (h : Rep K H m x v) (e : sqOf st v = some xs) : ∃ p vs, x = .ref p ∧ (SqL K H p vs ∨ SqT K H p vs) ∧ Reps K H m vs xs := by
  unfold sqOf at e
  split at e
  · obtain ⟨a, vs, ex, hl, r⟩ := inv_tup h
    cases e
    exact ⟨a, vs, ex, .inr hl.sq, reps_d r⟩
  · obtain ⟨p, vs, ex, hl, r⟩ := rep_ls s h e
    exact ⟨p, vs, ex, .inl (.inl (.inl hl)), r⟩
theorem rep_ds (s : StRel K H m st) {v : Val} {ds : List PyData} (h : Rep K H m x v) (e : sqDat st v = some ds) : ∃ p vs, x = .ref p ∧ (SqL K H p vs ∨ SqT K H p vs) ∧ RepDs K H m vs ds := by
  obtain ⟨xs, e1, e2⟩ := Option.bind_eq_some_iff.mp e
  obtain ⟨p, vs, ex, hl, r⟩ := rep_sq s h e1
  exact ⟨p, vs, ex, hl, repds_of r e2⟩
end
theorem paired_get {α β : Type} {F : α → β → Prop} : ∀ {l : List α} {k : List β} {i : Nat} {b : β}, Paired F l k → k[i]? = some b → ∃ a, l[i]? = some a ∧ F a b
  | _, _, _, _, .nil, e => by simp at e
  | _, _, 0, _, .cons h _, e => by simp at e; subst e; exact ⟨_, rfl, h⟩
  | _, _, i + 1, _, .cons _ r, e => by
    obtain ⟨a, h1, h2⟩ := paired_get (i := i) r (by simpa using e)
    exact ⟨a, by simpa using h1, h2⟩
theorem paired_append {α β : Type} {F : α → β → Prop} : ∀ {l l' : List α} {k k' : List β}, Paired F l k → Paired F l' k' → Paired F (l ++ l') (k ++ k')
  | _, _, _, _, .nil, q => q
  | _, _, _, _, .cons h r, q => .cons h (paired_append r q)
theorem paired_take {α β : Type} {F : α → β → Prop} : ∀ (n : Nat) {l : List α} {k : List β}, Paired F l k → Paired F (l.take n) (k.take n)
  | 0, _, _, _ => .nil
  | _ + 1, _, _, .nil => .nil
  | n + 1, _, _, .cons h r => .cons h (paired_take n r)
theorem paired_drop {α β : Type} {F : α → β → Prop} : ∀ (n : Nat) {l : List α} {k : List β}, Paired F l k → Paired F (l.drop n) (k.drop n)
  | 0, _, _, q => q
  | _ + 1, _, _, .nil => .nil
  | n + 1, _, _, .cons _ r => paired_drop n r
theorem paired_set {α β : Type} {F : α → β → Prop} {a : α} {b : β} (h : F a b) : ∀ (n : Nat) {l : List α} {k : List β}, Paired F l k → Paired F (l.set n a) (k.set n b)
  | _, _, _, .nil => .nil
  | 0, _, _, .cons _ r => .cons h r
  | n + 1, _, _, .cons q r => .cons q (paired_set h n r)
theorem paired_erase {α β : Type} {F : α → β → Prop} : ∀ (n : Nat) {l : List α} {k : List β}, Paired F l k → Paired F (l.eraseIdx n) (k.eraseIdx n)
  | _, _, _, .nil => .nil
  | 0, _, _, .cons _ r => r
  | n + 1, _, _, .cons q r => .cons q (paired_erase n r)
theorem paired_rev {α β : Type} {F : α → β → Prop} {l : List α} {k : List β} (h : Paired F l k) : Paired F l.reverse k.reverse := by
  induction h with
  | nil => exact .nil
  | cons a _ ih => rw [List.reverse_cons, List.reverse_cons]; exact paired_append ih (.cons a .nil)
theorem paired_dropLast {α β : Type} {F : α → β → Prop} : ∀ {l : List α} {k : List β}, Paired F l k → Paired F l.dropLast k.dropLast
  | _, _, .nil => .nil
  | _, _, .cons _ .nil => .nil
  | _, _, .cons h (.cons h' r) => .cons h (paired_dropLast (.cons h' r))
theorem paired_rep {α β : Type} {F : α → β → Prop} {l : List α} {k : List β} (h : Paired F l k) : ∀ n : Nat, Paired F (List.replicate n l).flatten (List.replicate n k).flatten
  | 0 => .nil
  | n + 1 => by rw [List.replicate_succ, List.replicate_succ, List.flatten_cons, List.flatten_cons]; exact paired_append h (paired_rep h n)

/-- the place where one stands -/
structure Cok (X : Cx) : Prop where
  calm : X.calm = true
  nd : X.N.Nodup
  un : X.A.units + 200 < cLine
  gd : X.A.guards = some []
  sm : ∃ o, X.base.get? sysModules = some o
section
variable {g : Gx} {m : Mp} {H : Hp} {st : Store} {α β : Type} {k : β → Store → Mp → Hp → Prop}
theorem OutO.guard {c : Prop} [Decidable c] {r : Option (β × Store)} (h : OutO g m H (guard' c r) k) : c ∧ OutO g m H r k := by
  unfold guard' at h
  split at h
  · exact ⟨by assumption, h⟩
  · exact h.elim
theorem OutO.bind {o : Option α} {f : α → Option (β × Store)} (h : OutO g m H (o.bind f) k) : ∃ a, o = some a ∧ OutO g m H (f a) k := by
  cases o with
  | none => exact h.elim
  | some a => exact ⟨a, rfl, h⟩
end
/-! data that stand in the layer's heap are read so in the machine's -/
mutual
theorem RepD.reads {X : Cx} {pins : List (Addr × Obj)} {σ : L2.St} {H : Hp} {s : Shared} {m : Mp} (C : ∃ o, X.base.get? sysModules = some o) (I : Inv X pins σ H s) : ∀ (d : PyData) (v : V) (u : Value), RepD X.K H m v d → RelV v u → ∃ as, Reads s.heap u d as ∧ sysModules ∉ as
  | .none, _, _, h, r => by cases h; cases r; exact ⟨_, Reads.none, by simp⟩
  | .bool b, _, _, h, r => by cases h; cases r; exact ⟨_, Reads.bool b, by simp⟩
  | .int i, _, _, h, r => by cases h; obtain ⟨t, rfl⟩ := r; exact ⟨_, Reads.int i t, by simp⟩
  | .str x, _, _, h, r => by cases h; obtain ⟨t, rfl⟩ := r; exact ⟨_, Reads.str x t, by simp⟩
  | .list ds, _, _, h, r => by
    cases h with
    | @lst a xs _ hs ha =>
      cases r
      obtain ⟨_, its, n, rv, ho⟩ := (show ObjOk X.prog X.w H s.heap a (.lst xs) from I.hok a _ hs.1)
      obtain ⟨as, hr, hn⟩ := RepDs.reads C I ds _ its ha rv
      refine ⟨_, Reads.list ho rfl rfl hr, fun z => ?_⟩
      rcases List.mem_cons.mp z with e | z
      · obtain ⟨o, e2⟩ := C
        rw [e] at e2
        exact some_ne hs.1 (I.bs a o e2).2
      · exact hn z
  | .tuple ds, _, _, h, r => by
    cases h with
    | tup hs ha =>
      cases r
      obtain ⟨its, rv, ⟨o, ho, hc, n, hd⟩, _⟩ := I.tuple hs.sq
      obtain ⟨as, hr, hn⟩ := RepDs.reads C I ds _ its ha rv
      exact ⟨_, Reads.tuple ho hc hd hr, hn⟩
  | .dict kvs, _, _, h, r => by
    cases h with
    | @dct a es _ hs ha =>
      cases r
      obtain ⟨_, hx, vs, rv, o, des, ep, ho, hc, hd, _, hp, _⟩ := (show ObjOk X.prog X.w H s.heap a (.dK es) from I.hok a _ hs.1)
      obtain ⟨as, bs, r1, r2, n1, n2⟩ := RepKv.reads C I kvs es vs des.toList ha rv hp
      refine ⟨_, Reads.dict ho hc.1 hd r1 r2, fun z => ?_⟩
      have hx : ¬ a = sysModules := fun e => by rw [e] at hx; simp at hx
      rcases List.mem_append.mp z with z | z
      · rcases List.mem_cons.mp z with z | z
        · exact hx z.symm
        · exact n1 z
      · exact n2 z
theorem RepKv.reads {X : Cx} {pins : List (Addr × Obj)} {σ : L2.St} {H : Hp} {s : Shared} {m : Mp} (C : ∃ o, X.base.get? sysModules = some o) (I : Inv X pins σ H s) : ∀ (kvs : List (PyData × PyData)) (es : List (Key × V)) (vs : List (Key × Value)) (l : List DictEntry), RepKv X.K H m es kvs → KV es vs → Pairs (mixKind X.prog X.w) l vs →
    ∃ as bs, ReadsAll s.heap (l.map (·.key)) (kvs.map (·.1)) as ∧ ReadsAll s.heap (l.map (·.val)) (kvs.map (·.2)) bs ∧ sysModules ∉ as ∧ sysModules ∉ bs
  | [], _, _, _, h, r, p => by
    cases h
    cases r
    cases p
    exact ⟨_, _, ReadsAll.nil, ReadsAll.nil, by simp, by simp⟩
  | (kd, d) :: kvs, _, _, _, h, r, p => by
    cases h with
    | @cons k v es _ _ h1 h2 =>
      cases r with
      | cons r1 r2 =>
        cases p with
        | @cons e' _ _ _ p1 p2 p3 =>
          obtain ⟨as, bs, q1, q2, n1, n2⟩ := RepKv.reads C I kvs _ _ _ h2 r2 p3
          obtain ⟨e1, e2⟩ := r1
          obtain ⟨cs, q3, n3⟩ := RepD.reads C I d _ _ h1 e2
          have kr : ∃ ds, Reads s.heap e'.key (keyD k) ds ∧ ds = [] := by
            rcases keyIs_shape p1 with ⟨i, t, z1, z2⟩ | ⟨x, t, z1, z2⟩
            · rw [z2]
              have : k = .inl i := e1.trans z1
              rw [this]; exact ⟨_, Reads.int i t, rfl⟩
            · rw [z2]
              have : k = .inr x := e1.trans z1
              rw [this]; exact ⟨_, Reads.str x t, rfl⟩
          obtain ⟨ds, q4, rfl⟩ := kr
          refine ⟨_, _, ReadsAll.cons q4 q1, ReadsAll.cons (show Reads s.heap e'.val d cs by rw [p2]; exact q3) q2, by simpa using n1, fun z => ?_⟩
          exact (List.mem_append.mp z).elim n3 n2
theorem RepDs.reads {X : Cx} {pins : List (Addr × Obj)} {σ : L2.St} {H : Hp} {s : Shared} {m : Mp} (C : ∃ o, X.base.get? sysModules = some o) (I : Inv X pins σ H s) : ∀ (ds : List PyData) (vs : List V) (us : List Value), RepDs X.K H m vs ds → Vals vs us → ∃ as, ReadsAll s.heap us ds as ∧ sysModules ∉ as
  | [], _, _, h, r => by cases h; cases r; exact ⟨_, ReadsAll.nil, by simp⟩
  | d :: ds, _, _, h, r => by
    cases h with
    | cons h1 h2 =>
      cases r with
      | cons r1 r2 =>
        obtain ⟨as, q1, n1⟩ := RepD.reads C I d _ _ h1 r1
        obtain ⟨bs, q2, n2⟩ := RepDs.reads C I ds _ _ h2 r2
        exact ⟨_, ReadsAll.cons q1 q2, fun z => (List.mem_append.mp z).elim n1 n2⟩
end
section
variable {X : Cx}
abbrev gx (X : Cx) : Gx := ⟨X.K, X.mg⟩
abbrev GO (X : Cx) (f : Value → Value → Sem Value) (o : Op2) : Prop := OpR X f (rD2 (gx X) o)
theorem op_add_bi : OpR X (binaryOp .Add) (fun x y H Q => ∃ k i, x = .bl k ∧ y = .int i ∧ Q (.int (b2z k + i)) H) := by
  rintro pins s σ H x y v u Q I rx ry ⟨k, i, rfl, rfl, q⟩
  obtain ⟨t, rfl⟩ := ry
  cases rx
  exact add_bi ⟨.int (b2z k + i), H, I.tok _, ⟨_, rfl⟩, q⟩
theorem op_add_ib' : OpR X (binaryOp .Add) (fun x y H Q => ∃ i k, x = .int i ∧ y = .bl k ∧ Q (.int (i + b2z k)) H) := by
  rintro pins s σ H x y v u Q I rx ry ⟨i, k, rfl, rfl, q⟩
  obtain ⟨t, rfl⟩ := rx
  cases ry
  exact add_int_bool ⟨.int (i + b2z k), H, I.tok _, ⟨_, rfl⟩, q⟩
theorem op_sub_bi : OpR X (binaryOp .Sub) (fun x y H Q => ∃ k i, x = .bl k ∧ y = .int i ∧ Q (.int (b2z k - i)) H) := by
  rintro pins s σ H x y v u Q I rx ry ⟨k, i, rfl, rfl, q⟩
  obtain ⟨t, rfl⟩ := ry
  cases rx
  exact sub_bi ⟨.int (b2z k - i), H, I.tok _, ⟨_, rfl⟩, q⟩
theorem op_sub_ib : OpR X (binaryOp .Sub) (fun x y H Q => ∃ i k, x = .int i ∧ y = .bl k ∧ Q (.int (i - b2z k)) H) := by
  rintro pins s σ H x y v u Q I rx ry ⟨i, k, rfl, rfl, q⟩
  obtain ⟨t, rfl⟩ := rx
  cases ry
  exact sub_ib ⟨.int (i - b2z k), H, I.tok _, ⟨_, rfl⟩, q⟩
theorem so_add : GO X (binaryOp .Add) oAdd := by
  refine OpR.pick ?_
  rintro x y H Q ⟨m, st, a, b, s, ra, rb, o⟩
  unfold oAdd at o
  split at o
  · rw [inv_int ra, inv_int rb]
    exact ⟨_, op_add, _, _, rfl, rfl, OutO.here o s _ (.d (.int _))⟩
  · rw [inv_bl ra, inv_int rb]
    exact ⟨_, op_add_bi, _, _, rfl, rfl, OutO.here o s _ (.d (.int _))⟩
  · rw [inv_int ra, inv_bl rb]
    exact ⟨_, op_add_ib', _, _, rfl, rfl, OutO.here o s _ (.d (.int _))⟩
  · obtain ⟨hz, o⟩ := o.guard
    rw [inv_str ra, inv_str rb]
    exact ⟨_, op_add_str, _, _, rfl, rfl, hz, OutO.here o s _ (.d (.str _))⟩
  · obtain ⟨hz, o⟩ := o.guard
    obtain ⟨p, vs, e1, h1, r1⟩ := inv_tup ra
    obtain ⟨q, ws, e2, h2, r2⟩ := inv_tup rb
    subst e1 e2
    have l1 := r1.pair.length
    have l2 := r2.pair.length
    refine ⟨_, op_catA, _, _, vs, ws, rfl, rfl, h1.sq, h2.sq, by omega, fun e => ?_, fun _ e => ?_, fun _ _ z hz => OutO.fresh o s hz _ (rep_new_tup s hz (.of (paired_append r1.pair r2.pair)))⟩
    · subst e
      cases r1
      exact OutO.here o s _ rb
    · subst e
      cases r2
      rw [List.append_nil] at o
      exact OutO.here o s _ ra
  · obtain ⟨xs, ea, o⟩ := o.bind
    obtain ⟨ys, eb, o⟩ := o.bind
    obtain ⟨hz, o⟩ := o.guard
    obtain ⟨p, vs, e1, h1, r1⟩ := rep_lsd s ra ea
    obtain ⟨q, ws, e2, h2, r2⟩ := rep_lsd s rb eb
    subst e1 e2
    have l1 := r1.pair.length
    have l2 := r2.pair.length
    exact ⟨_, op_cat, _, _, vs, ws, rfl, rfl, h1, h2, by omega, fun z hz => OutO.fresh o s hz _ (rep_new_lst s hz (.of (paired_append r1.pair r2.pair)))⟩
theorem so_sub : GO X (binaryOp .Sub) oSub := by
  refine OpR.pick ?_
  rintro x y H Q ⟨m, st, a, b, s, ra, rb, o⟩
  unfold oSub at o
  split at o
  · rw [inv_int ra, inv_int rb]
    exact ⟨_, op_sub, _, _, rfl, rfl, OutO.here o s _ (.d (.int _))⟩
  · rw [inv_bl ra, inv_int rb]
    exact ⟨_, op_sub_bi, _, _, rfl, rfl, OutO.here o s _ (.d (.int _))⟩
  · rw [inv_int ra, inv_bl rb]
    exact ⟨_, op_sub_ib, _, _, rfl, rfl, OutO.here o s _ (.d (.int _))⟩
  · exact o.elim
theorem mul_str (x : Str) (k : Int) (h1 : -(2 ^ 63) ≤ k) (h2 : k < 2 ^ 63) (h3 : x.length * k.toNat ≤ sizeLine) : OpR X (binaryOp .Mult) (fun a b H Q => a = .str x ∧ b = .int k ∧ Q (.str ⟨(repL k x.cps.toList).toArray⟩) H) := by
  intro pins s σ H a b v u Q I rx ry h
  obtain ⟨rfl, rfl, q⟩ := h
  obtain ⟨t, rfl⟩ := rx
  obtain ⟨t', rfl⟩ := ry
  have e : Txt.mul x k = ⟨(repL k x.cps.toList).toArray⟩ := by
    unfold Txt.mul repL
    by_cases k1 : k < 1
    · rw [if_pos k1, show k.toNat = 0 by omega]; rfl
    · rw [if_neg k1]
      by_cases k2 : (k == 1 || x.length == 0) = true
      · rw [if_pos k2]
        rw [Bool.or_eq_true] at k2
        rcases k2 with k2 | k2
        · rw [eq_of_beq k2]
          simp
        · have hz : x.cps.toList = [] := by
            have q : x.cps.size = 0 := eq_of_beq k2
            simpa using q
          rw [hz]
          have : ∀ n : Nat, (List.replicate n ([] : List Nat)).flatten = [] := fun n => by induction n with
            | zero => rfl
            | succ n ih => rw [List.replicate_succ, List.flatten_cons, ih]; rfl
          obtain ⟨cps⟩ := x
          have hz : cps.toList = [] := hz
          rw [this]
          congr 1
          rw [← Array.toArray_toList (xs := cps), hz]
      · rw [if_neg k2]
        congr 1
        have : ∀ (n : Nat) (acc : Array Nat), ((List.replicate n x.cps).foldl (· ++ ·) acc) = acc ++ ((List.replicate n x.cps.toList).flatten).toArray := fun n => by
          induction n with
          | zero => intro acc; simp
          | succ n ih =>
            intro acc
            rw [List.replicate_succ, List.foldl_cons, ih, List.replicate_succ, List.flatten_cons]
            apply Array.toList_inj.mp
            simp
        rw [this]
        simp
  refine PySem.SB.mul ⟨by simp; omega, fun k1 k2 => ?_, fun k1 k2 => ?_⟩ fun t2 k2 => ⟨.str _, H, I.tok _, ⟨t2, by rw [e]⟩, q⟩
  · intro hgt
    have hk : 0 < k := by omega
    have h4 : (2 ^ 63 - 1 : Int) < (x.length : Int) * k := by
      have := Int.lt_mul_of_ediv_lt hk hgt
      exact this
    have h5 : (x.length : Int) * k = ((x.length * k.toNat : Nat) : Int) := by
      rw [Int.natCast_mul, Int.toNat_of_nonneg (by omega)]
    rw [h5] at h4
    rw [sizeLine_eq] at h3
    omega
  · unfold PySem.Builtin.Str.tooLong
    simp
    exact h3
theorem so_mul : GO X (binaryOp .Mult) oMul := by
  refine OpR.pick ?_
  rintro x y H Q ⟨m, st, a, b, s, ra, rb, o⟩
  unfold oMul at o
  split at o
  · obtain ⟨hz, o⟩ := o.guard
    rw [inv_int ra, inv_int rb]
    exact ⟨_, op_mulW, _, _, rfl, rfl, hz, OutO.here o s _ (.d (.int _))⟩
  · obtain ⟨⟨h1, h2, h3⟩, o⟩ := o.guard
    rw [inv_str ra, inv_int rb]
    exact ⟨_, mul_str _ _ h1 h2 h3, rfl, rfl, OutO.here o s _ (.d (.str _))⟩
  · obtain ⟨⟨hz, h2, h3, h4⟩, o⟩ := o.guard
    obtain ⟨p, vs, e1, h1, r1⟩ := inv_tup ra
    subst e1
    rw [inv_int rb]
    have l1 := r1.pair.length
    refine ⟨_, op_repT, _, _, vs, rfl, rfl, h1.sq, fun e => ?_, h2, h3, by omega, fun z hz => OutO.fresh o s hz _ (rep_new_tup s hz (.of (paired_rep r1.pair _)))⟩
    subst e
    cases r1
    exact hz rfl
  · obtain ⟨⟨h2, h3, h4⟩, o⟩ := o.guard
    obtain ⟨p, vs, e1, h1, r1⟩ := inv_lst ra
    subst e1
    rw [inv_int rb]
    have l1 := r1.pair.length
    exact ⟨_, op_rep, _, _, vs, rfl, rfl, h1.1, h2, h3, by rw [l1]; exact h4, fun z hz => OutO.fresh o s hz _ (rep_new_lst s hz (.of (paired_rep r1.pair _)))⟩
  · exact o.elim
theorem so_mod : GO X (binaryOp .Mod) oMod := by
  refine OpR.pick ?_
  rintro x y H Q ⟨m, st, a, b, s, ra, rb, o⟩
  unfold oMod at o
  split at o
  · obtain ⟨hz, o⟩ := o.guard
    rw [inv_int ra, inv_int rb]
    exact ⟨_, op_mod, _, _, rfl, rfl, hz, OutO.here o s _ (.d (.int _))⟩
  · exact o.elim
theorem so_fdiv : GO X (binaryOp .FloorDiv) oFdiv := by
  refine OpR.pick ?_
  rintro x y H Q ⟨m, st, a, b, s, ra, rb, o⟩
  unfold oFdiv at o
  split at o
  · obtain ⟨hz, o⟩ := o.guard
    rw [inv_int ra, inv_int rb]
    exact ⟨_, op_fdivW, _, _, rfl, rfl, hz, OutO.here o s _ (.d (.int _))⟩
  · exact o.elim
theorem so_pow : GO X (binaryOp .Pow) oPow := by
  refine OpR.pick ?_
  rintro x y H Q ⟨m, st, a, b, s, ra, rb, o⟩
  unfold oPow at o
  split at o
  · obtain ⟨hz, o⟩ := o.guard
    rw [inv_int ra, inv_int rb]
    exact ⟨_, op_pow, _, _, rfl, rfl, hz, OutO.here o s _ (.d (.int _))⟩
  · exact o.elim
theorem so_shr : GO X (binaryOp .RShift) oShr := by
  refine OpR.pick ?_
  rintro x y H Q ⟨m, st, a, b, s, ra, rb, o⟩
  unfold oShr at o
  split at o
  · obtain ⟨hz, o⟩ := o.guard
    rw [inv_int ra, inv_int rb]
    exact ⟨_, op_shr, _, _, rfl, rfl, hz, OutO.here o s _ (.d (.int _))⟩
  · exact o.elim
theorem so_band : GO X (binaryOp .BitAnd) oBand := by
  refine OpR.pick ?_
  rintro x y H Q ⟨m, st, a, b, s, ra, rb, o⟩
  unfold oBand at o
  split at o
  · rw [inv_int ra, inv_int rb]
    exact ⟨_, op_and, _, _, rfl, rfl, OutO.here o s _ (.d (.int _))⟩
  · exact o.elim
end
end G
set_option Elab.async false
set_option linter.all false
set_option maxRecDepth 100000
/-! GD: comparisons, subscripts, slices, isinstance -/
namespace G
open PySem PySem.Spec PyProof.Rows L2
section
variable {X : Cx}
theorem dat_reads {pins : List (Addr × Obj)} {σ : L2.St} {H : Hp} {s : Shared} {m : Mp} {st : Store} (C : Cok X) (I : Inv X pins σ H s) (S : StRel X.K H m st) {v : Val} {d : PyData} {x : V} {u : Value} (h : Rep X.K H m x v) (e : datOf st v = some d) (r : RelV x u) :
    ∃ as, Reads s.heap u d as ∧ sysModules ∉ as := by
  cases v with
  | d y => cases e; exact RepD.reads C.sm I _ x u (inv_d h) r
  | scr ns => cases e
  | loc n =>
    have e : (match st[n]? with | some (.lst xs) => (datas xs).map PyData.list | _ => none) = some d := e
    have e2 : ∃ xs ds, lsOf st (.loc n) = some xs ∧ datas xs = some ds ∧ d = .list ds := by
      cases ec : st[n]? with
      | none => rw [ec] at e; cases e
      | some c =>
        rw [ec] at e
        cases c with
        | lst ys =>
          obtain ⟨ds, h1, h2⟩ := Option.map_eq_some_iff.mp e
          exact ⟨ys, ds, by show (match st[n]? with | some (.lst xs) => some xs | _ => none) = some ys; rw [ec], h1, h2.symm⟩
        | _ => cases e
    obtain ⟨xs, ds, h1, h2, rfl⟩ := e2
    obtain ⟨p, vs, rfl, hl, rr⟩ := rep_ls S h h1
    cases r
    obtain ⟨_, its, n, rv, ho⟩ := (show ObjOk X.prog X.w H s.heap p (.lst vs) from I.hok p _ hl)
    obtain ⟨as, hr, hn⟩ := RepDs.reads C.sm I ds _ its (repds_of rr h2) rv
    refine ⟨_, Reads.list ho rfl rfl hr, fun z => ?_⟩
    rcases List.mem_cons.mp z with e | z
    · obtain ⟨o, e2⟩ := C.sm
      rw [e] at e2
      exact some_ne hl (I.bs p o e2).2
    · exact hn z
theorem readsAll_len {h : Heap} : ∀ (xs : List PyData) (vs : List Value) (as : List Addr), ReadsAll h vs xs as → vs.length = xs.length
  | [], _, _, r => by cases r; rfl
  | _ :: xs, _, _, r => by
    cases r with
    | cons _ r => rw [List.length_cons, List.length_cons, readsAll_len xs _ _ r]
theorem range0 (xs : List PyData) : ((List.range 0).all (fun _ => true) && xs.length == 0) = xs.isEmpty := by cases xs <;> simp
theorem range0n (xs : List PyData) : (!((List.range 0).all (fun _ => true) && xs.length == 0)) = !xs.isEmpty := by rw [range0]
/-- x == y by its value -/
def rEqG (X : Cx) (neg : Bool) : R2 := fun x y H Q => ∃ m st a b k, StRel X.K H m st ∧ Rep X.K H m x a ∧ Rep X.K H m y b ∧ eqV' st a b = some k ∧ Q (.bl (if neg then !k else k)) H
theorem eqv_empty (xs : List PyData) : PyData.eqv (.tuple xs) (.tuple []) = xs.isEmpty := by
  cases xs <;> simp [PyData.eqv, PyData.eqvAll]
theorem op_eqG (C : Cok X) : OpR X (compareOp .Eq) (rEqG X false) := by
  intro pins s σ H x y v u Q I rx ry h
  obtain ⟨m, st, a, b, k, S, ra, rb, e, q⟩ := h
  unfold eqV' at e
  cases ea : datOf st a with
  | none => simp only [ea] at e; cases e
  | some d =>
    cases eb : datOf st b with
    | none => simp only [ea, eb] at e; cases e
    | some d' =>
      simp only [ea, eb] at e
      obtain ⟨as, r1, _⟩ := dat_reads C I S ra ea rx
      obtain ⟨bs, r2, _⟩ := dat_reads C I S rb eb ry
      have hu := C.un
      unfold eqO at e
      split at e
      · rename_i hc
        cases e
        refine SeqAt.eq_plain r1 r2 hc.1 hc.2.1 ?_ ⟨.bl _, H, I, rfl, q⟩
        have := Nat.min_le_left d.depth d'.depth
        omega
      · split at e
        · cases e
          cases r1 with
          | @tuple l o vs n xs as₁ h1 h2 h3 h4 =>
            cases r2 with
            | @tuple l' o' vs' n' ys bs₁ k1 k2 k3 k4 =>
              have n1 := readsAll_len _ _ _ h4
              rw [Array.length_toList] at n1
              have n2 : vs'.size = 0 := by simpa using readsAll_len _ _ _ k4
              refine SeqAt.RcAt.tuples (e := fun _ => true) ⟨_, h1, h2, _, h3⟩ ⟨_, k1, k2, _, k3⟩ (by omega) (fun j _ j2 => absurd j2 (by omega)) X.prog X.w _ _ ⟨.bl _, H, I, ?_, q⟩
              show Value.bool _ = Value.bool _
              congr 1
              rw [n2, Nat.min_zero, n1]
              exact range0 _
        · split at e
          · rename_i hne
            cases e
            cases r1 with
            | list h1 h2 h3 h4 =>
              cases r2 with
              | list k1 k2 k3 k4 =>
                have n1 := readsAll_len _ _ _ h4
                have n2 := readsAll_len _ _ _ k4
                refine SeqAt.RcAt.lists_lengths ⟨_, h1, h2, _, h3⟩ ⟨_, k1, k2, _, k3⟩ ?_ (by omega) X.prog X.w _ _ ⟨.bl _, H, I, rfl, q⟩
                simp only [Array.length_toList] at n1 n2
                simp only [bne_iff_ne, ne_eq]
                omega
          · cases e
        · cases e
theorem op_neG (C : Cok X) : OpR X (compareOp .NotEq) (rEqG X true) := by
  intro pins s σ H x y v u Q I rx ry h
  obtain ⟨m, st, a, b, k, S, ra, rb, e, q⟩ := h
  unfold eqV' at e
  cases ea : datOf st a with
  | none => simp only [ea] at e; cases e
  | some d =>
    cases eb : datOf st b with
    | none => simp only [ea, eb] at e; cases e
    | some d' =>
      simp only [ea, eb] at e
      obtain ⟨as, r1, _⟩ := dat_reads C I S ra ea rx
      obtain ⟨bs, r2, _⟩ := dat_reads C I S rb eb ry
      have hu := C.un
      unfold eqO at e
      split at e
      · rename_i hc
        cases e
        refine SeqAt.ne_plain r1 r2 hc.1 hc.2.1 ?_ ⟨.bl _, H, I, rfl, q⟩
        have := Nat.min_le_left d.depth d'.depth
        omega
      · split at e
        · cases e
          cases r1 with
          | @tuple l o vs n xs as₁ h1 h2 h3 h4 =>
            cases r2 with
            | @tuple l' o' vs' n' ys bs₁ k1 k2 k3 k4 =>
              have n1 := readsAll_len _ _ _ h4
              rw [Array.length_toList] at n1
              have n2 : vs'.size = 0 := by simpa using readsAll_len _ _ _ k4
              refine SeqAt.RcNeAt.tuples (e := fun _ => true) ⟨_, h1, h2, _, h3⟩ ⟨_, k1, k2, _, k3⟩ (by omega) (fun j _ j2 => absurd j2 (by omega)) X.prog X.w _ _ ⟨.bl _, H, I, ?_, q⟩
              show Value.bool _ = Value.bool _
              congr 1
              rw [n2, Nat.min_zero, n1]
              exact range0n _
        · split at e
          · rename_i hne
            cases e
            cases r1 with
            | list h1 h2 h3 h4 =>
              cases r2 with
              | list k1 k2 k3 k4 =>
                have n1 := readsAll_len _ _ _ h4
                have n2 := readsAll_len _ _ _ k4
                refine SeqAt.RcNeAt.lists_lengths ⟨_, h1, h2, _, h3⟩ ⟨_, k1, k2, _, k3⟩ ?_ (by omega) X.prog X.w _ _ ⟨.bl _, H, I, rfl, q⟩
                simp only [Array.length_toList] at n1 n2
                simp only [bne_iff_ne, ne_eq]
                omega
          · cases e
        · cases e

abbrev rB (p : V → V → Option Bool) : R2 := fun x y H Q => ∃ k, p x y = some k ∧ Q (.bl k) H
theorem OutO.bl' {g : Gx} {m : Mp} {H : Hp} {st : Store} {k : Bool} {Q : VK} (s : StRel g.K H m st) (o : OutO g m H (bl st k) fun z _ m' H' => ∀ v, Rep g.K H' m' v z → Q v H') : Q (.bl k) H := OutO.here o s _ (.d (.bl k))
theorem so_eq (C : Cok X) : GO X (compareOp .Eq) (cmpO .eq) := by
  refine OpR.pick ?_
  rintro x y H Q ⟨m, st, a, b, s, ra, rb, o⟩
  obtain ⟨k, e, o⟩ := OutO.bind o
  exact ⟨_, op_eqG C, m, st, a, b, k, s, ra, rb, e, OutO.bl' s o⟩
theorem so_ne (C : Cok X) : GO X (compareOp .NotEq) (cmpO .ne) := by
  refine OpR.pick ?_
  rintro x y H Q ⟨m, st, a, b, s, ra, rb, o⟩
  obtain ⟨k, e, o⟩ := OutO.bind o
  exact ⟨_, op_neG C, m, st, a, b, k, s, ra, rb, e, OutO.bl' s o⟩
theorem so_lt : GO X (compareOp .Lt) (cmpO .lt) := by
  refine OpR.pick ?_
  rintro x y H Q ⟨m, st, a, b, s, ra, rb, o⟩
  obtain ⟨k, e, o⟩ := OutO.bind o
  have q := OutO.bl' s o
  unfold ltO at e
  split at e
  · cases e
    rw [inv_int ra, inv_int rb]
    exact ⟨_, op_lt, _, _, rfl, rfl, q⟩
  · cases e
    rw [inv_str ra, inv_str rb]
    exact ⟨_, op_lt_str, _, _, rfl, rfl, q⟩
  · cases e
theorem so_gt : GO X (compareOp .Gt) (cmpO .gt) := by
  refine OpR.pick ?_
  rintro x y H Q ⟨m, st, a, b, s, ra, rb, o⟩
  obtain ⟨k, e, o⟩ := OutO.bind o
  have q := OutO.bl' s o
  unfold ltO at e
  split at e
  · cases e
    rw [inv_int ra, inv_int rb]
    exact ⟨_, op_gt, _, _, rfl, rfl, q⟩
  · cases e
    rw [inv_str ra, inv_str rb]
    exact ⟨_, op_gt_str, _, _, rfl, rfl, q⟩
  · cases e
theorem so_le : GO X (compareOp .LtE) (cmpO .le) := by
  refine OpR.pick ?_
  rintro x y H Q ⟨m, st, a, b, s, ra, rb, o⟩
  obtain ⟨k, e, o⟩ := OutO.bind o
  have q := OutO.bl' s o
  unfold leO at e
  split at e
  · cases e
    rw [inv_int ra, inv_int rb]
    exact ⟨_, op_le, _, _, rfl, rfl, q⟩
  · cases e
    rw [inv_str ra, inv_str rb]
    exact ⟨_, op_le_str, _, _, rfl, rfl, q⟩
  · cases e
theorem so_ge : GO X (compareOp .GtE) (cmpO .ge) := by
  refine OpR.pick ?_
  rintro x y H Q ⟨m, st, a, b, s, ra, rb, o⟩
  obtain ⟨k, e, o⟩ := OutO.bind o
  have q := OutO.bl' s o
  unfold leO at e
  split at e
  · cases e
    rw [inv_int ra, inv_int rb]
    exact ⟨_, op_ge, _, _, rfl, rfl, q⟩
  · cases e
    rw [inv_str ra, inv_str rb]
    exact ⟨_, op_ge_str, _, _, rfl, rfl, q⟩
  · cases e
theorem rep_non {K : PySem.W.Frag} {H : Hp} {m : Mp} {x : V} {d : PyData} (h : RepD K H m x d) : decide (x = .non) = decide (d = .none) := by
  cases h <;> simp
theorem so_is : GO X (compareOp .Is) (cmpO .is) := by
  refine OpR.pick ?_
  rintro x y H Q ⟨m, st, a, b, s, ra, rb, o⟩
  obtain ⟨k, e, o⟩ := OutO.bind o
  have q := OutO.bl' s o
  unfold isO at e
  split at e
  · cases e
    rw [inv_non rb]
    exact ⟨_, op_isN, rfl, by rw [rep_non (inv_d ra)]; exact q⟩
  · cases e
    rw [inv_bl ra, inv_bl rb]
    exact ⟨_, op_is_bl, _, _, rfl, rfl, q⟩
  · cases e
theorem so_isnot : GO X (compareOp .IsNot) (cmpO .isnot) := by
  refine OpR.pick ?_
  rintro x y H Q ⟨m, st, a, b, s, ra, rb, o⟩
  obtain ⟨k, e, o⟩ := OutO.bind o
  have q := OutO.bl' s o
  unfold isO at e
  split at e
  · cases e
    rw [inv_non rb]
    exact ⟨_, op_notN, rfl, by rw [rep_non (inv_d ra)]; exact q⟩
  · cases e
    rw [inv_bl ra, inv_bl rb]
    exact ⟨_, op_isnot_bl, _, _, rfl, rfl, q⟩
  · cases e
/-! ### dicts -/
theorem repKv_e {K : PySem.W.Frag} {H : Hp} {m : Mp} : ∀ {es : List (Key × V)} {kvs : List (PyData × PyData)}, RepKv K H m es kvs → RepE K H m es (kvs.map fun p => (p.1, Val.d p.2))
  | _, _, .nil => .nil
  | _, _, .cons h r => .cons ⟨rfl, .d h⟩ (repKv_e r)
theorem rep_dc {K : PySem.W.Frag} {H : Hp} {m : Mp} {x : V} {st : Store} (s : StRel K H m st) {v : Val} {kvs : List (PyData × Val)} (h : Rep K H m x v) (e : dcOf st v = some kvs) : ∃ p es, x = .ref p ∧ H p = some (.dK es) ∧ RepE K H m es kvs := by
  cases v with
  | d d =>
    cases d with
    | dict ds =>
      obtain ⟨a, vs, ex, hl, r⟩ := inv_dct h
      cases e
      exact ⟨a, vs, ex, hl.1, repKv_e r⟩
    | _ => cases e
  | scr ns => cases e
  | loc n =>
    cases h with
    | loc hn hv =>
      have e : (match st[n]? with | some (.dct kvs) => some kvs | _ => none) = some kvs := e
      cases ec : st[n]? with
      | none => rw [ec] at e; cases e
      | some c =>
        rw [ec] at e
        cases c with
        | dct ys =>
          cases e
          cases el : m.ls[n]? with
          | none => exact absurd (List.getElem?_eq_none_iff.mp el) (by omega)
          | some o =>
            cases o with
            | none => rw [s.dead n el] at ec; cases ec
            | some a =>
              obtain ⟨vs, h1, h2⟩ := s.cell n a _ el ec
              exact ⟨a, vs, hv a el, h1, h2⟩
        | _ => cases e
theorem keyD_inj {a b : Key} (h : keyD a = keyD b) : a = b := by
  cases a <;> cases b <;> simp_all [keyD]
theorem rep_find {K : PySem.W.Frag} {H : Hp} {m : Mp} {k : Key} : ∀ {es : List (Key × V)} {kvs : List (PyData × Val)}, RepE K H m es kvs → (valV es k = none ∧ findK kvs (keyD k) = none) ∨ ∃ v x, valV es k = some v ∧ findK kvs (keyD k) = some x ∧ Rep K H m v x
  | _, _, .nil => .inl ⟨rfl, rfl⟩
  | (j, v) :: es, (d, x) :: kvs, .cons h r => by
    have h1 : keyD j = d := h.1
    have ih := rep_find (k := k) r
    by_cases e : j = k
    · subst e
      right
      refine ⟨v, x, ?_, ?_, h.2⟩
      · simp [valV]
      · show (if d = keyD j then some x else _) = some x
        rw [if_pos h1.symm]
    · have e2 : ¬ d = keyD k := fun z => e (keyD_inj (h1.trans z))
      have w1 : valV ((j, v) :: es) k = valV es k := by simp [valV, e]
      have w2 : findK ((d, x) :: kvs) (keyD k) = findK kvs (keyD k) := by
        show (if d = keyD k then some x else _) = _
        rw [if_neg e2]
      rw [w1, w2]
      exact ih
theorem key_of' {K : PySem.W.Frag} {H : Hp} {m : Mp} {y : V} {d : PyData} (h : RepD K H m y d) (hk : isKey d = true) : ∃ k, keyD k = d ∧ y = kV k := by
  cases h with
  | int i => exact ⟨.inl i, rfl, rfl⟩
  | str i => exact ⟨.inr i, rfl, rfl⟩
  | _ => cases hk
theorem op_dIn (hu : X.A.units + 1 < cLine) (neg : Bool) : OpR X (compareOp (if neg then .NotIn else .In)) (fun y x H Q => ∃ a o, x = .ref a ∧ DGet H a y o ∧ Q (.bl (if neg then !o.isSome else o.isSome)) H) := by
  intro pins s σ H y x v u Q I ry rx h
  obtain ⟨a, o, rfl, g, q⟩ := h
  cases rx
  cases neg with
  | false => exact d_in hu I g ry fun s3 I3 => ⟨.bl _, H, I3, rfl, q⟩
  | true => exact d_notIn hu I g ry fun s3 I3 => ⟨.bl _, H, I3, rfl, q⟩
def rInG (X : Cx) (neg : Bool) : R2 := fun x y H Q => ∃ m st d b ds k, StRel X.K H m st ∧ RepD X.K H m x d ∧ Rep X.K H m y b ∧ sqDat st b = some ds ∧ inO d ds = some k ∧ Q (.bl (if neg then !k else k)) H
theorem op_inG (C : Cok X) (neg : Bool) : OpR X (compareOp (if neg then .NotIn else .In)) (rInG X neg) := by
  intro pins s σ H x y v u Q I rx ry h
  obtain ⟨m, st, d, b, ds, k, S, ra, rb, e, ek, q⟩ := h
  obtain ⟨as, r1, _⟩ := RepD.reads C.sm I _ _ _ ra rx
  obtain ⟨p, vs, rfl, hp, rd⟩ := rep_ds S rb e
  cases ry
  have hu := C.un
  unfold inO at ek
  split at ek
  · rename_i hc
    cases ek
    have hm := Nat.min_le_right (PyData.depthAll ds) d.depth
    rcases hp with hp | hp
    · obtain ⟨its, rv, ⟨o, n, ho, hc1, _, hd⟩, _⟩ := I.list hp
      obtain ⟨bs, hr, _⟩ := RepDs.reads C.sm I ds _ its rd rv
      cases neg with
      | false => exact SeqAt.in_list_data (Reads.list ho hc1 hd hr) r1 hc.2.2.1 hc.1 (by omega) ⟨.bl _, H, I, rfl, q⟩
      | true => exact SeqAt.notIn_list_data (Reads.list ho hc1 hd hr) r1 hc.2.2.1 hc.1 (by omega) ⟨.bl _, H, I, rfl, q⟩
    · obtain ⟨its, rv, ⟨o, ho, hc1, n, hd⟩, _⟩ := I.tuple hp
      obtain ⟨bs, hr, _⟩ := RepDs.reads C.sm I ds _ its rd rv
      cases neg with
      | false => exact SeqAt.in_tuple_data (Reads.tuple ho hc1 hd hr) r1 hc.2.2.1 hc.1 (by omega) ⟨.bl _, H, I, rfl, q⟩
      | true => exact SeqAt.notIn_tuple_data (Reads.tuple ho hc1 hd hr) r1 hc.2.2.1 hc.1 (by omega) ⟨.bl _, H, I, rfl, q⟩
  · cases ek
theorem so_inB (C : Cok X) (neg : Bool) : GO X (compareOp (if neg then .NotIn else .In)) (fun a b st => (isInO a b st).bind fun k => bl st (if neg then !k else k)) := by
  refine OpR.pick ?_
  rintro x y H Q ⟨m, st, a, b, s, ra, rb, o⟩
  obtain ⟨k, e, o⟩ := OutO.bind o
  have q := OutO.bl' s o
  have hu := C.un
  unfold isInO at e
  split at e
  · cases e
    rw [inv_str ra, inv_str rb]
    cases neg with
    | false => exact ⟨_, op_in_str, _, _, rfl, rfl, q⟩
    | true => exact ⟨_, op_notin_str, _, _, rfl, rfl, q⟩
  · split at e
    · obtain ⟨kvs, e1, e2⟩ := Option.bind_eq_some_iff.mp e
      unfold guard' at e2
      split at e2
      · rename_i hk
        cases e2
        obtain ⟨p, es, rfl, hp, r⟩ := rep_dc s rb e1
        obtain ⟨kk, rfl, rfl⟩ := key_of' (inv_d ra) hk
        refine ⟨_, op_dIn (by omega) neg, p, valV es kk, rfl, DGet.k hp, ?_⟩
        rcases rep_find (k := kk) r with ⟨h1, h2⟩ | ⟨v, x, h1, h2, _⟩
        · rw [h1]; rw [h2] at q; exact q
        · rw [h1]; rw [h2] at q; exact q
      · cases e2
    · obtain ⟨ds, e1, e2⟩ := Option.bind_eq_some_iff.mp e
      exact ⟨_, op_inG C neg, m, st, _, b, ds, k, s, inv_d ra, rb, e1, e2, q⟩
  · cases e
theorem so_in (C : Cok X) : GO X (compareOp .In) (cmpO .isin) := so_inB C false
theorem so_notin (C : Cok X) : GO X (compareOp .NotIn) (cmpO .notin) := so_inB C true
end
end G
set_option Elab.async false
set_option linter.all false
set_option maxRecDepth 100000
/-! GE: subscripts, slices, isinstance, built-in functions and methods -/
namespace G
open PySem PySem.Spec PyProof.Rows L2
section
variable {X : Cx}
theorem IxR.pick {r : R2} (h : ∀ x y H Q, r x y H Q → ∃ r', IxR X r' ∧ r' x y H Q) : IxR X r := fun value slice pins s σ H x y v u Q I rx ry q hs =>
  let ⟨_, h1, h2⟩ := h x y H Q q; h1 value slice pins s σ H x y v u Q I rx ry h2 hs
theorem SlR.pick {r : V → Option Int → Option Int → Hp → VK → Prop} (h : ∀ x lo hi H Q, r x lo hi H Q → ∃ r', SlR X r' ∧ r' x lo hi H Q) : SlR X r := fun pins s σ H x v vl vu lo hi sl Q I rx hs p1 p2 q =>
  let ⟨_, h1, h2⟩ := h x lo hi H Q q; h1 pins s σ H x v vl vu lo hi sl Q I rx hs p1 p2 h2
theorem MtR.pick {id : String} {r : V → List V → Hp → VK → Prop} (h : ∀ x xs H Q, r x xs H Q → ∃ r', MtR X id r' ∧ r' x xs H Q) : MtR X id r := fun pins s σ H x xs v us Q I rx rs q =>
  let ⟨_, h1, h2⟩ := h x xs H Q q; h1 pins s σ H x xs v us Q I rx rs h2
theorem atI_pair {α β : Type} {F : α → β → Prop} {l : List α} {k : List β} {i : Int} {b : β} (h : Paired F l k) (e : atI k i = some b) : ∃ a, atI l i = some a ∧ F a b := by
  unfold atI at e ⊢
  obtain ⟨j, e1, e2⟩ := Option.bind_eq_some_iff.mp e
  obtain ⟨a, h1, h2⟩ := paired_get h e2
  exact ⟨a, by rw [h.length, e1]; exact h1, h2⟩
theorem ix_dict (hu : X.A.units + 1 < cLine) : IxR X (fun x y H Q => ∃ a v, x = .ref a ∧ DGet H a y (some v) ∧ Q v H) := by
  intro value slice pins s σ H x y v u Q I rx ry h hs
  obtain ⟨a, w', rfl, g, q⟩ := h
  cases rx
  exact tail_any (dict_typeIs I g) slot_dict_getitem.lookup (d_getItem hu I g ry fun w2 s' I' r => ⟨w', H, I', r, q⟩) hs
theorem so_ix (C : Cok X) : IxR X (rD2 (gx X) oIx) := by
  refine IxR.pick ?_
  rintro x y H Q ⟨m, st, a, b, s, ra, rb, o⟩
  have hu := C.un
  unfold oIx at o
  split at o
  · obtain ⟨v, e, o⟩ := o.bind
    obtain ⟨p, rfl, hp⟩ := inv_scr ra
    rw [inv_int rb]
    refine ⟨_, ix_list, p, _, _, .int v, rfl, rfl, hp, ?_, OutO.here o s _ (.d (.int _))⟩
    unfold atI at e ⊢
    obtain ⟨j, e1, e2⟩ := Option.bind_eq_some_iff.mp e
    rw [List.length_map, e1]
    show (List.map V.int _)[j]? = _
    rw [List.getElem?_map, e2] <;> rfl
  · split at o
    · rename_i hz
      obtain ⟨c, e, o⟩ := o.bind
      rw [inv_str ra, inv_int rb]
      exact ⟨_, ix_str, _, _, c, rfl, rfl, hz, e, OutO.here o s _ (.d (.str _))⟩
    · exact o.elim
  · obtain ⟨v, e, o⟩ := o.bind
    obtain ⟨p, vs, rfl, hp, r⟩ := inv_tup ra
    rw [inv_int rb]
    obtain ⟨w', e', rv⟩ := atI_pair r.pair e
    exact ⟨_, ix_tup, p, vs, _, w', rfl, rfl, hp.sq, e', OutO.here o s _ (.d rv)⟩
  · split at o
    · obtain ⟨kvs, e1, o1⟩ := o.bind
      obtain ⟨hk, o2⟩ := o1.guard
      obtain ⟨v, e2, o3⟩ := o2.bind
      clear o o1 o2
      obtain ⟨p, es, rfl, hp, r⟩ := rep_dc s ra e1
      obtain ⟨kk, rfl, rfl⟩ := key_of' (inv_d rb) hk
      rcases rep_find (k := kk) r with ⟨h1, h2⟩ | ⟨w', x, h1, h2, rx⟩
      · rw [h2] at e2; cases e2
      · rw [h2] at e2; cases e2
        exact ⟨_, ix_dict (by omega), p, w', rfl, by rw [← h1]; exact DGet.k hp, OutO.here o3 s _ rx⟩
    · split at o
      · obtain ⟨xs, e1, o⟩ := o.bind
        obtain ⟨v, e2, o⟩ := o.bind
        obtain ⟨p, vs, rfl, hp, r⟩ := rep_ls s ra e1
        rw [inv_int rb]
        obtain ⟨w', e', rv⟩ := atI_pair r e2
        exact ⟨_, ix_list, p, vs, _, w', rfl, rfl, .inl (.inl hp), e', OutO.here o s _ rv⟩
      · exact o.elim
  · exact o.elim
theorem paired_cut {α β : Type} {F : α → β → Prop} {l : List α} {k : List β} (lo hi : Option Int) (h : Paired F l k) : Paired F (cutL l lo hi) (cutL k lo hi) := by
  unfold cutL
  rw [h.length]
  exact paired_take _ (paired_drop _ h)
theorem cutL_all {α : Type} {l : List α} {lo hi : Option Int} (h : HT.sIx l.length 0 lo = 0 ∧ HT.sIx l.length l.length hi = l.length) : cutL l lo hi = l := by
  unfold cutL
  rw [h.1, h.2, List.drop_zero, Nat.sub_zero, List.take_length]
theorem cut_ints (l : List Int) (lo hi : Option Int) : cutV (l.map V.int) lo hi = (cutL l lo hi).map V.int := by
  show cutL _ lo hi = _
  unfold cutL
  rw [List.length_map, List.map_take, List.map_drop]
theorem so_slice : SlR X (fun x lo hi H Q => ∃ m st a, StRel X.K H m st ∧ Rep X.K H m x a ∧ OutO (gx X) m H (oSlice a lo hi st) fun z _ m' H' => ∀ v, Rep X.K H' m' v z → Q v H') := by
  refine SlR.pick ?_
  rintro x lo hi H Q ⟨m, st, a, s, ra, o⟩
  unfold oSlice at o
  split at o
  · obtain ⟨hz, o⟩ := o.guard
    rw [inv_str ra]
    refine ⟨_, sl_str, _, rfl, hz, ?_⟩
    have q := OutO.here o s _ (.d (.str _))
    unfold cutL at q
    rw [Array.length_toList] at q
    exact q
  · obtain ⟨p, vs, rfl, hp, r⟩ := inv_tup ra
    have hl := r.pair.length
    refine ⟨_, sl_tupA, p, vs, rfl, hp.sq, fun hw => ?_, fun hw z hz => ?_⟩
    · refine OutO.here o s _ ?_
      rw [cutL_all (by rw [← hl]; exact hw)]
      exact ra
    · exact OutO.fresh o s hz _ (rep_new_tup s hz (.of (paired_cut lo hi r.pair)))
  · obtain ⟨p, rfl, hp⟩ := inv_scr ra
    refine ⟨_, sl_list, p, _, rfl, hp, fun z hz => OutO.fresh o s hz _ (rep_new_lst s hz ?_)⟩
    have : ∀ (l : List Int), RepDs X.K H m (l.map V.int) (l.map PyData.int) := fun l => by
      induction l with
      | nil => exact .nil
      | cons a l ih => exact .cons (.int a) ih
    rw [cut_ints]
    exact this _
  · obtain ⟨ds, e1, o⟩ := o.bind
    obtain ⟨p, vs, rfl, hp, r⟩ := rep_lsd s ra e1
    exact ⟨_, sl_list, p, vs, rfl, .inl (.inl hp), fun z hz => OutO.fresh o s hz _ (rep_new_lst s hz (.of (paired_cut lo hi r.pair)))⟩
/-! ### isinstance -/
def tyN : Ty → String
  | .tuple => "tuple" | .list => "list" | .str => "str" | .int => "int" | .bool => "bool" | .dict => "dict"
def tyNo : Option Ty → String
  | none => "NoneType"
  | some t => tyN t
theorem kit_tys (t : Option Ty) (u : Ty) : kitB (tyNo t) (tyN u) = some (isT t u) := by
  cases t with
  | none => cases u <;> decide +kernel
  | some t => cases t <;> cases u <;> decide +kernel
theorem tyx_of {H : Hp} {m : Mp} {st : Store} {x : V} {v : Val} (s : StRel X.K H m st) (h : Rep X.K H m x v) (e : hasTy st v = true) : TyX X.K H x (.type (tyNo (tyOf st v))) := by
  cases v with
  | d d =>
    cases inv_d h with
    | non => exact .base .non
    | bl b => exact .base (.bl b)
    | int b => exact .base (.int b)
    | str b => exact .base (.str b)
    | tup ht _ =>
      rcases ht with ⟨ht | ⟨o, ht⟩, _⟩ | ⟨o, its, n, ht, hc, _⟩
      · exact .base (.tup ht)
      · exact .fTuple ht
      · exact .kTuple ht hc
    | lst ht _ => exact .base (.lst ht.1)
    | dct ht _ => exact .base (.dK ht.1)
  | scr ns => cases e
  | loc n =>
    have e : (match st[n]? with | some (.lst _) => true | some (.dct _) => true | _ => false) = true := e
    cases ec : st[n]? with
    | none => rw [ec] at e; cases e
    | some c =>
      rw [ec] at e
      cases c with
      | lst ys =>
        obtain ⟨p, vs, rfl, hp, _⟩ := rep_ls (xs := ys) s h (by show (match st[n]? with | some (.lst xs) => some xs | _ => none) = some ys; rw [ec])
        have ht : tyOf st (.loc n) = some .list := by show (match st[n]? with | some (.lst _) => some Ty.list | some (.dct _) => some Ty.dict | _ => none) = _; rw [ec]
        rw [ht]
        exact .base (.lst hp)
      | dct ys =>
        obtain ⟨p, vs, rfl, hp, _⟩ := rep_dc (kvs := ys) s h (by show (match st[n]? with | some (.dct xs) => some xs | _ => none) = some ys; rw [ec])
        have ht : tyOf st (.loc n) = some .dict := by show (match st[n]? with | some (.lst _) => some Ty.list | some (.dct _) => some Ty.dict | _ => none) = _; rw [ec]
        rw [ht]
        exact .base (.dK hp)
      | dead => cases e
/-- isinstance(x, T) -/
def rIsG (X : Cx) (t : Ty) : List V → Hp → VK → Prop := fun xs H Q => ∃ m st x v, StRel X.K H m st ∧ xs = [x, .ty (tyN t)] ∧ Rep X.K H m x v ∧ OutO (gx X) m H ((isiO st v [t]).bind fun k => bl st k) fun z _ m' H' => ∀ v, Rep X.K H' m' v z → Q v H'
theorem call_isG (t : Ty) : CallR X (.builtin "isinstance") (rIsG X t) := by
  refine CallR.pick ?_
  rintro xs H Q ⟨m, st, x, v, s, rfl, r, o⟩
  obtain ⟨k, e, o⟩ := o.bind
  have q := OutO.bl' s o
  unfold isiO at e
  split at e
  · rename_i hh
    cases e
    refine ⟨_, call_isi, x, .ty (tyN t), _, .type (tyN t), isT (tyOf st v) t, rfl, .ty _, tyx_of s r hh, kit_ty (kit_tys _ _), ?_⟩
    rw [List.any_cons, List.any_nil, Bool.or_false] at q
    exact q
  · cases e
end
end G
set_option Elab.async false
set_option linter.all false
set_option maxRecDepth 100000
/-! GF: built-in functions, methods of built-in things, new cells, changed cells -/
namespace G
open PySem PySem.Spec PyProof.Rows L2
def Mp.push (m : Mp) (p : Addr) : Mp := ⟨m.ls ++ [some p], m.P⟩
section
variable {K : PySem.W.Frag} {H : Hp} {m : Mp} {st : Store} {p a : Addr} {o : HO} {c : Cell}
theorem push_in {b : Addr} : (m.push p).In b ↔ m.In b ∨ b = p := by
  unfold Mp.In Mp.push
  simp
theorem alloc_ext (hp : H p = none) : Ext m H (m.push p) (upd H p o) where
  len := by unfold Mp.push; simp
  at_ := fun n hn => .inl (by unfold Mp.push; rw [List.getElem?_append_left hn])
  P := rfl
  keep := fun b u e _ => le_upd hp b u e
  new := fun b h n => by
    rcases push_in.mp h with z | z
    · exact absurd z n
    · rw [z]; exact hp
theorem alloc_rel (s : StRel K H m st) (hp : H p = none) (hc : CellRel K (upd H p o) (m.push p) p c) : StRel K (upd H p o) (m.push p) (st ++ [c]) where
  len := by unfold Mp.push; simp [s.len]
  inj := fun i j b h1 h2 => by
    unfold Mp.push at h1 h2
    have hb : ∀ i : Nat, (m.ls ++ [some p])[i]? = some (some b) → (i < m.ls.length ∧ m.ls[i]? = some (some b)) ∨ (i = m.ls.length ∧ b = p) := fun i h => by
      by_cases hi : i < m.ls.length
      · rw [List.getElem?_append_left hi] at h
        exact .inl ⟨hi, h⟩
      · rw [List.getElem?_append_right (by omega)] at h
        have : i - m.ls.length = 0 := by
          cases e : i - m.ls.length with
          | zero => rfl
          | succ k => rw [e] at h; simp at h
        rw [this] at h
        simp at h
        exact .inr ⟨by omega, h.symm⟩
    have nin : ∀ i : Nat, m.ls[i]? = some (some p) → False := fun i h => s.live p (List.mem_of_getElem? h) hp
    rcases hb i h1 with ⟨_, q1⟩ | ⟨q1, z1⟩ <;> rcases hb j h2 with ⟨_, q2⟩ | ⟨q2, z2⟩
    · exact s.inj i j b q1 q2
    · rw [z2] at q1; exact (nin _ q1).elim
    · rw [z1] at q2; exact (nin _ q2).elim
    · omega
  dead := fun n h => by
    unfold Mp.push at h
    by_cases hi : n < m.ls.length
    · rw [List.getElem?_append_left hi] at h
      have := s.dead n h
      rw [List.getElem?_append_left (by rw [← s.len]; exact hi)]
      exact this
    · rw [List.getElem?_append_right (by omega)] at h
      cases e : n - m.ls.length with
      | zero => rw [e] at h; simp at h
      | succ k => rw [e] at h; simp at h
  np := fun b h z => by
    rcases push_in.mp h with q | q
    · exact s.np b q z
    · rw [q] at z; exact s.trk p z hp
  live := fun b h z => by
    rcases push_in.mp h with q | q
    · cases e : H b with
      | none => exact s.live b q e
      | some u => exact some_ne (le_upd hp b u e) z
    · rw [q, upd_same] at z; cases z
  trk := fun b h z => by
    cases e : H b with
    | none => exact s.trk b h e
    | some u => exact some_ne (le_upd hp b u e) z
  cell := fun n b d h1 h2 => by
    unfold Mp.push at h1
    by_cases hi : n < m.ls.length
    · rw [List.getElem?_append_left hi] at h1
      rw [List.getElem?_append_left (by rw [← s.len]; exact hi)] at h2
      exact (s.cell n b d h1 h2).ext (alloc_ext hp) (le_upd hp b)
    · rw [List.getElem?_append_right (by omega)] at h1
      rw [List.getElem?_append_right (by rw [← s.len]; omega)] at h2
      rw [← s.len] at h2
      cases e : n - m.ls.length with
      | zero =>
        rw [e] at h1 h2
        simp at h1 h2
        rw [← h1, ← h2]; exact hc
      | succ k => rw [e] at h1; simp at h1
theorem mut_ext {o' : HO} (h : m.In a) (e : H a = some o) : Ext m H m (upd H a o') where
  len := Nat.le_refl _
  at_ := fun _ _ => .inl rfl
  P := rfl
  keep := fun b u q n => by rw [upd_ne (fun z => n (by rw [z]; exact h))]; exact q
  new := fun b q n => absurd q n
theorem mut_rel {o' : HO} {n : Nat} (s : StRel K H m st) (hn : m.ls[n]? = some (some a)) (e : H a = some o) (hc : CellRel K (upd H a o') m a c) : StRel K (upd H a o') m (st.set n c) where
  len := by rw [List.length_set]; exact s.len
  inj := s.inj
  dead := fun k h => by
    have hk : n ≠ k := fun z => by rw [← z, hn] at h; cases h
    rw [List.getElem?_set_ne hk]
    exact s.dead k h
  np := s.np
  live := fun b h z => by
    by_cases hb : b = a
    · rw [hb, upd_same] at z; cases z
    · rw [upd_ne hb] at z; exact s.live b h z
  trk := fun b h z => by
    by_cases hb : b = a
    · rw [hb, upd_same] at z; cases z
    · rw [upd_ne hb] at z; exact s.trk b h z
  cell := fun k b d h1 h2 => by
    by_cases hk : n = k
    · subst hk
      rw [hn] at h1; cases h1
      have hl : n < st.length := by rw [← s.len]; exact (List.getElem?_eq_some_iff.mp hn).1
      rw [List.getElem?_set_self hl] at h2
      cases h2; exact hc
    · rw [List.getElem?_set_ne hk] at h2
      have hb : b ≠ a := fun z => hk (s.inj n k a hn (by rw [← z]; exact h1))
      exact (s.cell k b d h1 h2).ext (mut_ext (List.mem_of_getElem? hn) e) fun u q => by rw [upd_ne hb]; exact q
/-- a cell's address -/
theorem cell_at (s : StRel K H m st) {x : V} {n : Nat} (h : Rep K H m x (.loc n)) (ec : st[n]? = some c) (nd : c ≠ .dead) : ∃ a, m.ls[n]? = some (some a) ∧ x = .ref a ∧ CellRel K H m a c := by
  cases h with
  | loc hn hv =>
    cases el : m.ls[n]? with
    | none => exact absurd (List.getElem?_eq_none_iff.mp el) (by omega)
    | some o =>
      cases o with
      | none => rw [s.dead n el] at ec; cases ec; exact absurd rfl nd
      | some a => exact ⟨a, rfl, hv a el, s.cell n a _ el ec⟩
end
section
variable {X : Cx}
abbrev GN (X : Cx) (f : Value) (o : OpN) : Prop := CallR X f (rDn (gx X) o)
theorem reps1 {K : PySem.W.Frag} {H : Hp} {m : Mp} {xs : List V} {v : Val} (h : Reps K H m xs [v]) : ∃ x, xs = [x] ∧ Rep K H m x v := by
  cases h with
  | cons a r => cases r; exact ⟨_, rfl, a⟩
theorem reps2 {K : PySem.W.Frag} {H : Hp} {m : Mp} {xs : List V} {v w' : Val} (h : Reps K H m xs [v, w']) : ∃ x y, xs = [x, y] ∧ Rep K H m x v ∧ Rep K H m y w' := by
  cases h with
  | cons a r =>
    cases r with
    | cons b r => cases r; exact ⟨_, _, rfl, a, b⟩
theorem reps0 {K : PySem.W.Frag} {H : Hp} {m : Mp} {xs : List V} (h : Reps K H m xs []) : xs = [] := by cases h; rfl
theorem call_len_dct : CallR X (.builtin "len") (fun xs H Q => ∃ a kvs, xs = [.ref a] ∧ H a = some (.dK kvs) ∧ Q (.int (kvs.length : Nat)) H) := by
  intro pins s σ H xs us Q I r h
  obtain ⟨a, kvs, rfl, e, q⟩ := h
  obtain rfl := Vals.ref1 r
  exact d_len I (.inl e) fun t s' I' => ⟨.int _, H, I', ⟨_, rfl⟩, q⟩
theorem sb_len : GN X (.builtin "len") (biO .len) := by
  refine CallR.pick ?_
  rintro xs H Q ⟨m, st, as, s, rs, o⟩
  unfold biO at o
  simp only at o
  split at o
  · obtain ⟨hz, o⟩ := o.guard
    obtain ⟨x, rfl, r⟩ := reps1 rs
    rw [inv_str r]
    exact ⟨_, call_len_str, _, rfl, hz, OutO.here o s _ (.d (.int _))⟩
  · obtain ⟨x, rfl, r⟩ := reps1 rs
    obtain ⟨p, rfl, hp⟩ := inv_scr r
    refine ⟨_, call_len_seq, p, _, rfl, .inl hp, ?_⟩
    rw [List.length_map]
    exact OutO.here o s _ (.d (.int _))
  · split at o
    · obtain ⟨kvs, e1, o⟩ := o.bind
      obtain ⟨x, rfl, r⟩ := reps1 rs
      obtain ⟨p, es, rfl, hp, r⟩ := rep_dc s r e1
      refine ⟨_, call_len_dct, p, es, rfl, hp, ?_⟩
      rw [r.length]
      exact OutO.here o s _ (.d (.int _))
    · obtain ⟨ys, e1, o⟩ := o.bind
      obtain ⟨x, rfl, r⟩ := reps1 rs
      obtain ⟨p, vs, rfl, hp, r⟩ := rep_sq s r e1
      refine ⟨_, call_len_seq, p, vs, rfl, hp, ?_⟩
      rw [r.length]
      exact OutO.here o s _ (.d (.int _))
  · exact o.elim
theorem sb_tuple : GN X (.type "tuple") (biO .tuple) := by
  refine CallR.pick ?_
  rintro xs H Q ⟨m, st, as, s, rs, o⟩
  unfold biO at o
  simp only at o
  split at o
  · obtain ⟨ds, e, o⟩ := o.bind
    obtain ⟨x, rfl, r⟩ := reps1 rs
    rename_i v
    obtain ⟨xs, e1, e2⟩ := Option.bind_eq_some_iff.mp e
    unfold sqOf at e1
    split at e1
    · rename_i zs
      cases e1
      obtain ⟨p, vs, rfl, hp, rr⟩ := inv_tup r
      refine ⟨_, call_tuple_of, p, vs, rfl, .inr ⟨hp.sq, OutO.here o s _ ?_⟩⟩
      have : ∀ l : List PyData, datas (l.map Val.d) = some l := fun l => by
        induction l with
        | nil => rfl
        | cons a l ih => show (datas (l.map Val.d)).map _ = _; rw [ih] <;> rfl
      rw [this] at e2
      cases e2
      exact r
    · obtain ⟨p, vs, rfl, hp, rr⟩ := rep_ls s r e1
      exact ⟨_, call_tuple_of, p, vs, rfl, .inl ⟨.inl (.inl hp), fun z hz => OutO.fresh o s hz _ (rep_new_tup s hz (repds_of rr e2))⟩⟩
  · exact o.elim
theorem sb_list : GN X (.type "list") (biO .list) := by
  refine CallR.pick ?_
  rintro xs H Q ⟨m, st, as, s, rs, o⟩
  unfold biO at o
  simp only at o
  split at o
  · obtain ⟨ds, e, o⟩ := o.bind
    obtain ⟨x, rfl, r⟩ := reps1 rs
    obtain ⟨p, vs, rfl, hp, rr⟩ := rep_ds s r e
    exact ⟨_, call_list_of, p, vs, rfl, hp, fun z hz => OutO.fresh o s hz _ (rep_new_lst s hz rr)⟩
  · exact o.elim
theorem rep_new_loc {K : PySem.W.Frag} {H : Hp} {m : Mp} {st : Store} {p : Addr} (hl : m.ls.length = st.length) : Rep K H (m.push p) (.ref p) (.loc st.length) := by
  refine .loc (by unfold Mp.push; simp [hl]) fun a e => ?_
  unfold Mp.push at e
  rw [← hl, List.getElem?_append_right (Nat.le_refl _), Nat.sub_self] at e
  simp at e
  rw [e]
theorem OutO.alloc {g : Gx} {m : Mp} {H : Hp} {st : Store} {α : Type} {a : α} {c : Cell} {k : α → Store → Mp → Hp → Prop} {p : Addr} {o : HO} (h : OutO g m H (some (a, st ++ [c])) k) (s : StRel g.K H m st) (hp : H p = none)
    (hc : CellRel g.K (upd H p o) (m.push p) p c) : k a (st ++ [c]) (m.push p) (upd H p o) := h _ _ (alloc_ext hp) (alloc_rel s hp hc)
theorem sb_listm : GN X (.type "list") (biO .listm) := by
  refine CallR.pick ?_
  rintro xs H Q ⟨m, st, as, s, rs, o⟩
  unfold biO at o
  simp only at o
  split at o
  · obtain ⟨ys, e, o⟩ := o.bind
    obtain ⟨x, rfl, r⟩ := reps1 rs
    obtain ⟨p, vs, rfl, hp, rr⟩ := rep_sq s r e
    refine ⟨_, call_list_of, p, vs, rfl, hp, fun z hz => OutO.alloc o s hz ⟨vs, upd_same, rr.ext (alloc_ext hz)⟩ _ (rep_new_loc s.len)⟩
  · exact o.elim
theorem bools_V {K : PySem.W.Frag} {H : Hp} {m : Mp} : ∀ {vs : List V} {ds : List PyData} {bs : List Bool}, RepDs K H m vs ds → boolsOf ds = some bs → vs = bs.map V.bl
  | _, _, _, .nil, e => by cases e; rfl
  | _, _, bs, .cons (d := d) h r, e => by
    cases h with
    | bl b =>
      unfold boolsOf at e
      obtain ⟨l, e1, rfl⟩ := Option.map_eq_some_iff.mp e
      rw [bools_V r e1] <;> rfl
    | _ => cases e
theorem strs_V {K : PySem.W.Frag} {H : Hp} {m : Mp} : ∀ {vs : List V} {ds : List PyData} {bs : List Str}, RepDs K H m vs ds → strsOf ds = some bs → vs = bs.map V.str
  | _, _, _, .nil, e => by cases e; rfl
  | _, _, bs, .cons (d := d) h r, e => by
    cases h with
    | str b =>
      unfold strsOf at e
      obtain ⟨l, e1, rfl⟩ := Option.map_eq_some_iff.mp e
      rw [strs_V r e1] <;> rfl
    | _ => cases e
theorem repds_strs {K : PySem.W.Frag} {H : Hp} {m : Mp} : ∀ ys : List Str, RepDs K H m (ys.map V.str) (ys.map PyData.str)
  | [] => .nil
  | y :: ys => .cons (.str y) (repds_strs ys)
theorem sb_all (C : Cok X) : GN X (.builtin "all") (biO .all) := by
  refine CallR.pick ?_
  rintro xs H Q ⟨m, st, as, s, rs, o⟩
  unfold biO at o
  simp only at o
  split at o
  · obtain ⟨ds, e, o⟩ := o.bind
    obtain ⟨bs, e2, o⟩ := o.bind
    obtain ⟨x, rfl, r⟩ := reps1 rs
    obtain ⟨p, vs, rfl, hp, rr⟩ := rep_lsd s r e
    rw [bools_V rr e2] at hp
    exact ⟨_, cr_all C.calm, p, bs, rfl, .inl (.inl hp), OutO.bl' s o⟩
  · exact o.elim
theorem sb_any (C : Cok X) : GN X (.builtin "any") (biO .any) := by
  refine CallR.pick ?_
  rintro xs H Q ⟨m, st, as, s, rs, o⟩
  unfold biO at o
  simp only at o
  split at o
  · obtain ⟨ds, e, o⟩ := o.bind
    obtain ⟨bs, e2, o⟩ := o.bind
    obtain ⟨x, rfl, r⟩ := reps1 rs
    obtain ⟨p, vs, rfl, hp, rr⟩ := rep_lsd s r e
    rw [bools_V rr e2] at hp
    exact ⟨_, cr_any C.calm, p, bs, rfl, .inl (.inl hp), OutO.bl' s o⟩
  · exact o.elim
theorem sb_str (C : Cok X) : GN X (.type "str") (biO .str) := by
  intro pins sh σ H xs us Q I rx h
  obtain ⟨m, st, as, s, rs, o⟩ := h
  unfold biO at o
  simp only at o
  split at o
  · obtain ⟨hz, o⟩ := o.guard
    obtain ⟨x, rfl, r⟩ := reps1 rs
    have q := OutO.here o s _ (.d (.str _))
    exact call_str_int pins sh σ H _ us Q I rx ⟨_, by rw [inv_int r], hz, q⟩
  · rename_i z
    obtain ⟨x, rfl, r⟩ := reps1 rs
    have q := OutO.here o s _ (.d (.str _))
    obtain ⟨u, rfl, ru⟩ := Vals.one rx
    rw [inv_str r] at ru
    obtain ⟨t, rfl⟩ := ru
    exact PySem.P.str_of_str ⟨.str z, H, I, ⟨t, rfl⟩, q⟩
  · rename_i v hni hns
    obtain ⟨d, e, o⟩ := o.bind
    obtain ⟨⟨h1, h2, h3⟩, o⟩ := o.guard
    obtain ⟨x, rfl, r⟩ := reps1 rs
    obtain ⟨u, rfl, ru⟩ := Vals.one rx
    have q := OutO.here o s _ (.d (.str _))
    obtain ⟨bs, rd, hn⟩ := dat_reads C I s r e ru
    have hu := C.un
    have fin : ∀ h' u tk, (∀ b o, sh.heap.get? b = some o → h'.get? b = some o) → EP X pins σ Q (.str d.shown u) { sh with heap := h', toks := tk } := fun h' u tk k => ⟨.str d.shown, H, I.kept k, ⟨_, rfl⟩, q⟩
    have hv : ∀ y, d = y → (v = .d y ∨ ∃ zs, y = .list zs) := fun y hy => by
      subst hy
      cases v with
      | d z => cases e; exact .inl rfl
      | loc n =>
        have e : (match st[n]? with
          | some (.lst xs) => (datas xs).map PyData.list
          | _ => none) = some d := e
        split at e
        · rename_i ws _
          cases hz : datas ws with
          | none => rw [hz] at e; cases e
          | some zs => rw [hz] at e; exact .inr ⟨zs, (Option.some.inj e).symm⟩
        · cases e
      | scr ns => cases e
    cases rd with
    | none => exact PySem.P.str_of_none (fin _ _ _ fun _ _ z => z)
    | bool b => exact PySem.P.str_of_bool (by cases b <;> exact fin _ _ _ fun _ _ z => z)
    | int i t =>
      rcases hv _ rfl with z | ⟨_, z⟩
      · exact (hni i (by rw [z])).elim
      · cases z
    | str y t =>
      rcases hv _ rfl with z | ⟨_, z⟩
      · exact (hns y (by rw [z])).elim
      · cases z
    | list g1 g2 g3 g4 => exact str_of_reads (.list g1 g2 g3 g4) h1 (fun _ => hn) C.gd (by omega) (fun _ _ z => z) fin h3
    | tuple g1 g2 g3 g4 => exact str_of_reads (.tuple g1 g2 g3 g4) h1 (fun _ => hn) C.gd (by omega) (fun _ _ z => z) fin h3
    | dict g1 g2 g3 g4 g5 => exact str_of_reads (.dict g1 g2 g3 g4 g5) h1 (fun _ => hn) C.gd (by omega) (fun _ _ z => z) fin h3
  · exact o.elim
theorem sb_int : GN X (.type "int") (biO .int) := by
  refine CallR.pick ?_
  rintro xs H Q ⟨m, st, as, s, rs, o⟩
  unfold biO at o
  simp only at o
  split at o
  · obtain ⟨x, rfl, r⟩ := reps1 rs
    rw [inv_int r]
    exact ⟨_, call_int1, .inl ⟨_, rfl, OutO.here o s _ (.d (.int _))⟩⟩
  · obtain ⟨x, rfl, r⟩ := reps1 rs
    rw [inv_bl r]
    exact ⟨_, call_int1, .inr ⟨_, rfl, OutO.here o s _ (.d (.int _))⟩⟩
  · exact o.elim
theorem sb_abs : GN X (.builtin "abs") (biO .abs) := by
  refine CallR.pick ?_
  rintro xs H Q ⟨m, st, as, s, rs, o⟩
  unfold biO at o
  simp only at o
  split at o
  · obtain ⟨x, rfl, r⟩ := reps1 rs
    rw [inv_int r]
    exact ⟨_, call_abs, _, rfl, OutO.here o s _ (.d (.int _))⟩
  · exact o.elim
theorem sb_min2 (C : Cok X) : GN X (.builtin "min") (biO .min2) := by
  refine CallR.pick ?_
  rintro xs H Q ⟨m, st, as, s, rs, o⟩
  unfold biO at o
  simp only at o
  split at o
  · obtain ⟨x, y, rfl, r1, r2⟩ := reps2 rs
    rw [inv_int r1, inv_int r2]
    exact ⟨_, call_min2 C.calm, _, _, rfl, OutO.here o s _ (.d (.int _))⟩
  · exact o.elim
theorem sb_max2 (C : Cok X) : GN X (.builtin "max") (biO .max2) := by
  refine CallR.pick ?_
  rintro xs H Q ⟨m, st, as, s, rs, o⟩
  unfold biO at o
  simp only at o
  split at o
  · obtain ⟨x, y, rfl, r1, r2⟩ := reps2 rs
    rw [inv_int r1, inv_int r2]
    exact ⟨_, call_max2 C.calm, _, _, rfl, OutO.here o s _ (.d (.int _))⟩
  · exact o.elim
/-! ### repr -/
theorem sb_repr (C : Cok X) : GN X (.builtin "repr") (biO .repr) := by
  intro pins sh σ H xs us Q I rx h
  obtain ⟨m, st, as, s, rs, o⟩ := h
  unfold biO at o
  simp only at o
  split at o
  · obtain ⟨d, e, o⟩ := o.bind
    obtain ⟨⟨h1, h2, h3⟩, o⟩ := o.guard
    obtain ⟨x, rfl, r⟩ := reps1 rs
    obtain ⟨u, rfl, ru⟩ := Vals.one rx
    have q := OutO.here o s _ (.d (.str _))
    obtain ⟨bs, rd, hn⟩ := dat_reads C I s r e ru
    have hu := C.un
    have fin : ∀ h' u tk, (∀ b o, sh.heap.get? b = some o → h'.get? b = some o) → EP X pins σ Q (.str d.shown u) { sh with heap := h', toks := tk } := fun h' u tk k => ⟨.str d.shown, H, I.kept k, ⟨_, rfl⟩, q⟩
    cases rd with
    | none => exact PySem.P.repr_of_none (fin _ _ _ fun _ _ z => z)
    | bool b => exact PySem.P.repr_of_bool (by cases b <;> exact fin _ _ _ fun _ _ z => z)
    | int i t =>
      have hi : i.natAbs.log2 < 1920 := by simpa [PyData.showable] using h1
      exact PySem.P.repr_of_int hi (fin _ _ _ fun _ _ z => z)
    | str y t => exact PySem.P.repr_of_str (fin _ _ _ fun _ _ z => z) h3
    | list g1 g2 g3 g4 => exact repr_of_reads' (.list g1 g2 g3 g4) h1 (fun _ => hn) C.gd (by omega) (fun _ _ z => z) fin h3
    | tuple g1 g2 g3 g4 => exact repr_of_reads' (.tuple g1 g2 g3 g4) h1 (fun _ => hn) C.gd (by omega) (fun _ _ z => z) fin h3
    | dict g1 g2 g3 g4 g5 => exact repr_of_reads' (.dict g1 g2 g3 g4 g5) h1 (fun _ => hn) C.gd (by omega) (fun _ _ z => z) fin h3
  · exact o.elim

/-! ### methods -/
abbrev GM (X : Cx) (id : String) (o : OpM) : Prop := MtR X id (rDm (gx X) o)
theorem OutO.mut {g : Gx} {m : Mp} {H : Hp} {st : Store} {α : Type} {b : α} {c : Cell} {n : Nat} {k : α → Store → Mp → Hp → Prop} {a : Addr} {o o' : HO} (h : OutO g m H (some (b, setC st n c)) k) (s : StRel g.K H m st) (hn : m.ls[n]? = some (some a)) (e : H a = some o)
    (hc : CellRel g.K (upd H a o') m a c) : k b (setC st n c) m (upd H a o') := h _ _ (mut_ext (List.mem_of_getElem? hn) e) (mut_rel s hn e hc)
theorem sm_append : GM X "list.append" (meO .append) := by
  refine MtR.pick ?_
  rintro x xs H Q ⟨m, st, a, as, s, ra, rs, o⟩
  unfold meO at o
  simp only at o
  split at o
  · split at o
    · rename_i ec
      obtain ⟨hz, o⟩ := o.guard
      obtain ⟨p, hn, rfl, vs, hp, rr⟩ := cell_at s ra ec (by simp)
      obtain ⟨y, rfl, ry⟩ := reps1 rs
      have l := rr.length
      exact ⟨_, mt_append, p, vs, y, rfl, rfl, hp, by omega, OutO.mut o s hn hp ⟨_, upd_same, Reps.ext (mut_ext (List.mem_of_getElem? hn) hp) (paired_append rr (.cons ry .nil))⟩ _ (.d .non)⟩
    · exact o.elim
  · exact o.elim
theorem sm_extend : GM X "list.extend" (meO .extend) := by
  refine MtR.pick ?_
  rintro x xs H Q ⟨m, st, a, as, s, ra, rs, o⟩
  unfold meO at o
  simp only at o
  split at o
  · split at o
    · rename_i ec el
      obtain ⟨hz, o⟩ := o.guard
      obtain ⟨p, hn, rfl, vs, hp, rr⟩ := cell_at s ra ec (by simp)
      obtain ⟨y, rfl, ry⟩ := reps1 rs
      obtain ⟨q, ws, rfl, hq, rw'⟩ := rep_ls s ry el
      have l := rr.length
      have l2 := rw'.length
      exact ⟨_, mt_extend, p, q, vs, ws, rfl, rfl, hp, hq, by omega, OutO.mut o s hn hp ⟨_, upd_same, Reps.ext (mut_ext (List.mem_of_getElem? hn) hp) (paired_append rr rw')⟩ _ (.d .non)⟩
    · exact o.elim
  · exact o.elim
theorem sm_pop : GM X "list.pop" (meO .pop) := by
  refine MtR.pick ?_
  rintro x xs H Q ⟨m, st, a, as, s, ra, rs, o⟩
  unfold meO at o
  simp only at o
  split at o
  · split at o
    · rename_i ec
      obtain ⟨y, ey, o⟩ := o.bind
      obtain ⟨p, hn, rfl, vs, hp, rr⟩ := cell_at s ra ec (by simp)
      obtain rfl := reps0 rs
      have l := rr.length
      obtain ⟨z, ez, rz⟩ := paired_get rr ey
      exact ⟨_, mt_pop, p, vs, z, rfl, rfl, hp, by rw [l]; exact ez, OutO.mut o s hn hp ⟨_, upd_same, Reps.ext (mut_ext (List.mem_of_getElem? hn) hp) (paired_dropLast rr)⟩ _ (rz.ext (mut_ext (List.mem_of_getElem? hn) hp))⟩
    · exact o.elim
  · exact o.elim
theorem sm_popat : GM X "list.pop" (meO .popat) := by
  refine MtR.pick ?_
  rintro x xs H Q ⟨m, st, a, as, s, ra, rs, o⟩
  unfold meO at o
  simp only at o
  split at o
  · split at o
    · rename_i ec
      obtain ⟨⟨h1, h2⟩, o⟩ := o.guard
      obtain ⟨j, ej, o⟩ := o.bind
      obtain ⟨y, ey, o⟩ := o.bind
      obtain ⟨p, hn, rfl, vs, hp, rr⟩ := cell_at s ra ec (by simp)
      obtain ⟨i, rfl, ri⟩ := reps1 rs
      rw [inv_int ri]
      have l := rr.length
      obtain ⟨z, ez, rz⟩ := paired_get rr ey
      exact ⟨_, mt_popAt, p, vs, _, j, z, rfl, rfl, hp, h1, h2, by rw [l]; exact ej, ez, OutO.mut o s hn hp ⟨_, upd_same, Reps.ext (mut_ext (List.mem_of_getElem? hn) hp) (paired_erase j rr)⟩ _ (rz.ext (mut_ext (List.mem_of_getElem? hn) hp))⟩
    · exact o.elim
  · exact o.elim
theorem sm_join : GM X "str.join" (meO .join) := by
  refine MtR.pick ?_
  rintro x xs H Q ⟨m, st, a, as, s, ra, rs, o⟩
  unfold meO at o
  simp only at o
  split at o
  · obtain ⟨ds, e1, o⟩ := o.bind
    obtain ⟨ys, e2, o⟩ := o.bind
    obtain ⟨hz, o⟩ := o.guard
    obtain ⟨y, rfl, ry⟩ := reps1 rs
    rw [inv_str ra]
    obtain ⟨p, vs, rfl, hp, rr⟩ := rep_ds s ry e1
    rw [strs_V rr e2] at hp
    exact ⟨_, mt_join, _, p, ys, rfl, rfl, hp, hz, OutO.here o s _ (.d (.str _))⟩
  · exact o.elim
theorem sm_upper : GM X "str.upper" (meO .upper) := by
  refine MtR.pick ?_
  rintro x xs H Q ⟨m, st, a, as, s, ra, rs, o⟩
  unfold meO at o
  simp only at o
  split at o
  · obtain ⟨hz, o⟩ := o.guard
    obtain rfl := reps0 rs
    rw [inv_str ra]
    exact ⟨_, mt_upper, _, rfl, rfl, hz, OutO.here o s _ (.d (.str _))⟩
  · exact o.elim
/-- what a method's receiver is -/
def tyRecv : Me → String := fun m => tyN (meTy m)
theorem recv_ty {H : Hp} {mm : Mp} {st : Store} {x : V} {v : Val} {m : Me} (s : StRel X.K H mm st) (r : Rep X.K H mm x v) (e : recv m st v = true) : tyV X.K (tyRecv m) x H := by
  unfold recv at e
  unfold tyRecv
  generalize meTy m = t at e ⊢
  cases t with
  | str =>
    cases v with
    | d d =>
      cases d with
      | str z => rw [inv_str r] <;> rfl
      | _ => cases e
    | _ => cases e
  | list =>
    obtain ⟨xs, ex⟩ := Option.isSome_iff_exists.mp (show (lsOf st v).isSome = true from by cases v <;> exact e)
    obtain ⟨p, vs, rfl, hp, _⟩ := rep_ls s r ex
    exact .inl ⟨rfl, vs, .inl (.inl hp)⟩
  | dict =>
    obtain ⟨xs, ex⟩ := Option.isSome_iff_exists.mp (show (dcOf st v).isSome = true from by cases v <;> exact e)
    obtain ⟨p, vs, rfl, hp, _⟩ := rep_dc s r ex
    exact .inr (.inr (.inl ⟨rfl, .inl ⟨vs, hp⟩⟩))
  | _ => cases v <;> cases e
/-! ### o[i] = v -/
theorem OpR.pickSet {t : TSet} (h : ∀ o i v H Q, t o i v H Q → ∃ t', PSet X t' ∧ t' o i v H Q) : PSet X t := fun pins s σ H o i v ov iv u Q I r1 r2 r3 q =>
  let ⟨_, h1, h2⟩ := h o i v H Q q; h1 pins s σ H o i v ov iv u Q I r1 r2 r3 h2
theorem set_dict (hu : X.A.units + 1 < cLine) : PSet X (fun o i v H Q => ∃ a H', o = .ref a ∧ DPut H a i v H' ∧ Q H') := by
  intro pins s σ H o i v ov iv u Q I r1 r2 r3 h
  obtain ⟨a, H', rfl, g, q⟩ := h
  cases r1
  exact d_setItem hu I g r2 r3 fun s' I' => ⟨H', I', q⟩
theorem rep_mapput {K : PySem.W.Frag} {H : Hp} {m : Mp} {k : Key} {v : V} {x : Val} (hv : Rep K H m v x) : ∀ {es : List (Key × V)} {kvs : List (PyData × Val)}, RepE K H m es kvs →
    RepE K H m (es.map fun kv => if kv.1 = k then (kv.1, v) else kv) (kvs.map fun p => if p.1 = keyD k then (keyD k, x) else p)
  | _, _, .nil => .nil
  | p :: _, q :: _, .cons h t => by
    refine .cons ?_ (rep_mapput hv t)
    show keyD (if p.1 = k then (p.1, v) else p).1 = (if q.1 = keyD k then (keyD k, x) else q).1 ∧ Rep K H m (if p.1 = k then (p.1, v) else p).2 (if q.1 = keyD k then (keyD k, x) else q).2
    by_cases e : p.1 = k
    · have e2 : q.1 = keyD k := by rw [← h.1, e]
      rw [if_pos e, if_pos e2]
      exact ⟨by rw [e], hv⟩
    · have e2 : ¬ q.1 = keyD k := fun z => e (keyD_inj (h.1.trans z))
      rw [if_neg e, if_neg e2]
      exact h
theorem rep_put {K : PySem.W.Frag} {H : Hp} {m : Mp} {k : Key} {v : V} {x : Val} (hv : Rep K H m v x) : ∀ {es : List (Key × V)} {kvs : List (PyData × Val)}, RepE K H m es kvs → RepE K H m (putK es k v) (mergeD kvs [(keyD k, x)]) := by
  intro es kvs r
  have hany : ∀ {es : List (Key × V)} {kvs : List (PyData × Val)}, RepE K H m es kvs → (es.any fun kv => decide (kv.1 = k)) = kvs.any fun p => decide (p.1 = keyD k) := by
    intro es kvs r
    induction r with
    | nil => rfl
    | @cons p q l l' h t ih =>
      rw [List.any_cons, List.any_cons, ih]
      congr 1
      rw [← h.1]
      exact decide_eq_decide.mpr ⟨fun z => by rw [z], keyD_inj⟩
  unfold putK
  show RepE K H m _ (if kvs.any (fun p => decide (p.1 = keyD k)) = true then kvs.map (fun p => if p.1 = keyD k then (keyD k, x) else p) else kvs ++ [(keyD k, x)])
  rw [hany r]
  split
  · exact rep_mapput hv r
  · exact paired_append r (.cons ⟨rfl, hv⟩ .nil)
def rSet (X : Cx) : TSet := fun o i v H Q => ∃ m st a b c, StRel X.K H m st ∧ Rep X.K H m o a ∧ Rep X.K H m i b ∧ Rep X.K H m v c ∧ OutO (gx X) m H ((setO a b c st).map fun st => ((), st)) fun _ _ _ H' => Q H'
theorem so_set (C : Cok X) : PSet X (rSet X) := by
  refine OpR.pickSet ?_
  rintro x i v H Q ⟨m, st, a, b, c, s, ra, rb, rc, o⟩
  have hu := C.un
  unfold setO at o
  split at o
  · split at o
    · rename_i ec
      cases ej : ixN _ _ with
      | none => rw [ej] at o; exact o.elim
      | some j =>
        rw [ej] at o
        obtain ⟨p, hn, rfl, vs, hp, rr⟩ := cell_at s ra ec (by simp)
        rw [inv_int rb]
        refine ⟨_, set_list, p, vs, _, j, rfl, rfl, hp, by rw [rr.length]; exact ej, ?_⟩
        exact OutO.mut o s hn hp ⟨_, upd_same, Reps.ext (mut_ext (List.mem_of_getElem? hn) hp) (paired_set rc j rr)⟩
    · rename_i ec
      split at o
      · rename_i hk
        obtain ⟨p, hn, rfl, es, hp, rr⟩ := cell_at s ra ec (by simp)
        obtain ⟨kk, rfl, rfl⟩ := key_of' (inv_d rb) hk.1
        refine ⟨_, set_dict (by omega), p, _, rfl, DPut.k hp (by rw [rr.length]; exact hk.2), ?_⟩
        exact OutO.mut o s hn hp ⟨_, upd_same, RepE.ext (mut_ext (List.mem_of_getElem? hn) hp) (rep_put rc rr)⟩
      · exact o.elim
    · exact o.elim
  · exact o.elim
end
end G
set_option Elab.async false
set_option linter.all false
set_option maxRecDepth 100000
/-! GG: each kind of expression by its meaning -/
namespace G
open PySem PySem.Spec PyProof.Rows L2
abbrev GE (X : Cx) (W : WX) (e : Expr) (f : Rho → Store → R Val) : Prop := PE X e (DE (gx X) W f)
abbrev GT (X : Cx) (W : WX) (e : Expr) (f : Rho → Store → R Bool) : Prop := PT X e (DT (gx X) W f)
abbrev GTw (X : Cx) (W : WX) (e : Expr) (f : Rho → Store → R Bool) : Prop := PW X e (DT (gx X) W f)
abbrev GAs (X : Cx) (W : WX) (es : List Expr) (f : Rho → Store → R (List Val)) : Prop := PA X es (DA (gx X) W f)
def tr' (f : Rho → Store → R Val) : Rho → Store → R Bool := fun ρ st => (f ρ st).bind fun v st1 => truthR v st1
/-! ### what an expression is not -/
def pln : Expr → Bool
  | .Starred .. => false
  | .Set .. => false
  | .Slice .. => false
  | .BoolOp .. => true
  | _ => true
/-- no call without arguments -/
def nbase : Expr → Bool
  | .Call _ [] [] _ => false
  | _ => true
/-- its truth is its value's truth -/
def flatT : Expr → Bool
  | .UnaryOp .Not _ _ => false
  | .BoolOp .. => false
  | .IfExp .. => false
  | .Compare .. => false
  | _ => true
theorem star_pln {e : Expr} (h : pln e = true) (es : List Expr) (env : Env) : starEach (e :: es) env = (false, eval e env) :: starEach es env := by
  cases e <;> first | rfl | (cases h)
theorem base_ok {e : Expr} (h : nbase e = true) (nm : Str) (env : Env) : attributeBase e nm env (eval e env) = eval e env := by
  cases e <;> try rfl
  rename_i f as ks p
  cases as with
  | cons _ _ => cases f <;> rfl
  | nil => cases ks with
    | nil => cases h
    | cons _ _ => cases f <;> rfl
theorem mark_ok {e : Expr} (h : pln e = true) (op : CmpOp) : behindInMarks op e = false := by
  cases e <;> first | rfl | (cases h)
theorem marks_ok {e : Expr} (h : pln e = true) (a : Expr) (o o' : CmpOp) : lastMarks [o, o'] [a, e] = false := by
  show behindInMarks o' e = false
  exact mark_ok h _
theorem ix_ok {e : Expr} (h : pln e = true) : PlainIx e := fun o i => by
  cases e <;> first | rfl | (cases h)
theorem truth_ok {e : Expr} (h : flatT e = true) (env : Env) (whole : Sem Value) : isTrue e env whole = (do let v ← whole; standAt e.pos; holding [v] (truthy v)) := by
  cases e with
  | UnaryOp o a p => cases o <;> first | rfl | (cases h)
  | BoolOp _ _ _ => cases h
  | IfExp _ _ _ _ => cases h
  | Compare _ _ _ _ => cases h
  | _ => rfl
/-! ### truth -/
theorem sq_tru {K : PySem.W.Frag} {H : Hp} {p : Addr} {vs : List V} (h : SqL K H p vs ∨ SqT K H p vs) {xs : List Val} (hl : vs.length = xs.length) : TruV K (.ref p) H (!xs.isEmpty) := by
  have e : xs.isEmpty = vs.isEmpty := by cases xs <;> cases vs <;> simp_all
  rw [e]
  rcases h with h | h
  · exact .inl ⟨vs, h, rfl⟩
  · exact .inr (.inl ⟨vs, h, rfl⟩)
theorem rep_tru {K : PySem.W.Frag} {H : Hp} {m : Mp} {st : Store} {x : V} {v : Val} {b : Bool} (s : StRel K H m st) (h : Rep K H m x v) (e : truthO st v = some b) : TruV K x H b := by
  have sq : (sqOf st v).map (fun xs => !xs.isEmpty) = some b → TruV K x H b := fun e => by
    cases q : sqOf st v with
    | none => rw [q] at e; cases e
    | some xs =>
      rw [q] at e
      obtain ⟨p, vs, rfl, hs, r⟩ := rep_sq s h q
      have e2 : (!xs.isEmpty) = b := Option.some.inj e
      rw [← e2]
      exact sq_tru hs (Paired.length r)
  cases v with
  | d d =>
    cases d with
    | none => obtain rfl := inv_non h; exact (Option.some.inj e).symm
    | bool i => obtain rfl := inv_bl h; exact (Option.some.inj e).symm
    | int i => obtain rfl := inv_int h; exact (Option.some.inj e).symm
    | str i =>
      obtain rfl := inv_str h
      have e : (if i.length ≤ sizeLine then some ((i.length : Int) != 0) else none) = some b := e
      split at e
      · rename_i hl
        exact ⟨hl, (Option.some.inj e).symm⟩
      · cases e
    | list _ => exact sq e
    | tuple _ => exact sq e
    | dict _ => cases e
  | loc n => exact sq e
  | scr ns => cases e
section
variable {X : Cx} {W : WX} {a b c e : Expr} {pos : Pos} {fa fb fc : Rho → Store → R Val} {ga gb : Rho → Store → R Bool}
theorem Out.opt {g : Gx} {m : Mp} {H : Hp} {σ : L2.St} {α : Type} {o : Option α} {st : Store} {k : α → Store → Mp → Hp → Prop} (h : Out g W m H σ (ofOpt o st) k) (s : StRel g.K H m st) : ∃ x, o = some x ∧ k x st m H := by
  cases o with
  | none => exact h.elim
  | some x => exact ⟨x, rfl, Out.here (st := st) h s⟩
theorem ge_var {i : Nat} {x : Str} (hN : X.N[i]? = some x) (hv : Vis X.env.scope x) (hd : (x == ("__debug__" : Str)) = false) (hcd : (x == ("__classdict__" : Str)) = false) :
    GE X W (.Name x pos) (fun ρ st => match ρ[i]? with | some (some v) => .ok v st | _ => .no) := PEw (pe_var hN hv hd hcd) fun σ H Q h => by
  obtain ⟨m, ρ, st, r, o⟩ := h
  dsimp only at o
  split at o
  · rename_i v hv
    obtain ⟨u, h1, h2⟩ := r.env i v hv
    exact ⟨u, h1, (Out.here o r.st) u h2⟩
  · exact o.elim
def litOk : Const → PyData → Bool
  | .none, .none => true
  | .bool b, .bool c => b == c
  | .int i, .int j => i == j
  | .str x, .str y => decide (x = y)
  | _, _ => false
theorem ge_cst {k : Const} {d : PyData} {j : Nat} (h : litOk k d = true) : GE X W (.Constant k j pos) (fun _ st => .ok (.d d) st) := by
  cases k <;> cases d <;> first | (cases h; done) | skip
  · exact PEw pe_non fun σ H Q h => by obtain ⟨m, ρ, st, r, o⟩ := h; exact (Out.here o r.st) _ (.d .non)
  · rename_i b c
    obtain rfl : b = c := by simpa [litOk] using h
    exact PEw pe_bl fun σ H Q h => by obtain ⟨m, ρ, st, r, o⟩ := h; exact (Out.here o r.st) _ (.d (.bl _))
  · rename_i b c
    obtain rfl : b = c := by simpa [litOk] using h
    exact PEw pe_int fun σ H Q h => by obtain ⟨m, ρ, st, r, o⟩ := h; exact (Out.here o r.st) _ (.d (.int _))
  · rename_i b c
    obtain rfl : b = c := by simpa [litOk] using h
    exact PEw pe_str fun σ H Q h => by obtain ⟨m, ρ, st, r, o⟩ := h; exact (Out.here o r.st) _ (.d (.str _))
/-- a module's name for data that nobody writes -/
theorem ge_glob {x : Str} {v : V} {u : Value} {d : PyData} (hg : Gl X x) (hm : X.mg x = some u) (r : RelV v u) (hd : (x == ("__debug__" : Str)) = false) (hr : ∀ H m, RepD X.K H m v d) : GE X W (.Name x pos) (fun _ st => .ok (.d d) st) :=
  PEw (L2.pe_glob hg hm r hd) fun σ H Q h => by obtain ⟨m, ρ, st, r, o⟩ := h; exact (Out.here o r.st) _ (.d (hr _ _))
theorem ge_neg (ha : GE X W a fa) : GE X W (.UnaryOp .USub a pos) (fun ρ st => (fa ρ st).bind fun v st1 => match v with | .d (.int i) => .ok (.d (.int (-i))) st1 | _ => .no) :=
  PEw (pe_un un_neg ha) fun σ H Q h => by
    obtain ⟨m, ρ, st, r, o⟩ := h
    refine ⟨m, ρ, st, r, (Out.bind o).imp fun v st1 m1 H1 e1 s1 o1 x rx => ?_⟩
    dsimp only at o1
    split at o1
    · rename_i i
      obtain rfl := inv_int rx
      exact ⟨i, rfl, (Out.here o1 s1) _ (.d (.int _))⟩
    · exact o1.elim
theorem ge_cmp {o : CmpOp} {op : Op2} (ho : GO X (compareOp o) op) (ha : GE X W a fa) (hb : GE X W b fb) (hp : pln b = true) : GE X W (.Compare a [o] [b] pos) (mBin op fa fb) := PEw (pe_cmpR ho ha hb (mark_ok hp o)) fun _ _ _ h => de_op h
/-- a comparison's end is a truth -/
def Boolish (op : Op2) : Prop := ∀ a b st z st', op a b st = some (z, st') → ∃ k, z = .d (.bool k)
theorem bind_bl {o : Option Bool} {f : Bool → Bool} {st : Store} {z : Val} {st' : Store} (h : (o.bind fun k => bl st (f k)) = some (z, st')) : ∃ k, z = .d (.bool k) := by
  cases o with
  | none => cases h
  | some k =>
    have h : some (Val.d (.bool (f k)), st) = some (z, st') := h
    cases h; exact ⟨_, rfl⟩
theorem cmp_bool (o : Cop) : Boolish (cmpO o) := fun a b st z st' h => by
  cases o <;> exact bind_bl h
theorem gt_of_bool {t : TE} {f : Rho → Store → R Val} (h : ∀ σ H Q, DE (gx X) W f σ H Q → t σ H Q) (hb : ∀ ρ st z st', f ρ st = .ok z st' → ∃ k, z = .d (.bool k)) (σ : L2.St) (H : Hp) (Q : Bool → Hp → Prop) (q : DT (gx X) W (tr' f) σ H Q) : tTest t σ H Q := by
  obtain ⟨m, ρ, st, r, o⟩ := q
  refine h σ H _ ⟨m, ρ, st, r, ?_⟩
  have o := Out.bind o
  have hb := hb ρ st
  cases e : f ρ st with
  | no => rw [e] at o; exact o
  | exc x st1 => rw [e] at o; exact o
  | ok z st1 =>
    rw [e] at o
    obtain ⟨k, rfl⟩ := hb z st1 e
    exact fun m' H' e' s' v rv => ⟨k, inv_bl rv, Out.here (o m' H' e' s') s'⟩
theorem bin_bool {op : Op2} (hb : Boolish op) (ρ : Rho) (st : Store) (z : Val) (st' : Store) (h : mBin op fa fb ρ st = .ok z st') : ∃ k, z = .d (.bool k) := by
  unfold mBin at h
  cases e1 : fa ρ st with
  | no => rw [e1] at h; cases h
  | exc x s => rw [e1] at h; cases h
  | ok x s1 =>
    rw [e1] at h
    have h : (fb ρ s1).bind (fun y st2 => R.ofO (op x y st2)) = .ok z st' := h
    cases e2 : fb ρ s1 with
    | no => rw [e2] at h; cases h
    | exc x s => rw [e2] at h; cases h
    | ok y s2 =>
      rw [e2] at h
      have h : R.ofO (op x y s2) = .ok z st' := h
      cases e3 : op x y s2 with
      | none => rw [e3] at h; cases h
      | some p =>
        obtain ⟨w, s3⟩ := p
        rw [e3] at h
        have h : R.ok w s3 = .ok z st' := h
        cases h
        exact hb _ _ _ _ _ e3
theorem gt_cmp {o : CmpOp} {op : Op2} (hbo : Boolish op) (ho : GO X (compareOp o) op) (ha : GE X W a fa) (hb : GE X W b fb) (hp : pln b = true) : GT X W (.Compare a [o] [b] pos) (tr' (mBin op fa fb)) :=
  PTw (pt_cmpR ho ha hb (mark_ok hp o)) (gt_of_bool (fun _ _ _ h => de_op h) (bin_bool hbo))
def mChain (op op' : Op2) (fa fb fc : Rho → Store → R Val) : Rho → Store → R Val := fun ρ st => (fa ρ st).bind fun x st1 => (fb ρ st1).bind fun y st2 => (R.ofO (op x y st2)).bind fun k st3 => match k with
    | .d (.bool true) => (fc ρ st3).bind fun z st4 => R.ofO (op' y z st4)
    | .d (.bool false) => .ok (.d (.bool false)) st3
    | _ => .no
theorem de_chain {op op' : Op2} {σ : L2.St} {H : Hp} {Q : VK} (h : DE (gx X) W (mChain op op' fa fb fc) σ H Q) : tChain (rD2 (gx X) op) (rD2 (gx X) op') (DE (gx X) W fa) (DE (gx X) W fb) (DE (gx X) W fc) σ H Q := by
  obtain ⟨m, ρ, st, r, o⟩ := h
  refine ⟨m, ρ, st, r, (Out.bind o).imp fun x st1 m1 H1 e1 s1 o1 v rv => ?_⟩
  refine ⟨m1, ρ, st1, r.ext e1 s1, (Out.bind o1).imp fun y st2 m2 H2 e2 s2 o2 u ru => ?_⟩
  refine ⟨m2, st2, x, y, s2, rv.ext e2, ru, (Out.ofO (Out.bind o2)).imp fun k st3 m3 H3 e3 s3 o3 z rz => ?_⟩
  dsimp only at o3
  split at o3
  · obtain rfl := inv_bl rz
    refine ⟨true, rfl, ?_⟩
    rw [if_pos rfl]
    refine ⟨m3, ρ, st3, ((r.ext e1 s1).ext e2 s2).ext e3 s3, (Out.bind o3).imp fun p st4 m4 H4 e4 s4 o4 q rq => ?_⟩
    exact ⟨m4, st4, y, p, s4, (ru.ext e3).ext e4, rq, Out.ofO o4⟩
  · obtain rfl := inv_bl rz
    refine ⟨false, rfl, ?_⟩
    rw [if_neg (by simp)]
    exact (Out.here o3 s3) _ (.d (.bl false))
  · exact o3.elim
theorem ge_chain {o o' : CmpOp} {op op' : Op2} (ho : GO X (compareOp o) op) (ho' : GO X (compareOp o') op') (ha : GE X W a fa) (hb : GE X W b fb) (hc : GE X W c fc) (hp : pln c = true) : GE X W (.Compare a [o, o'] [b, c] pos) (mChain op op' fa fb fc) :=
  PEw (pe_chain ho ho' ha hb hc (marks_ok hp b o o')) fun _ _ _ h => de_chain h
theorem chain_bool {op op' : Op2} (hb' : Boolish op') (ρ : Rho) (st : Store) (z : Val) (st' : Store) (h : mChain op op' fa fb fc ρ st = .ok z st') : ∃ k, z = .d (.bool k) := by
  unfold mChain at h
  cases e1 : fa ρ st with
  | no => rw [e1] at h; cases h
  | exc x s => rw [e1] at h; cases h
  | ok x s1 =>
    rw [e1] at h
    simp only [R.bind] at h
    cases e2 : fb ρ s1 with
    | no => rw [e2] at h; cases h
    | exc x s => rw [e2] at h; cases h
    | ok y s2 =>
      rw [e2] at h
      simp only at h
      cases e3 : op x y s2 with
      | none => rw [e3] at h; cases h
      | some p =>
        obtain ⟨w, s3⟩ := p
        rw [e3] at h
        simp only [R.ofO] at h
        split at h
        · cases e4 : fc ρ s3 with
          | no => rw [e4] at h; cases h
          | exc x s => rw [e4] at h; cases h
          | ok q s4 =>
            rw [e4] at h
            simp only at h
            cases e5 : op' y q s4 with
            | none => rw [e5] at h; cases h
            | some p =>
              obtain ⟨w, s5⟩ := p
              rw [e5] at h
              simp only at h
              cases h
              exact hb' _ _ _ _ _ e5
        · cases h; exact ⟨_, rfl⟩
        · cases h
theorem gt_chain {o o' : CmpOp} {op op' : Op2} (hb' : Boolish op') (ho : GO X (compareOp o) op) (ho' : GO X (compareOp o') op') (ha : GE X W a fa) (hb : GE X W b fb) (hc : GE X W c fc) (hp : pln c = true) : GT X W (.Compare a [o, o'] [b, c] pos) (tr' (mChain op op' fa fb fc)) :=
  PTw (pt_chain ho ho' ha hb hc (marks_ok hp b o o')) (gt_of_bool (fun _ _ _ h => de_chain h) (chain_bool hb'))
/-- the truth of a value, generally -/
theorem gt_of (ha : GE X W a fa) (h : flatT a = true) : GT X W a (tr' fa) := PTw (pt_truth ha fun w => truth_ok h _ w) fun σ H Q q => by
  obtain ⟨m, ρ, st, r, o⟩ := q
  refine ⟨m, ρ, st, r, (Out.bind o).imp fun v st1 m1 H1 e1 s1 o1 x rx => ?_⟩
  obtain ⟨k, hk, q⟩ := Out.opt o1 s1
  exact ⟨k, rep_tru s1 rx hk, q⟩
theorem truth_bool {st : Store} {b : Bool} : truthO st (.d (.bool b)) = some b := rfl
theorem ge_not (ha : GE X W a fa) : GE X W (.UnaryOp .Not a pos) (fun ρ st => (fa ρ st).bind fun v st1 => (truthR v st1).bind fun b st2 => .ok (.d (.bool (!b))) st2) := PEw (pe_notT ha) fun σ H Q q => by
  obtain ⟨m, ρ, st, r, o⟩ := q
  refine ⟨m, ρ, st, r, (Out.bind o).imp fun v st1 m1 H1 e1 s1 o1 x rx => ?_⟩
  obtain ⟨k, hk, q⟩ := Out.opt (Out.bind o1) s1
  exact ⟨k, rep_tru s1 rx hk, (Out.here q s1) _ (.d (.bl _))⟩
theorem gt_not (ha : GT X W a (tr' fa)) : GT X W (.UnaryOp .Not a pos) (tr' fun ρ st => (fa ρ st).bind fun v st1 => (truthR v st1).bind fun b st2 => .ok (.d (.bool (!b))) st2) := PTw (pt_not ha) fun σ H Q q => by
  obtain ⟨m, ρ, st, r, o⟩ := q
  refine ⟨m, ρ, st, r, ?_⟩
  have o : Out (gx X) W m H σ ((fa ρ st).bind fun v st1 => (truthR v st1).bind fun b st2 => .ok (!b) st2) fun b _ _ H' => Q b H' := by
    have e : (tr' fun ρ st => (fa ρ st).bind fun v st1 => (truthR v st1).bind fun b st2 => .ok (.d (.bool (!b))) st2) ρ st = (fa ρ st).bind fun v st1 => (truthR v st1).bind fun b st2 => .ok (!b) st2 := by
      unfold tr'
      rw [R.bind_assoc]
      congr 1
      funext v st1
      rw [R.bind_assoc]
      rfl
    rw [e] at o; exact o
  rw [← R.bind_assoc] at o
  exact (Out.bind o).imp fun b st1 m1 H1 e1 s1 o1 => Out.here o1 s1
theorem ge_ite (hc : GT X W c (tr' fc)) (ha : GE X W a fa) (hb : GE X W b fb) : GE X W (.IfExp c a b pos) (fun ρ st => (fc ρ st).bind fun v st1 => (truthR v st1).bind fun k st2 => if k then fa ρ st2 else fb ρ st2) := PEw (pe_ifExp hc ha hb) fun σ H Q q => by
  obtain ⟨m, ρ, st, r, o⟩ := q
  refine ⟨m, ρ, st, r, ?_⟩
  dsimp only at o
  rw [← R.bind_assoc] at o
  refine (Out.bind o).imp fun k st1 m1 H1 e1 s1 o1 => ?_
  cases k with
  | true => exact ⟨m1, ρ, st1, r.ext e1 s1, o1⟩
  | false => exact ⟨m1, ρ, st1, r.ext e1 s1, o1⟩
theorem gt_ite (hc : GT X W c (tr' fc)) (ha : GT X W a (tr' fa)) (hb : GT X W b (tr' fb)) : GT X W (.IfExp c a b pos) (tr' fun ρ st => (fc ρ st).bind fun v st1 => (truthR v st1).bind fun k st2 => if k then fa ρ st2 else fb ρ st2) := by
  refine ⟨fun pins s σ H Q I q => ?_⟩
  obtain ⟨m, ρ, st, r, o⟩ := q
  have o : Out (gx X) W m H σ ((tr' fc ρ st).bind fun k st2 => if k then tr' fa ρ st2 else tr' fb ρ st2) fun b _ _ H' => Q b H' := by
    have e : (tr' fun ρ st => (fc ρ st).bind fun v st1 => (truthR v st1).bind fun k st2 => if k then fa ρ st2 else fb ρ st2) ρ st = (tr' fc ρ st).bind fun k st2 => if k then tr' fa ρ st2 else tr' fb ρ st2 := by
      unfold tr'
      rw [R.bind_assoc, R.bind_assoc]
      congr 1
      funext v st1
      rw [R.bind_assoc]
      congr 1
      funext k st2
      cases k <;> rfl
    rw [e] at o; exact o
  refine isTrue_IfExp (thn (hc.run pins s σ H _ I ⟨m, ρ, st, r, (Out.bind o).imp fun k st1 m1 H1 e1 s1 o1 => (show (fun (k : Bool) (H1 : Hp) => if k = true then DT (gx X) W (tr' fa) σ H1 Q else DT (gx X) W (tr' fb) σ H1 Q) k H1 from ?_)⟩) fun d s1 ⟨H1, I1, q1⟩ => ?_)
  · cases k with
    | true => exact ⟨m1, ρ, st1, r.ext e1 s1, o1⟩
    | false => exact ⟨m1, ρ, st1, r.ext e1 s1, o1⟩
  · cases d with
    | true => exact ha.run pins s1 σ H1 Q I1 q1
    | false => exact hb.run pins s1 σ H1 Q I1 q1
end
end G
set_option Elab.async false
set_option linter.all false
set_option maxRecDepth 100000
/-! GH: what is under way is hidden; chains, displays, subscripts, calls -/
namespace G
open PySem PySem.Spec PyProof.Rows L2
/-! ### a new thing under way at p -/
def Mp.hide (m : Mp) (p : Addr) : Mp := ⟨m.ls, fun a => m.P a ∨ a = p⟩
/-- as Ext, but what stands at p may change -/
structure ExtD (p : Addr) (m : Mp) (H : Hp) (m' : Mp) (H' : Hp) : Prop where
  len : m.ls.length ≤ m'.ls.length
  at_ : ∀ n, n < m.ls.length → m'.ls[n]? = m.ls[n]? ∨ m'.ls[n]? = some none
  P : m'.P = m.P
  keep : ∀ a o, H a = some o → ¬ m.In a → a ≠ p → H' a = some o
  new : ∀ a, m'.In a → ¬ m.In a → H a = none
  no : ¬ m'.In p
theorem Ext.d {m m' : Mp} {H H' : Hp} (e : Ext m H m' H') {p : Addr} (h : ¬ m'.In p) : ExtD p m H m' H' := ⟨e.len, e.at_, e.P, fun a o h n _ => e.keep a o h n, e.new, h⟩
theorem ExtD.trans {p : Addr} {m m1 m2 : Mp} {H H1 H2 : Hp} (a : ExtD p m H m1 H1) (b : ExtD p m1 H1 m2 H2) : ExtD p m H m2 H2 where
  len := Nat.le_trans a.len b.len
  at_ := fun n hn => by
    rcases b.at_ n (Nat.lt_of_lt_of_le hn a.len) with e | e
    · rw [e]; exact a.at_ n hn
    · exact .inr e
  P := b.P.trans a.P
  keep := fun x o h n np => b.keep x o (a.keep x o h n np) (fun z => some_ne h (a.new x z n)) np
  new := fun x h n => by
    have np : x ≠ p := fun e => b.no (e ▸ h)
    by_cases z : m1.In x
    · exact a.new x z n
    · have q := b.new x h z
      cases e : H x with
      | none => rfl
      | some o => exact (some_ne (a.keep x o e n np) q).elim
  no := b.no
theorem ExtD.stay {p : Addr} {m m' : Mp} {H H' : Hp} (e : ExtD p m H m' H') (hp : m.P p) : Stay H m H' m' := fun a o h f => by
  have np : a ≠ p := fun z => f.2 (z ▸ hp)
  exact ⟨e.keep a o h f.1 np, fun z => some_ne h (e.new a z f.1), by rw [e.P]; exact f.2⟩
theorem Rep.stay' {K : PySem.W.Frag} {H H' : Hp} {m m' : Mp} (s : Stay H m H' m') (len : m.ls.length ≤ m'.ls.length) (at_ : ∀ n, n < m.ls.length → m'.ls[n]? = m.ls[n]? ∨ m'.ls[n]? = some none) {v : V} {x : Val} (h : Rep K H m v x) : Rep K H' m' v x := by
  cases h with
  | d h => exact .d (h.stay s)
  | scr h => exact .scr (h.imp (fun ⟨o, h1, h2⟩ => ⟨o, s _ _ h1 h2⟩) id)
  | loc hn h =>
    refine .loc (Nat.lt_of_lt_of_le hn len) fun a q => ?_
    rcases at_ _ hn with z | z
    · exact h a (z ▸ q)
    · rw [z] at q; cases q
theorem Rep.d' {K : PySem.W.Frag} {H H' : Hp} {m m' : Mp} {p : Addr} (e : ExtD p m H m' H') (hp : m.P p) {v : V} {x : Val} (h : Rep K H m v x) : Rep K H' m' v x := h.stay' (e.stay hp) e.len e.at_
section
variable {K : PySem.W.Frag} {H H' : Hp} {m m' : Mp} {p : Addr} {o o' : HO} {st : Store} {σ : L2.St} {ρ : Rho}
theorem hide_stay (hp : H p = none) : Stay H m (upd H p o) (m.hide p) := fun a u h f => ⟨le_upd hp a u h, f.1, fun z => z.elim f.2 fun e => some_ne h (by rw [e]; exact hp)⟩
theorem hide_rep (hp : H p = none) {v : V} {x : Val} (h : Rep K H m v x) : Rep K (upd H p o) (m.hide p) v x := h.stay' (hide_stay hp) (Nat.le_refl _) fun _ _ => .inl rfl
theorem cell_stay' {a : Addr} {c : Cell} (s : Stay H m H' m') (len : m.ls.length ≤ m'.ls.length) (at_ : ∀ n, n < m.ls.length → m'.ls[n]? = m.ls[n]? ∨ m'.ls[n]? = some none) (k : ∀ o, H a = some o → H' a = some o) (h : CellRel K H m a c) : CellRel K H' m' a c := by
  cases c with
  | lst ds => obtain ⟨xs, h1, h2⟩ := h; exact ⟨xs, k _ h1, Paired.mapP h2 fun _ _ z => z.stay' s len at_⟩
  | dct kvs => obtain ⟨xs, h1, h2⟩ := h; exact ⟨xs, k _ h1, Paired.mapP h2 fun _ _ z => ⟨z.1, z.2.stay' s len at_⟩⟩
  | dead => trivial
theorem hide_st (hp : H p = none) (s : StRel K H m st) : StRel K (upd H p o) (m.hide p) st where
  len := s.len
  inj := s.inj
  dead := s.dead
  np := fun a i z => z.elim (s.np a i) fun e => s.live a i (by rw [e]; exact hp)
  live := fun a i => by
    by_cases e : a = p
    · exact absurd hp (by rw [← e]; exact s.live a i)
    · rw [upd_ne e]; exact s.live a i
  trk := fun a z => by
    by_cases e : a = p
    · rw [e, upd_same]; exact fun q => by cases q
    · rw [upd_ne e]; exact s.trk a (z.elim id fun q => absurd q e)
  cell := fun n a c h1 h2 => cell_stay' (hide_stay hp) (Nat.le_refl _) (fun _ _ => .inl rfl) (le_upd hp a) (s.cell n a c h1 h2)
theorem hide_rel (hp : H p = none) (r : Rel K H m σ ρ st) : Rel K (upd H p o) (m.hide p) σ ρ st :=
  ⟨r.len, fun i x h => let ⟨v, h1, h2⟩ := r.env i x h; ⟨v, h1, hide_rep hp h2⟩, hide_st hp r.st⟩
/-- what comes of a hidden run -/
def Mp.back (m m' : Mp) : Mp := ⟨m'.ls, m.P⟩
theorem back_ext (hp : H p = none) (hl : ¬ m.In p) (e : ExtD p (m.hide p) (upd H p o) m' H') : Ext m H (m.back m') H' where
  len := e.len
  at_ := e.at_
  P := rfl
  keep := fun a u h n => e.keep a u (le_upd hp a u h) n (ne_of_none h hp)
  new := fun a h n => by
    have np : a ≠ p := fun z => e.no (z ▸ h)
    have q := e.new a h n
    rw [upd_ne np] at q; exact q
theorem back_stay (hP : m'.P = (m.hide p).P) : Stay H' m' (upd H' p o') (m.back m') := fun a u h f => by
  have np : a ≠ p := fun z => f.2 (by rw [hP]; exact .inr z)
  exact ⟨by rw [upd_ne np]; exact h, f.1, fun z => f.2 (by rw [hP]; exact .inl z)⟩
theorem back_stay0 (hP : m'.P = (m.hide p).P) : Stay H' m' H' (m.back m') := fun a u h f => ⟨h, f.1, fun z => f.2 (by rw [hP]; exact .inl z)⟩
theorem back_rep (hP : m'.P = (m.hide p).P) {v : V} {x : Val} (h : Rep K H' m' v x) : Rep K (upd H' p o') (m.back m') v x := h.stay' (back_stay hP) (Nat.le_refl _) fun _ _ => .inl rfl
theorem back_rep0 (hP : m'.P = (m.hide p).P) {v : V} {x : Val} (h : Rep K H' m' v x) : Rep K H' (m.back m') v x := h.stay' (back_stay0 hP) (Nat.le_refl _) fun _ _ => .inl rfl
theorem back_st0 (hP : m'.P = (m.hide p).P) (s : StRel K H' m' st) : StRel K H' (m.back m') st where
  len := s.len
  inj := s.inj
  dead := s.dead
  np := fun a i z => s.np a i (by rw [hP]; exact .inl z)
  live := s.live
  trk := fun a z => s.trk a (by rw [hP]; exact .inl z)
  cell := fun n a c h1 h2 => cell_stay' (back_stay0 hP) (Nat.le_refl _) (fun _ _ => .inl rfl) (fun _ q => q) (s.cell n a c h1 h2)
theorem back_st (hP : m'.P = (m.hide p).P) (s : StRel K H' m' st) : StRel K (upd H' p o') (m.back m') st where
  len := s.len
  inj := s.inj
  dead := s.dead
  np := fun a i z => s.np a i (by rw [hP]; exact .inl z)
  live := fun a i => by
    have np : a ≠ p := fun e => s.np a i (by rw [hP]; exact .inr e)
    rw [upd_ne np]; exact s.live a i
  trk := fun a z => by
    by_cases e : a = p
    · rw [e, upd_same]; exact fun q => by cases q
    · rw [upd_ne e]; exact s.trk a (by rw [hP]; exact .inl z)
  cell := fun n a c h1 h2 => by
    have np : a ≠ p := fun e => s.np a (List.mem_of_getElem? h1) (by rw [hP]; exact .inr e)
    exact cell_stay' (back_stay hP) (Nat.le_refl _) (fun _ _ => .inl rfl) (fun u q => by rw [upd_ne np]; exact q) (s.cell n a c h1 h2)
/-- p new, shown -/
theorem back_ext' (hp : H p = none) (hl : ¬ m.In p) (e : ExtD p (m.hide p) (upd H p o) m' H') : Ext m H (m.back m') (upd H' p o') where
  len := e.len
  at_ := e.at_
  P := rfl
  keep := fun a u h n => by
    have np := ne_of_none h hp
    rw [upd_ne np]; exact e.keep a u (le_upd hp a u h) n np
  new := (back_ext hp hl e).new
theorem ERel.stay {g : Gx} {e : Exn} {cls : Value} {dd : Option Addr} (s : Stay H m H' m') (len : m.ls.length ≤ m'.ls.length) (at_ : ∀ n, n < m.ls.length → m'.ls[n]? = m.ls[n]? ∨ m'.ls[n]? = some none) (h : ERel g H m e cls dd) : ERel g H' m' e cls dd := by
  obtain ⟨C, h1, h2, h3⟩ := h
  refine ⟨C, h1, h2, h3.imp id ?_⟩
  rintro ⟨d, fs, e1, e2, e3, e4⟩
  obtain ⟨q1, q2⟩ := s _ _ e2 e3
  exact ⟨d, fs, e1, q1, q2, Paired.mapP e4 fun _ _ z => ⟨z.1, z.2.stay' s len at_⟩⟩
end
section
variable {X : Cx} {W : WX} {a b c e : Expr} {pos : Pos} {fa fb fc : Rho → Store → R Val} {es : List Expr} {fs : Rho → Store → R (List Val)}
/-! ### and, or -/
theorem ge_one {op : BoolOp} (ha : GE X W a fa) : GE X W (.BoolOp op [a] pos) fa := pe_one ha
def mAnd (fa fb : Rho → Store → R Val) : Rho → Store → R Val := fun ρ st => (fa ρ st).bind fun v st1 => (truthR v st1).bind fun k st2 => if k then fb ρ st2 else .ok v st2
def mOr (fa fb : Rho → Store → R Val) : Rho → Store → R Val := fun ρ st => (fa ρ st).bind fun v st1 => (truthR v st1).bind fun k st2 => if k then .ok v st2 else fb ρ st2
theorem ge_and {rest : List Expr} (ha : GE X W a fa) (hb : GE X W (.BoolOp .And (b :: rest) pos) fb) : GE X W (.BoolOp .And (a :: b :: rest) pos) (mAnd fa fb) := PEw (pe_andT ha hb) fun σ H Q q => by
  obtain ⟨m, ρ, st, r, o⟩ := q
  refine ⟨m, ρ, st, r, (Out.bind o).imp fun v st1 m1 H1 e1 s1 o1 x rx => ?_⟩
  obtain ⟨k, hk, q⟩ := Out.opt (Out.bind o1) s1
  refine ⟨k, rep_tru s1 rx hk, ?_⟩
  cases k with
  | true => exact ⟨m1, ρ, st1, r.ext e1 s1, q⟩
  | false => exact (Out.here q s1) _ rx
theorem ge_or {rest : List Expr} (ha : GE X W a fa) (hb : GE X W (.BoolOp .Or (b :: rest) pos) fb) : GE X W (.BoolOp .Or (a :: b :: rest) pos) (mOr fa fb) := PEw (pe_orT ha hb) fun σ H Q q => by
  obtain ⟨m, ρ, st, r, o⟩ := q
  refine ⟨m, ρ, st, r, (Out.bind o).imp fun v st1 m1 H1 e1 s1 o1 x rx => ?_⟩
  obtain ⟨k, hk, q⟩ := Out.opt (Out.bind o1) s1
  refine ⟨k, rep_tru s1 rx hk, ?_⟩
  cases k with
  | true => exact (Out.here q s1) _ rx
  | false => exact ⟨m1, ρ, st1, r.ext e1 s1, q⟩
theorem gw_and1 (ha : GT X W a (tr' fa)) : GTw X W (.BoolOp .And [a] pos) (tr' fa) := pw_and1 ha
theorem gw_or1 (ha : GT X W a (tr' fa)) : GTw X W (.BoolOp .Or [a] pos) (tr' fa) := pw_or1 ha
theorem truth_twice {v : Val} {st st1 : Store} {k : Bool} (h : truthR v st = .ok k st1) : st1 = st ∧ truthO st v = some k := by
  unfold truthR at h
  cases e : truthO st v with
  | none => rw [e] at h; cases h
  | some b => rw [e] at h; cases h; exact ⟨rfl, rfl⟩
theorem tr_and (ρ : Rho) (st : Store) : tr' (mAnd fa fb) ρ st = (tr' fa ρ st).bind fun k st1 => if k then tr' fb ρ st1 else .ok false st1 := by
  unfold tr' mAnd
  rw [R.bind_assoc, R.bind_assoc]
  congr 1
  funext v st1
  cases e : truthR v st1 with
  | no => rfl
  | exc x s => rfl
  | ok k s =>
    obtain ⟨rfl, h2⟩ := truth_twice e
    cases k with
    | true => rfl
    | false => exact e
theorem tr_or (ρ : Rho) (st : Store) : tr' (mOr fa fb) ρ st = (tr' fa ρ st).bind fun k st1 => if k then .ok true st1 else tr' fb ρ st1 := by
  unfold tr' mOr
  rw [R.bind_assoc, R.bind_assoc]
  congr 1
  funext v st1
  cases e : truthR v st1 with
  | no => rfl
  | exc x s => rfl
  | ok k s =>
    obtain ⟨rfl, h2⟩ := truth_twice e
    cases k with
    | true => exact e
    | false => rfl
theorem gw_and {rest : List Expr} (ha : GT X W a (tr' fa)) (hb : GTw X W (.BoolOp .And (b :: rest) pos) (tr' fb)) : GTw X W (.BoolOp .And (a :: b :: rest) pos) (tr' (mAnd fa fb)) := PWw (pw_and ha hb) fun σ H Q q => by
  obtain ⟨m, ρ, st, r, o⟩ := q
  rw [tr_and] at o
  refine ⟨m, ρ, st, r, (Out.bind o).imp fun k st1 m1 H1 e1 s1 o1 => ?_⟩
  cases k with
  | true => exact ⟨m1, ρ, st1, r.ext e1 s1, o1⟩
  | false => exact Out.here o1 s1
theorem gw_or {rest : List Expr} (ha : GT X W a (tr' fa)) (hb : GTw X W (.BoolOp .Or (b :: rest) pos) (tr' fb)) : GTw X W (.BoolOp .Or (a :: b :: rest) pos) (tr' (mOr fa fb)) := PWw (pw_or ha hb) fun σ H Q q => by
  obtain ⟨m, ρ, st, r, o⟩ := q
  rw [tr_or] at o
  refine ⟨m, ρ, st, r, (Out.bind o).imp fun k st1 m1 H1 e1 s1 o1 => ?_⟩
  cases k with
  | true => exact Out.here o1 s1
  | false => exact ⟨m1, ρ, st1, r.ext e1 s1, o1⟩
theorem gt_w {f : Rho → Store → R Bool} (h : GTw X W e f) : GT X W e f := ⟨fun pins s σ H Q I q => h.run _ pins s σ H Q I q⟩
/-! ### lists of expressions -/
theorem ga_nil : GAs X W [] (fun _ st => .ok [] st) := PAw pa_nil fun σ H Q q => by
  obtain ⟨m, ρ, st, r, o⟩ := q
  exact (Out.here o r.st) [] .nil
theorem ga_cons (hp : pln e = true) (ha : GE X W e fa) (hs : GAs X W es fs) : GAs X W (e :: es) (fun ρ st => (fa ρ st).bind fun v st1 => (fs ρ st1).bind fun vs st2 => .ok (v :: vs) st2) := PAw (pa_cons ha hs (star_pln hp _ _)) fun σ H Q q => by
  obtain ⟨m, ρ, st, r, o⟩ := q
  refine ⟨m, ρ, st, r, (Out.bind o).imp fun v st1 m1 H1 e1 s1 o1 x rx => ?_⟩
  refine ⟨m1, ρ, st1, r.ext e1 s1, (Out.bind o1).imp fun vs st2 m2 H2 e2 s2 o2 xs rs => ?_⟩
  exact (Out.here o2 s2) _ (.cons (rx.ext e2) rs)
/-! ### displays -/
theorem ge_tup {k : Nat} (h : GAs X W es fs) : GE X W (.Tuple es k pos) (fun ρ st => (fs ρ st).bind fun vs st1 => match datas vs with
    | some ds => if ds.length ≤ sizeLine then .ok (.d (.tuple ds)) st1 else .no
    | none => .no) := PEw (pe_tup h) fun σ H Q q => by
  obtain ⟨m, ρ, st, r, o⟩ := q
  refine ⟨m, ρ, st, r, (Out.bind o).imp fun vs st1 m1 H1 e1 s1 o1 xs rs => ?_⟩
  dsimp only at o1
  split at o1
  · rename_i ds hds
    have rd := repds_of rs hds
    split at o1
    · rename_i hl
      refine ⟨by rw [Paired.length rd.pair]; exact hl, fun p hp => ?_⟩
      exact o1 _ _ (ext_of_le (le_upd hp)) (s1.le (le_upd hp)) _ (rep_new_tup s1 hp rd)
    · exact o1.elim
  · exact o1.elim
theorem mk_list {g : Gx} {m : Mp} {H : Hp} {σ : L2.St} {st : Store} {mu : Bool} {vs : List Val} {xs : List V} {Q : VK} (s : StRel g.K H m st) (rs : Reps g.K H m xs vs) (o : Out g W m H σ (mkList mu vs st) fun x _ m' H' => ∀ v, Rep g.K H' m' v x → Q v H') :
    xs.length ≤ sizeLine ∧ ∀ p, H p = none → Q (.ref p) (upd H p (.lst xs)) := by
  unfold mkList at o
  split at o
  · rename_i hl
    refine ⟨by rw [Paired.length rs]; exact hl, fun p hp => ?_⟩
    split at o
    · have c : CellRel g.K (upd H p (.lst xs)) (m.push p) p (.lst vs) := ⟨xs, upd_same, rs.ext (alloc_ext hp)⟩
      exact o _ _ (alloc_ext hp) (alloc_rel s hp c) _ (rep_new_loc s.len)
    · split at o
      · rename_i ds hds
        exact o _ _ (ext_of_le (le_upd hp)) (s.le (le_upd hp)) _ (rep_new_lst s hp (repds_of rs hds))
      · exact o.elim
  · exact o.elim
theorem ge_lst {mu : Bool} (h : GAs X W es fs) : GE X W (.List es pos) (fun ρ st => (fs ρ st).bind fun vs st1 => mkList mu vs st1) := PEw (pe_lst h) fun σ H Q q => by
  obtain ⟨m, ρ, st, r, o⟩ := q
  exact ⟨m, ρ, st, r, (Out.bind o).imp fun vs st1 m1 H1 e1 s1 o1 xs rs => mk_list s1 rs o1⟩
/-! ### subscripts -/
theorem ge_ix (C : Cok X) (hp : pln b = true) (ha : GE X W a fa) (hb : GE X W b fb) : GE X W (.Subscript a b pos) (mBin oIx fa fb) := PEw (pe_ix (so_ix C) ha hb (ix_ok hp)) fun _ _ _ h => de_op h
def DO (g : Gx) (W : WX) (f : Rho → Store → R (Option Int)) : TO := fun σ H Q => ∃ m ρ st, Rel g.K H m σ ρ st ∧ Out g W m H σ (f ρ st) fun o _ _ H' => Q o H'
abbrev GOp (X : Cx) (W : WX) (e : Option Expr) (f : Rho → Store → R (Option Int)) : Prop := PO X e (DO (gx X) W f)
theorem POw {e : Option Expr} {t t' : TO} (h : PO X e t) (w : ∀ σ H Q, t' σ H Q → t σ H Q) : PO X e t' := ⟨fun pins s σ H Q I q => h.run pins s σ H Q I (w σ H Q q)⟩
theorem go_none : GOp X W none (fun _ st => .ok none st) := POw po_none fun σ H Q q => by
  obtain ⟨m, ρ, st, r, o⟩ := q
  exact Out.here o r.st
theorem go_some (ha : GE X W a fa) : GOp X W (some a) (fun ρ st => (fa ρ st).bind fun v st1 => match v with | .d (.int i) => .ok (some i) st1 | _ => .no) := POw (po_some ha) fun σ H Q q => by
  obtain ⟨m, ρ, st, r, o⟩ := q
  refine ⟨m, ρ, st, r, (Out.bind o).imp fun v st1 m1 H1 e1 s1 o1 x rx => ?_⟩
  split at o1
  · rename_i i
    obtain rfl := inv_int rx
    exact ⟨i, rfl, Out.here o1 s1⟩
  · exact o1.elim
theorem ge_slice {lo hi : Option Expr} {p2 : Pos} {fl fh : Rho → Store → R (Option Int)} (ha : GE X W a fa) (hl : GOp X W lo fl) (hh : GOp X W hi fh) : GE X W (.Subscript a (.Slice lo hi none p2) pos) (fun ρ st => (fa ρ st).bind fun x st1 => (fl ρ st1).bind fun l st2 => (fh ρ st2).bind fun u st3 => R.ofO (oSlice x l u st3)) :=
  PEw (pe_slice so_slice ha hl hh) fun σ H Q q => by
    obtain ⟨m, ρ, st, r, o⟩ := q
    refine ⟨m, ρ, st, r, (Out.bind o).imp fun v st1 m1 H1 e1 s1 o1 x rx => ?_⟩
    refine ⟨m1, ρ, st1, r.ext e1 s1, (Out.bind o1).imp fun l st2 m2 H2 e2 s2 o2 => ?_⟩
    refine ⟨m2, ρ, st2, (r.ext e1 s1).ext e2 s2, (Out.bind o2).imp fun u st3 m3 H3 e3 s3 o3 => ?_⟩
    exact ⟨m3, st3, v, s3, (rx.ext e2).ext e3, Out.ofO o3⟩
/-! ### calls of what is built in -/
theorem plain_back {pos : Pos} {env : Env} : ∀ {es : List Expr}, (∀ e ∈ es, pln e = true) → (backTo pos (starEach es env)).any (·.1) = false
  | [], _ => rfl
  | e :: es, h => by
    rw [star_pln (h e List.mem_cons_self)]
    show (false || (backTo pos (starEach es env)).any (·.1)) = false
    rw [plain_back fun x hx => h x (List.mem_cons_of_mem _ hx)]; rfl
theorem few_back {pos : Pos} {env : Env} : ∀ {es : List Expr}, (∀ e ∈ es, pln e = true) → (backTo pos (starEach es env)).all (fun x => !x.1) = true
  | [], _ => rfl
  | e :: es, h => by
    rw [star_pln (h e List.mem_cons_self)]
    show (!false && (backTo pos (starEach es env)).all (fun x => !x.1)) = true
    rw [few_back fun x hx => h x (List.mem_cons_of_mem _ hx)]; rfl
theorem ge_builtin {id : String} {x : Str} {p : Pos} {op : OpN} (hc : GN X (.builtin id) op) (hg : Gl X x) (hm : X.mg x = none) (hv : bootBuiltins x = some (.builtin id)) (hn : x ≠ "__name__") (hdb : (x == ("__debug__" : Str)) = false)
    (hp : ∀ y ∈ e :: es, pln y = true) (ha : GAs X W (e :: es) fs) : GE X W (.Call (.Name x p) (e :: es) [] pos) (fun ρ st => (fs ρ st).bind fun vs st1 => R.ofO (op vs st1)) :=
  PEw (pe_callB hc hg hm hv ha hn hdb (star_pln (hp e List.mem_cons_self) _ _) (plain_back fun y hy => hp y (List.mem_cons_of_mem _ hy))) fun σ H Q q => by
    obtain ⟨m, ρ, st, r, o⟩ := q
    exact ⟨m, ρ, st, r, (Out.bind o).imp fun vs st1 m1 H1 e1 s1 o1 xs rs => ⟨m1, st1, vs, s1, rs, Out.ofO o1⟩⟩
theorem ge_type {T : String} {x : Str} {p : Pos} {op : OpN} (hc : GN X (.type T) op) (hg : Gl X x) (hm : X.mg x = none) (hv : bootBuiltins x = some (.type T)) (hn : x ≠ "__name__") (hdb : (x == ("__debug__" : Str)) = false)
    (hp : ∀ y ∈ e :: es, pln y = true) (ha : GAs X W (e :: es) fs) : GE X W (.Call (.Name x p) (e :: es) [] pos) (fun ρ st => (fs ρ st).bind fun vs st1 => R.ofO (op vs st1)) :=
  PEw (pe_callTy hc hg hm hv ha hn hdb (star_pln (hp e List.mem_cons_self) _ _) (plain_back fun y hy => hp y (List.mem_cons_of_mem _ hy))) fun σ H Q q => by
    obtain ⟨m, ρ, st, r, o⟩ := q
    exact ⟨m, ρ, st, r, (Out.bind o).imp fun vs st1 m1 H1 e1 s1 o1 xs rs => ⟨m1, st1, vs, s1, rs, Out.ofO o1⟩⟩
/-- isinstance(a, T) -/
theorem ge_isi1 {t : Ty} {x y : Str} {p p2 : Pos} (hg : Gl X x) (hm : X.mg x = none) (hv : bootBuiltins x = some (.builtin "isinstance")) (hn : x ≠ "__name__") (hdb : (x == ("__debug__" : Str)) = false)
    (hg2 : Gl X y) (hm2 : X.mg y = none) (hv2 : bootBuiltins y = some (.type (tyN t))) (hn2 : y ≠ "__name__") (hdb2 : (y == ("__debug__" : Str)) = false)
    (hp : pln a = true) (ha : GE X W a fa) : GE X W (.Call (.Name x p) [a, .Name y p2] [] pos) (fun ρ st => (fa ρ st).bind fun v st1 => R.ofO ((isiO st1 v [t]).bind fun k => bl st1 k)) :=
  PEw (pe_callB (call_isG t) hg hm hv (pa_cons ha (pa_cons (pe_bltn hg2 hm2 hv2 (r := (show RelV (.ty (tyN t)) _ from rfl)) hn2 hdb2) pa_nil rfl) (star_pln hp _ _)) hn hdb (star_pln hp _ _) rfl) fun σ H Q q => by
    obtain ⟨m, ρ, st, r, o⟩ := q
    exact ⟨m, ρ, st, r, (Out.bind o).imp fun v st1 m1 H1 e1 s1 o1 x rx => ⟨m1, st1, x, v, s1, rfl, rx, Out.ofO o1⟩⟩
/-! ### methods -/
theorem ge_me {m : Me} {id : String} {name : Str} {apos cpos : Pos} {k : Nat} (pa : PlainAttrs (tyRecv m)) (slot : Slot (tyRecv m) name id) (hty : typeOf (.builtin id) = pure (.type "method_descriptor")) (hm : GM X id (meO m))
    (hp : ∀ y ∈ e :: es, pln y = true) (hb : nbase a = true) (hk : (e :: es).length < 30) (hl : (apos.endLine == cpos.line) = true) (ha : GE X W a fa) (hs : GAs X W (e :: es) fs) :
    GE X W (.Call (.Attribute a name apos) (e :: es) [] cpos) (fun ρ st => (fa ρ st).bind fun x st1 => if recv m st1 x = true then (fs ρ st1).bind fun vs st2 => R.ofO (meO m x vs st2) else .no) :=
  PEw (pe_bm pa slot hty hm ha hs (base_ok hb _ _) (by
      rw [few_back hp]
      show (true && true && decide _) = true
      simpa using hk) hl (star_pln (hp e List.mem_cons_self) _ _) (plain_back fun y hy => hp y (List.mem_cons_of_mem _ hy))) fun σ H Q q => by
    obtain ⟨mm, ρ, st, r, o⟩ := q
    refine ⟨mm, ρ, st, r, (Out.bind o).imp fun v st1 m1 H1 e1 s1 o1 x rx => ?_⟩
    dsimp only at o1
    split at o1
    · rename_i hr
      refine ⟨recv_ty s1 rx hr, m1, ρ, st1, r.ext e1 s1, (Out.bind o1).imp fun vs st2 m2 H2 e2 s2 o2 xs rs => ?_⟩
      exact ⟨m2, st2, v, vs, s2, rx.ext e2, rs, Out.ofO o2⟩
    · exact o1.elim
theorem ge_me0 {m : Me} {id : String} {name : Str} {apos cpos : Pos} (pa : PlainAttrs (tyRecv m)) (slot : Slot (tyRecv m) name id) (hty : typeOf (.builtin id) = pure (.type "method_descriptor")) (hm : GM X id (meO m))
    (hb : nbase a = true) (hl : (apos.endLine == cpos.line) = true) (ha : GE X W a fa) :
    GE X W (.Call (.Attribute a name apos) [] [] cpos) (fun ρ st => (fa ρ st).bind fun x st1 => if recv m st1 x = true then (R.ok [] st1).bind fun vs st2 => R.ofO (meO m x vs st2) else .no) :=
  PEw (pe_bm0 pa slot hty hm ha (base_ok hb _ _) hl) fun σ H Q q => by
    obtain ⟨mm, ρ, st, r, o⟩ := q
    refine ⟨mm, ρ, st, r, (Out.bind o).imp fun v st1 m1 H1 e1 s1 o1 x rx => ?_⟩
    dsimp only at o1
    split at o1
    · rename_i hr
      exact ⟨recv_ty s1 rx hr, m1, st1, v, [], s1, rx, .nil, Out.ofO o1⟩
    · exact o1.elim
theorem ls_set {m : Mp} {n i : Nat} {x : Addr} (h : (m.ls.set n none)[i]? = some (some x)) : i ≠ n ∧ m.ls[i]? = some (some x) := by
  by_cases e : n = i
  · subst e
    by_cases hl : n < m.ls.length
    · rw [List.getElem?_set_self hl] at h; cases h
    · rw [List.getElem?_eq_none (by simpa using hl)] at h; cases h
  · rw [List.getElem?_set_ne e] at h
    exact ⟨fun z => e z.symm, h⟩
/-- a cell's list is data from here on: nothing is run -/
theorem frz_ext {m : Mp} {H : Hp} {n : Nat} : Ext m H ⟨m.ls.set n none, m.P⟩ H where
  len := by simp
  at_ := fun k hk => by
    by_cases e : n = k
    · subst e; exact .inr (List.getElem?_set_self hk)
    · exact .inl (List.getElem?_set_ne e)
  P := rfl
  keep := fun a o h _ => h
  new := fun a h nn => by
    obtain ⟨i, hi⟩ := List.mem_iff_getElem?.mp h
    exact absurd (List.mem_iff_getElem?.mpr ⟨i, (ls_set hi).2⟩) nn
theorem frz_st {K : PySem.W.Frag} {m : Mp} {H : Hp} {st : Store} {n : Nat} (s : StRel K H m st) : StRel K H ⟨m.ls.set n none, m.P⟩ (st.set n .dead) where
  len := by simp [s.len]
  inj := fun i j a h1 h2 => s.inj i j a (ls_set h1).2 (ls_set h2).2
  dead := fun k h => by
    by_cases e : n = k
    · subst e
      have hl : n < st.length := by
        have q := (List.getElem?_eq_some_iff.mp h).1
        simp only [List.length_set] at q
        rw [← s.len]; exact q
      exact List.getElem?_set_self hl
    · rw [List.getElem?_set_ne e]
      have h : (m.ls.set n none)[k]? = some none := h
      rw [List.getElem?_set_ne e] at h
      exact s.dead k h
  np := fun a h => s.np a (by
    obtain ⟨i, hi⟩ := List.mem_iff_getElem?.mp h
    exact List.mem_iff_getElem?.mpr ⟨i, (ls_set hi).2⟩)
  live := fun a h => s.live a (by
    obtain ⟨i, hi⟩ := List.mem_iff_getElem?.mp h
    exact List.mem_iff_getElem?.mpr ⟨i, (ls_set hi).2⟩)
  trk := s.trk
  cell := fun k a c h1 h2 => by
    obtain ⟨nk, q⟩ := ls_set h1
    rw [List.getElem?_set_ne (fun z => nk z.symm)] at h2
    exact (s.cell k a c q h2).ext frz_ext fun _ z => z
def mFrz (fa : Rho → Store → R Val) : Rho → Store → R Val := fun ρ st => (fa ρ st).bind fun v st1 => match v with
    | .loc n => match st1[n]? with
      | some (.lst xs) => match datas xs with
        | some ds => .ok (.d (.list ds)) (st1.set n .dead)
        | none => .no
      | _ => .no
    | v => .ok v st1
theorem ge_frz (ha : GE X W a fa) : GE X W a (mFrz fa) := PEw ha fun σ H Q q => by
  obtain ⟨m, ρ, st, r, o⟩ := q
  refine ⟨m, ρ, st, r, (Out.bind o).imp fun v st1 m1 H1 e1 s1 o1 x rx => ?_⟩
  dsimp only at o1
  split at o1
  · rename_i n
    split at o1
    · rename_i xs hx
      split at o1
      · rename_i ds hd
        obtain ⟨p, hp, rfl, vs, hH, rs⟩ := cell_at s1 rx hx (fun z => by cases z)
        refine o1 _ _ frz_ext (frz_st s1) _ (.d (.lst (xs := vs) ⟨hH, ?_, ?_⟩ (repds_of (rs.ext frz_ext) hd)))
        · intro z
          obtain ⟨i, hi⟩ := List.mem_iff_getElem?.mp z
          obtain ⟨h1, h2⟩ := ls_set hi
          exact h1 (s1.inj i n p h2 hp)
        · exact s1.np p (List.mem_of_getElem? hp)
      · exact o1.elim
    · exact o1.elim
  · exact (Out.here o1 s1) _ rx
end
end G
set_option Elab.async false
set_option linter.all false
set_option maxRecDepth 100000
/-! GEn: enumerate over a list or a tuple -/
namespace L2
open PySem PySem.Spec PyProof.Rows
set_option maxHeartbeats 1000000 in
theorem meets_enumerate_newT {v : Value} {o : Obj} {H : Heap → Prop} (B : Begins v o H) :
    Meets (Builtin.«enumerate.__new__» ⟨[.type "enumerate", v], []⟩) (fun _ R s => H s.heap ∧
      R (.ok (.ret (.ref (s.heap.push o).objs.size))) { s with heap := (s.heap.push o).push { cls := .type "enumerate", data := .fields #[.none, .bool false, .ref s.heap.objs.size, rawInt 0, .none, .none] } }) :=
  .of_wp fun prog w A R s h => by
    obtain ⟨hp, g, d, tk, os⟩ := s; obtain ⟨h1, h⟩ := h
    have hsub := sub_enumerate
    have q1 : ∀ {A' : Around} {E : Value → Shared → Prop} {Q : Value → Shared → Prop}, Q (.ref hp.objs.size) ⟨hp.push o, g, d, tk, os⟩ → wpAny (model prog w) A' (pyIter v) Q E ⟨hp, g, d, tk, os⟩ :=
      fun q => B.iter prog w _ _ ⟨hp, g, d, tk, os⟩ _ h1 q
    wp_walk using q1
    refine wpAny_stack_any fun st => wpAny_pure ?_
    split
    · rename_i c _ _ _ _ _
      cases (c == Value.type "enumerate")
      · wp_walk using q1
        exact ⟨_, rfl, h⟩
      · wp_walk using q1
        exact ⟨_, rfl, h⟩
    · wp_walk using q1
      exact ⟨_, rfl, h⟩
section
variable {prog : Program} {w : World} {A : Around} {E : Value → Shared → Prop} {s : Shared}
theorem call_enumerate_tup {l : Addr} {items : Array Value} {Q : Value → Shared → Prop} (hL : s.heap.IsTuple l items)
    (h : ∀ h', IsEnum h' (s.heap.objs.size + 1) s.heap.objs.size 0 .none → h'.IsTupleIter s.heap.objs.size l 0 → h'.objs.size = s.heap.objs.size + 2 →
      (∀ b o, s.heap.get? b = some o → h'.get? b = some o) → Q (.ref (s.heap.objs.size + 1)) { s with heap := h' }) :
    wpAny (model prog w) A (call (.type "enumerate") [.ref l]) Q E s := by
  refine callType_new F.called_enumerate (by decide) (F.typeCall_enumerate_1 _) (F.newCall_enumerate_1 _) (fun obj => F.args_object_init_2 obj _) F.entry_enumerate_new
    (meets_enumerate_newT (begins_tuple l items)) ⟨hL, ?_⟩
  have hz : (s.heap.push { cls := .type "tuple_iterator", data := .fields #[.ref l, .int 0 0] }).objs.size = s.heap.objs.size + 1 := Heap.size_push ..
  show _ ∧ _
  rw [hz]
  have he : IsEnum ((s.heap.push { cls := .type "tuple_iterator", data := .fields #[.ref l, .int 0 0] }).push
      { cls := .type "enumerate", data := .fields #[.none, .bool false, .ref s.heap.objs.size, rawInt 0, .none, .none] }) (s.heap.objs.size + 1) s.heap.objs.size 0 .none := by
    have := Heap.get?_push_size (s.heap.push { cls := .type "tuple_iterator", data := .fields #[.ref l, .int 0 0] })
      (o := { cls := .type "enumerate", data := .fields #[.none, .bool false, .ref s.heap.objs.size, rawInt 0, .none, .none] }) rfl
    rw [hz] at this; exact this
  refine ⟨⟨_, he, rfl⟩, h _ he ⟨_, Heap.get?_push_of_some _ (Heap.get?_push_size _ rfl), rfl, rfl⟩ (by rw [Heap.size_push, hz]) fun b o x => Heap.get?_push_of_some _ (Heap.get?_push_of_some _ x)⟩
end
/-- the tuple at a, each item in a new pair -/
def IteT (K : PySem.W.Frag) (a : Addr) : It :=
  ⟨fun i H => ∃ (xs : List V) (x : V), SqT K H a xs ∧ xs[i]? = some x, fun i H v H' => ∃ T x, v = .ref T ∧ H T = none ∧ H' = upd H T (.tup [.int (i : Nat), x]) ∧ ∀ xs, SqT K H a xs → xs[i]? = some x, fun i H => ∃ xs : List V, SqT K H a xs ∧ xs.length ≤ i⟩
theorem turn_enumT {P : Program} {w : World} {K : PySem.W.Frag} {elts : List Expr} {kk : Nat} {tpos : Pos} (a e it : Addr) :
    Turn P w K (.Tuple elts kk tpos) (IteT K a) [e, it] e (fun i h => (∃ old, IsEnum h e it ((i : Nat) : Int) old) ∧ h.IsTupleIter it a i ∧ e ≠ it) where
  mem := by simp
  obj := fun i h st b hb => by
    obtain ⟨⟨old, he⟩, ⟨o, ho, hc, hd⟩, _⟩ := st
    have e' : b = e ∨ b = it := by simpa using hb
    rcases e' with z | z
    · rw [z]; exact ⟨_, he, fun v q => nomatch q⟩
    · rw [z]; exact ⟨o, ho, fun v q => by rw [hd] at q; cases q⟩
  keep := fun i h h' st k => let ⟨⟨old, he⟩, hi, hne⟩ := st; ⟨⟨old, k e (by simp) _ he⟩, hi.at fun o q => k it (by simp) o q, hne⟩
  item := by
    intro X hP hw hK hc i pins s σ H E I hf st hg
    subst hP hw hK
    obtain ⟨⟨old, he⟩, hit, hne⟩ := st
    obtain ⟨xs, x, hq, hx⟩ := hg
    obtain ⟨its, rv, p, hz⟩ := I.tuple hq
    obtain ⟨u, hu, ru⟩ := rv.get hx
    have hel : e < s.heap.objs.size := Heap.lt_size he
    have hil : it < s.heap.objs.size := by obtain ⟨_, q, _⟩ := hit; exact Heap.lt_size q
    have hpT : s.heap.IsTuple a its.toArray := p
    have hae : e ≠ a := fun z => by
      obtain ⟨o, h1, h2, _⟩ := hpT
      have he' : s.heap.get? e = some _ := he
      rw [← z, he'] at h1
      cases h1
      exact absurd h2 (by simp)
    have hai : a ≠ it := fun z => by
      obtain ⟨o, h1, h2, _⟩ := hpT
      obtain ⟨o', h3, h4, _⟩ := hit
      rw [z, h3] at h1
      cases h1
      rw [h4] at h2
      exact absurd h2 (by simp)
    have D := Draws.tuple (prog := X.prog) (w := X.w) (A := X.A.in1) (I.ok.hd hc) it a hai its.toArray
    have hlt : i < its.toArray.size := by
      have := (List.getElem?_eq_some_iff.mp hu).1
      simpa using this
    refine wpAny_pyNext_enum_itemD D he ⟨hit, hpT⟩ hlt hne (by simp [hne, hae]) fun u' h' tk hP ho hst' hT hsz hk => ?_
    have hu' : u' = u := by
      have hP : its.toArray[i]? = some u' := hP
      rw [List.getElem?_toArray, hu] at hP
      exact (Option.some.inj hP).symm
    subst hu'
    refine ⟨_, rfl, wpAny_letOwnedTupleGo_enum (s := { s with heap := h', toks := tk + 1 }) ho fun h'' he' sb => ?_⟩
    have hT2 : h''.get? s.heap.objs.size = some { cls := .type "tuple", data := .seq #[.int i tk, u'] } := (sb.2 _ (Nat.ne_of_gt hel)).trans hT
    have new : ObjOk X.prog X.w (upd H s.heap.objs.size (.tup [.int (i : Nat), x])) h'' s.heap.objs.size (.tup [.int (i : Nat), x]) :=
      ⟨by show 2 ≤ sizeLine; decide, [.int i tk, u'], .cons ⟨_, rfl⟩ (.cons ru .nil), ⟨_, hT2, rfl, _, rfl⟩⟩
    have I1 : Inv X pins σ (upd H s.heap.objs.size (.tup [.int (i : Nat), x])) { s with heap := h'', toks := tk + 1 } :=
      I.turnedNew (ch := [e, it]) (fun b ob hb q => (sb.2 b (fun z => hb (by simp [z]))).trans (hk b ob (fun z => hb (by simp [z])) (fun z => hb (by simp [z])) q)) hf (Nat.le_refl _) new
    refine ⟨.ref s.heap.objs.size, _, I1, rfl, ⟨_, x, rfl, I.hok.fresh (Nat.le_refl _), rfl, fun ys hy => by rw [I.tuple_inj hy hq]; exact hx⟩, ⟨⟨u', ?_⟩, hst'.1.at fun o q => (sb.2 it (Ne.symm hne)).trans q, hne⟩, fun b hb => ?_⟩
    · have e1 : ((i + 1 : Nat) : Int) = (i : Int) + 1 := by omega
      rw [e1]; exact he'
    · have hb' : b < s.heap.objs.size := by
        have e' : b = e ∨ b = it := by simpa using hb
        rcases e' with z | z
        · rw [z]; exact hel
        · rw [z]; exact hil
      rw [upd_ne (Nat.ne_of_lt hb')]
      exact (hf b hb).1
  done := by
    intro X hP hw hK hc i pins s σ H E I hf st hg
    subst hP hw hK
    obtain ⟨⟨old, he⟩, hit, hne⟩ := st
    obtain ⟨xs, hq, hx⟩ := hg
    obtain ⟨its, rv, p, hz⟩ := I.tuple hq
    obtain ⟨f0, f1, f2, f3, f4, f5⟩ := hf it (by simp)
    have hl := rv.length
    have hpT : s.heap.IsTuple a its.toArray := p
    have hai : a ≠ it := fun z => by
      obtain ⟨o, h1, h2, _⟩ := hpT
      obtain ⟨o', h3, h4, _⟩ := hit
      rw [z, h3] at h1
      cases h1
      rw [h4] at h2
      exact absurd h2 (by simp)
    have D0 := Draws.tuple (prog := X.prog) (w := X.w) (A := X.A.in1) (I.ok.hd hc) it a hai its.toArray
    have D : Draws X.prog X.w X.A.in1 it [it, a] 0 (fun _ _ => True) (fun _ h => h.IsTupleIter it a i ∧ h.IsTuple a its.toArray) :=
      ⟨fun _ _ st => let ⟨o, ho, _⟩ := st.1; ⟨o, ho⟩, fun _ _ _ st hk => ⟨st.1.at fun o e => hk it (by simp) o e, st.2.at fun o e => hk a (by simp) o e⟩, fun j s Q E hj => absurd hj (Nat.not_lt_zero _), fun s Q E st hE => wpAny_nextOf_tuple_end (I.ok.hd hc) st.1 st.2 (by simp; omega) hE⟩
    exact wpAny_pyNext_enum_endD D he ⟨hit, hpT⟩ fun h' eb => ⟨rfl, I.turned (t' := s.toks) (fun b o hb q => eb b o hb q) f0 f1 f3 f4 f5⟩
  self := fun A i s Q E st h => let ⟨⟨_, he⟩, _⟩ := st; wpAny_pyIter_enum he h
def iEnumB (K : PySem.W.Frag) (ta : TA) : TI := fun σ H R => ta σ H fun vs H1 => ∃ a xs, vs = [.ref a] ∧ (SqL K H1 a xs ∧ R (Ite K a) H1 ∨ SqT K H1 a xs ∧ R (IteT K a) H1)
theorem pi_enumB {X : Cx} {e : Expr} {ta : TA} {p pos tpos : Pos} {elts : List Expr} {kk : Nat} (hg : Gl X "enumerate") (hm : X.mg "enumerate" = none) (ha : PA X [e] ta) (hs : starEach [e] X.env = [(false, eval e X.env)] := by rfl) :
    PI X (.Tuple elts kk tpos) (.Call (.Name "enumerate" p) [e] [] pos) (iEnumB X.K ta) := by
  refine ⟨fun pins s σ H R I h => ?_⟩
  refine Call_ (ld_blt I hg hm boot_enumerate (PyProof.Rows.callWith_type1 (thn (ha.run pos pins s σ H _ I h) fun us s1 ⟨vs, H1, I1, r1, q1⟩ => ?_) hs rfl))
  obtain ⟨a, xs, ex, ⟨hq, q⟩ | ⟨hq, q⟩⟩ := q1
  · subst ex
    cases r1 with
    | cons r rr =>
      cases rr
      cases r
      obtain ⟨its, rv, p', hz⟩ := I1.list hq
      refine call_enumerate_list p'.isList fun h' he hit hsz hk => wpAny_pyIter_enum he ?_
      have I2 : Inv X pins σ H1 { s1 with heap := h' } := I1.kept (t' := s1.toks) hk
      refine ⟨s1.heap.objs.size + 1, [s1.heap.objs.size + 1, s1.heap.objs.size], _, _, H1, rfl, I2, turn_enum a (s1.heap.objs.size + 1) s1.heap.objs.size, ⟨⟨.none, he⟩, hit, Nat.succ_ne_self _⟩, fun b hb => ?_, q⟩
      have e' : b = s1.heap.objs.size + 1 ∨ b = s1.heap.objs.size := by simpa using hb
      have hle : s1.heap.objs.size ≤ b := by
        rcases e' with z | z
        · rw [z]; exact Nat.le_add_right _ _
        · rw [z]; exact Nat.le_refl _
      exact I1.fpOk hle (I1.hok.fresh hle)
  · subst ex
    cases r1 with
    | cons r rr =>
      cases rr
      cases r
      obtain ⟨its, rv, p', hz⟩ := I1.tuple hq
      refine call_enumerate_tup (show s1.heap.IsTuple a its.toArray from p') fun h' he hit hsz hk => wpAny_pyIter_enum he ?_
      have I2 : Inv X pins σ H1 { s1 with heap := h' } := I1.kept (t' := s1.toks) hk
      refine ⟨s1.heap.objs.size + 1, [s1.heap.objs.size + 1, s1.heap.objs.size], _, _, H1, rfl, I2, turn_enumT a (s1.heap.objs.size + 1) s1.heap.objs.size, ⟨⟨.none, he⟩, hit, Nat.succ_ne_self _⟩, fun b hb => ?_, q⟩
      have e' : b = s1.heap.objs.size + 1 ∨ b = s1.heap.objs.size := by simpa using hb
      have hle : s1.heap.objs.size ≤ b := by
        rcases e' with z | z
        · rw [z]; exact Nat.le_add_right _ _
        · rw [z]; exact Nat.le_refl _
      exact I1.fpOk hle (I1.hok.fresh hle)
theorem walk_enumT {K : PySem.W.Frag} {a : Addr} {xs : List V} : Walk (IteT K a) xs.length (fun H => SqT K H a xs) (YPair (fun i => some (.int (i : Nat))) (fun i => xs[i]?)) := by
  refine ⟨fun i _ hi q => ⟨xs, xs[i], q, by simp [hi]⟩, fun _ q => ⟨xs, q, Nat.le_refl _⟩, fun i H v H' _ q y => ?_⟩
  obtain ⟨T, x, h1, h2, h3, h4⟩ := y
  exact ⟨T, .int (i : Nat), x, h1, h2, h3, rfl, h4 xs q⟩
end L2
set_option Elab.async false
set_option linter.all false
set_option maxRecDepth 100000
/-! GI: what is walked over; targets; comprehensions; dict displays -/
namespace G
open PySem PySem.Spec PyProof.Rows L2
/-- a later state -/
structure Later (m : Mp) (H : Hp) (m' : Mp) (H' : Hp) : Prop where
  stay : Stay H m H' m'
  len : m.ls.length ≤ m'.ls.length
  at_ : ∀ n, n < m.ls.length → m'.ls[n]? = m.ls[n]? ∨ m'.ls[n]? = some none
theorem Ext.later {m m' : Mp} {H H' : Hp} (e : Ext m H m' H') : Later m H m' H' := ⟨e.stay, e.len, e.at_⟩
theorem Rep.late {K : PySem.W.Frag} {m m' : Mp} {H H' : Hp} (e : Later m H m' H') {v : V} {x : Val} (h : Rep K H m v x) : Rep K H' m' v x := h.stay' e.stay e.len e.at_
structure ItOk (g : Gx) (m1 : Mp) (H1 : Hp) (J : L2.It) (p : Items) : Prop where
  go : ∀ i m2 H2 st2, Later m1 H1 m2 H2 → StRel g.K H2 m2 st2 → p.2.ok st2 → i < p.1.length → J.go i H2
  stop : ∀ m2 H2 st2, Later m1 H1 m2 H2 → StRel g.K H2 m2 st2 → p.2.ok st2 → J.stop p.1.length H2
  yld : ∀ i m2 H2 st2 x H' v, Later m1 H1 m2 H2 → StRel g.K H2 m2 st2 → p.2.ok st2 → p.1[i]? = some v → J.yld i H2 x H' → (∀ a o, H2 a = some o → H' a = some o) ∧ Rep g.K H' m2 x v
def DI (g : Gx) (W : WX) (f : Rho → Store → R Items) : TI := fun σ H Q => ∃ m ρ st, Rel g.K H m σ ρ st ∧ Out g W m H σ (f ρ st) fun p st1 m1 H1 => StRel g.K H1 m1 st1 → ∀ J, ItOk g m1 H1 J p → Q J H1
abbrev GIt (X : Cx) (W : WX) (tg e : Expr) (f : Rho → Store → R Items) : Prop := PI X tg e (DI (gx X) W f)
theorem PI.pick {X : Cx} {tg e : Expr} {t : TI} (h : ∀ σ H Q, t σ H Q → ∃ t', PI X tg e t' ∧ t' σ H Q) : PI X tg e t := ⟨fun pins s σ H Q I q => let ⟨_, h1, h2⟩ := h σ H Q q; h1.run pins s σ H Q I h2⟩
theorem PIw {X : Cx} {tg e : Expr} {t t' : TI} (h : PI X tg e t) (w : ∀ σ H Q, t' σ H Q → t σ H Q) : PI X tg e t' := ⟨fun pins s σ H Q I q => h.run pins s σ H Q I (w σ H Q q)⟩
section
variable {g : Gx} {m1 : Mp} {H1 : Hp} {a b : Addr}
theorem yat {vs : List V} {K : PySem.W.Frag} {H : Hp} {m : Mp} {xs : List Val} {i : Nat} {x : V} {v : Val} (r : Reps K H m vs xs) (h1 : vs[i]? = some x) (h2 : xs[i]? = some v) : Rep K H m x v := by
  obtain ⟨y, e, q⟩ := paired_get r h2
  rw [h1] at e; cases e; exact q
theorem itok_list {p : Items} (h : ∀ m2 H2 st2, Later m1 H1 m2 H2 → StRel g.K H2 m2 st2 → p.2.ok st2 → ∃ vs, SqL g.K H2 a vs ∧ Reps g.K H2 m2 vs p.1) : ItOk g m1 H1 (Itl g.K a) p where
  go := fun i m2 H2 st2 l s o hi => by
    obtain ⟨vs, h1, h2⟩ := h m2 H2 st2 l s o
    exact (walk_list (xs := vs)).goes i H2 (by rw [Paired.length h2]; exact hi) h1
  stop := fun m2 H2 st2 l s o => by
    obtain ⟨vs, h1, h2⟩ := h m2 H2 st2 l s o
    rw [← Paired.length h2]
    exact (walk_list (xs := vs)).stops H2 h1
  yld := fun i m2 H2 st2 x H' v l s o hv y => by
    obtain ⟨vs, h1, h2⟩ := h m2 H2 st2 l s o
    obtain ⟨rfl, e⟩ := y
    exact ⟨fun _ _ q => q, yat h2 (e vs h1) hv⟩
theorem itok_tup {p : Items} (h : ∀ m2 H2 st2, Later m1 H1 m2 H2 → StRel g.K H2 m2 st2 → p.2.ok st2 → ∃ vs, SqT g.K H2 a vs ∧ Reps g.K H2 m2 vs p.1) : ItOk g m1 H1 (Itt g.K a) p where
  go := fun i m2 H2 st2 l s o hi => by
    obtain ⟨vs, h1, h2⟩ := h m2 H2 st2 l s o
    exact (walk_tup (xs := vs)).goes i H2 (by rw [Paired.length h2]; exact hi) h1
  stop := fun m2 H2 st2 l s o => by
    obtain ⟨vs, h1, h2⟩ := h m2 H2 st2 l s o
    rw [← Paired.length h2]
    exact (walk_tup (xs := vs)).stops H2 h1
  yld := fun i m2 H2 st2 x H' v l s o hv y => by
    obtain ⟨vs, h1, h2⟩ := h m2 H2 st2 l s o
    obtain ⟨rfl, e⟩ := y
    exact ⟨fun _ _ q => q, yat h2 (e vs h1) hv⟩
theorem itok_str {z : Str} : ItOk g m1 H1 (Its z) (z.cps.toList.map (fun c => Val.d (.str ⟨#[c]⟩)), none) where
  go := fun i m2 H2 st2 l s o hi => by
    show i < z.cps.size
    simpa using hi
  stop := fun m2 H2 st2 l s o => by
    show z.cps.size ≤ _
    simp
  yld := fun i m2 H2 st2 x H' v l s o hv y => by
    obtain ⟨rfl, c, hc, rfl⟩ := y
    refine ⟨fun _ _ q => q, ?_⟩
    have e : (z.cps.toList.map (fun c => Val.d (.str ⟨#[c]⟩)))[i]? = some (Val.d (.str ⟨#[c]⟩)) := by
      rw [List.getElem?_map, Array.getElem?_toList, hc]; rfl
    have e2 : some (Val.d (.str ⟨#[c]⟩)) = some v := e.symm.trans hv
    cases e2
    exact .d (.str _)
theorem rng_at {lo c : Int} {n i : Nat} {v : Val} (h : (rng lo n c)[i]? = some v) : i < n ∧ v = .d (.int (lo + (i : Nat) * c)) := by
  unfold rng at h
  rw [List.getElem?_map] at h
  by_cases hi : i < n
  · rw [List.getElem?_range hi] at h
    exact ⟨hi, (Option.some.inj h).symm⟩
  · rw [List.getElem?_eq_none (by simpa using hi)] at h; cases h
theorem rng_len {lo c : Int} {n : Nat} : (rng lo n c).length = n := by unfold rng; simp
theorem itok_rng {lo : Int} {n : Nat} : ItOk g m1 H1 (Itr lo n) (rng lo n 1, none) where
  go := fun i m2 H2 st2 l s o hi => by rw [rng_len] at hi; exact hi
  stop := fun m2 H2 st2 l s o => by rw [rng_len]; exact Nat.le_refl n
  yld := fun i m2 H2 st2 x H' v l s o hv y => by
    obtain ⟨rfl, rfl⟩ := y
    obtain ⟨_, rfl⟩ := rng_at hv
    refine ⟨fun _ _ q => q, ?_⟩
    rw [Int.mul_one]
    exact .d (.int _)
theorem itok_rngc {lo c : Int} {n : Nat} : ItOk g m1 H1 (Itc lo c n) (rng lo n c, none) where
  go := fun i m2 H2 st2 l s o hi => by rw [rng_len] at hi; exact hi
  stop := fun m2 H2 st2 l s o => by rw [rng_len]; exact Nat.le_refl n
  yld := fun i m2 H2 st2 x H' v l s o hv y => by
    obtain ⟨rfl, rfl⟩ := y
    obtain ⟨_, rfl⟩ := rng_at hv
    exact ⟨fun _ _ q => q, .d (.int _)⟩
theorem rep_pair {K : PySem.W.Frag} {H : Hp} {m : Mp} {st : Store} {T : Addr} {x y : V} {d e : PyData} (s : StRel K H m st) (hT : H T = none) (h1 : RepD K H m x d) (h2 : RepD K H m y e) : Rep K (upd H T (.tup [x, y])) m (.ref T) (.d (.tuple [d, e])) :=
  rep_new_tup s hT (.cons h1 (.cons h2 .nil))
theorem allO_at : ∀ {α : Type} {l : List (Option α)} {k : List α} {i : Nat} {b : α}, allO l = some k → k[i]? = some b → l[i]? = some (some b)
  | α, [], k, i, b, h, e => by cases h; simp at e
  | α, none :: r, k, i, b, h, e => by cases h
  | α, some a :: r, k, i, b, h, e => by
    have h : (allO r).map (a :: ·) = some k := h
    cases q : allO r with
    | none => rw [q] at h; cases h
    | some k' =>
      rw [q] at h; cases h
      cases i with
      | zero => cases e; rfl
      | succ i => exact allO_at (l := r) q e
theorem allO_len : ∀ {α : Type} {l : List (Option α)} {k : List α}, allO l = some k → k.length = l.length
  | α, [], k, h => by cases h; rfl
  | α, none :: r, k, h => by cases h
  | α, some a :: r, k, h => by
    have h : (allO r).map (a :: ·) = some k := h
    cases q : allO r with
    | none => rw [q] at h; cases h
    | some k' => rw [q] at h; cases h; simp [allO_len q]
theorem enumI_at : ∀ {xs : List Val} {n i : Nat} {v : Val}, (enumI n xs)[i]? = some (some v) → ∃ d, xs[i]? = some (.d d) ∧ v = .d (.tuple [.int ((n + i : Nat) : Int), d])
  | [], n, i, v, h => by simp [enumI] at h
  | x :: r, n, 0, v, h => by
    have h : pairD (.d (.int (n : Nat))) x = some v := Option.some.inj h
    cases x with
    | d d => cases h; exact ⟨d, rfl, rfl⟩
    | loc _ => cases h
    | scr _ => cases h
  | x :: r, n, i + 1, v, h => by
    obtain ⟨d, h1, h2⟩ := enumI_at (xs := r) (n := n + 1) (i := i) h
    refine ⟨d, h1, ?_⟩
    rw [h2, show n + 1 + i = n + (i + 1) by omega]
theorem enumI_len : ∀ {xs : List Val} {n : Nat}, (enumI n xs).length = xs.length
  | [], _ => rfl
  | x :: r, n => by simp [enumI, enumI_len (xs := r)]
theorem itok_enum {xs : List Val} {ys : List Val} {gd : Grd} (he : allO (enumI 0 xs) = some ys) (h : ∀ m2 H2 st2, Later m1 H1 m2 H2 → StRel g.K H2 m2 st2 → gd.ok st2 → ∃ vs, SqL g.K H2 a vs ∧ Reps g.K H2 m2 vs xs) : ItOk g m1 H1 (Ite g.K a) (ys, gd) where
  go := fun i m2 H2 st2 l s o hi => by
    obtain ⟨vs, h1, h2⟩ := h m2 H2 st2 l s o
    have hi : i < ys.length := hi
    rw [allO_len he, enumI_len, ← Paired.length h2] at hi
    exact (walk_enum (xs := vs)).goes i H2 hi h1
  stop := fun m2 H2 st2 l s o => by
    obtain ⟨vs, h1, h2⟩ := h m2 H2 st2 l s o
    show (Ite g.K a).stop ys.length H2
    rw [allO_len he, enumI_len, ← Paired.length h2]
    exact (walk_enum (xs := vs)).stops H2 h1
  yld := fun i m2 H2 st2 x H' v l s o hv y => by
    obtain ⟨vs, h1, h2⟩ := h m2 H2 st2 l s o
    obtain ⟨T, z, rfl, hT, rfl, e⟩ := y
    obtain ⟨d, hd, rfl⟩ := enumI_at (allO_at he hv)
    refine ⟨le_upd hT, ?_⟩
    rw [Nat.zero_add]
    exact rep_pair s hT (.int _) (inv_d (yat h2 (e vs h1) hd))
theorem itok_enumT {xs : List Val} {ys : List Val} {gd : Grd} (he : allO (enumI 0 xs) = some ys) (h : ∀ m2 H2 st2, Later m1 H1 m2 H2 → StRel g.K H2 m2 st2 → gd.ok st2 → ∃ vs, SqT g.K H2 a vs ∧ Reps g.K H2 m2 vs xs) : ItOk g m1 H1 (IteT g.K a) (ys, gd) where
  go := fun i m2 H2 st2 l s o hi => by
    obtain ⟨vs, h1, h2⟩ := h m2 H2 st2 l s o
    have hi : i < ys.length := hi
    rw [allO_len he, enumI_len, ← Paired.length h2] at hi
    exact (walk_enumT (xs := vs)).goes i H2 hi h1
  stop := fun m2 H2 st2 l s o => by
    obtain ⟨vs, h1, h2⟩ := h m2 H2 st2 l s o
    show (IteT g.K a).stop ys.length H2
    rw [allO_len he, enumI_len, ← Paired.length h2]
    exact (walk_enumT (xs := vs)).stops H2 h1
  yld := fun i m2 H2 st2 x H' v l s o hv y => by
    obtain ⟨vs, h1, h2⟩ := h m2 H2 st2 l s o
    obtain ⟨T, z, rfl, hT, rfl, e⟩ := y
    obtain ⟨d, hd, rfl⟩ := enumI_at (allO_at he hv)
    refine ⟨le_upd hT, ?_⟩
    rw [Nat.zero_add]
    exact rep_pair s hT (.int _) (inv_d (yat h2 (e vs h1) hd))
theorem zip_at {xs ys : List PyData} {i : Nat} {v : Val} (h : (pairs2 xs ys)[i]? = some v) : ∃ d e, xs[i]? = some d ∧ ys[i]? = some e ∧ v = .d (.tuple [d, e]) := by
  unfold pairs2 at h
  rw [List.getElem?_zipWith] at h
  cases h1 : xs[i]? with
  | none => rw [h1] at h; cases h
  | some d =>
    cases h2 : ys[i]? with
    | none => rw [h1, h2] at h; cases h
    | some e => rw [h1, h2] at h; exact ⟨d, e, rfl, rfl, (Option.some.inj h).symm⟩
theorem itok_zip {xs ys : List PyData} {gd : Grd} (h : ∀ m2 H2 st2, Later m1 H1 m2 H2 → StRel g.K H2 m2 st2 → gd.ok st2 → ∃ vs ws, SqL g.K H2 a vs ∧ RepDs g.K H2 m2 vs xs ∧ SqL g.K H2 b ws ∧ RepDs g.K H2 m2 ws ys) : ItOk g m1 H1 (Itz g.K a b) (pairs2 xs ys, gd) where
  go := fun i m2 H2 st2 l s o hi => by
    obtain ⟨vs, ws, h1, h2, h3, h4⟩ := h m2 H2 st2 l s o
    have hi : i < (pairs2 xs ys).length := hi
    unfold pairs2 at *
    rw [List.length_zipWith, ← Paired.length h2.pair, ← Paired.length h4.pair] at hi
    exact (walk_zip (xs := vs) (ys := ws) rfl).goes i H2 hi ⟨h1, h3⟩
  stop := fun m2 H2 st2 l s o => by
    obtain ⟨vs, ws, h1, h2, h3, h4⟩ := h m2 H2 st2 l s o
    show (Itz g.K a b).stop (pairs2 xs ys).length H2
    unfold pairs2 at *
    rw [List.length_zipWith, ← Paired.length h2.pair, ← Paired.length h4.pair]
    exact (walk_zip (xs := vs) (ys := ws) rfl).stops H2 ⟨h1, h3⟩
  yld := fun i m2 H2 st2 x H' v l s o hv y => by
    obtain ⟨vs, ws, h1, h2, h3, h4⟩ := h m2 H2 st2 l s o
    obtain ⟨T, z, u, rfl, hT, rfl, e1, e2⟩ := y
    obtain ⟨d, e, hd, he, rfl⟩ := zip_at hv
    obtain ⟨z', q1, q2⟩ := paired_get h2.pair hd
    obtain ⟨u', q3, q4⟩ := paired_get h4.pair he
    rw [e1 vs h1] at q1; cases q1
    rw [e2 ws h3] at q3; cases q3
    exact ⟨le_upd hT, rep_pair s hT q2 q4⟩
theorem itok_zipT {xs ys : List PyData} {gd : Grd} (h : ∀ m2 H2 st2, Later m1 H1 m2 H2 → StRel g.K H2 m2 st2 → gd.ok st2 → ∃ vs ws, SqT g.K H2 a vs ∧ RepDs g.K H2 m2 vs xs ∧ SqT g.K H2 b ws ∧ RepDs g.K H2 m2 ws ys) : ItOk g m1 H1 (RZ.ItzT g.K a b) (pairs2 xs ys, gd) where
  go := fun i m2 H2 st2 l s o hi => by
    obtain ⟨vs, ws, h1, h2, h3, h4⟩ := h m2 H2 st2 l s o
    have hi : i < (pairs2 xs ys).length := hi
    unfold pairs2 at *
    rw [List.length_zipWith, ← Paired.length h2.pair, ← Paired.length h4.pair] at hi
    have k1 : i < vs.length := by omega
    have k2 : i < ws.length := by omega
    exact ⟨vs, ws, vs[i], ws[i], h1, h3, by simp [k1], by simp [k2]⟩
  stop := fun m2 H2 st2 l s o => by
    obtain ⟨vs, ws, h1, h2, h3, h4⟩ := h m2 H2 st2 l s o
    show (RZ.ItzT g.K a b).stop (pairs2 xs ys).length H2
    unfold pairs2 at *
    rw [List.length_zipWith, ← Paired.length h2.pair, ← Paired.length h4.pair]
    exact ⟨vs, ws, h1, h3, by omega⟩
  yld := fun i m2 H2 st2 x H' v l s o hv y => by
    obtain ⟨vs, ws, h1, h2, h3, h4⟩ := h m2 H2 st2 l s o
    obtain ⟨T, z, u, rfl, hT, rfl, e1, e2⟩ := y
    obtain ⟨d, e, hd, he, rfl⟩ := zip_at hv
    obtain ⟨z', q1, q2⟩ := paired_get h2.pair hd
    obtain ⟨u', q3, q4⟩ := paired_get h4.pair he
    rw [e1 vs h1] at q1; cases q1
    rw [e2 ws h3] at q3; cases q3
    exact ⟨le_upd hT, rep_pair s hT q2 q4⟩
end
section
variable {X : Cx} {W : WX} {tg e a b c : Expr} {pos p : Pos} {fa fb fc : Rho → Store → R Val}
theorem late_dls {K : PySem.W.Frag} {m1 m2 : Mp} {H1 H2 : Hp} {a : Addr} {vs : List V} {ds : List PyData} (h1 : IsLs H1 m1 a vs) (h2 : RepDs K H1 m1 vs ds) (l : Later m1 H1 m2 H2) : SqL K H2 a vs ∧ RepDs K H2 m2 vs ds :=
  ⟨.inl (.inl (l.stay _ _ h1.1 h1.2).1), h2.stay l.stay⟩
theorem late_dtp {K : PySem.W.Frag} {m1 m2 : Mp} {H1 H2 : Hp} {a : Addr} {vs : List V} {ds : List PyData} (h1 : IsTp K H1 m1 a vs) (h2 : RepDs K H1 m1 vs ds) (l : Later m1 H1 m2 H2) : SqT K H2 a vs ∧ RepDs K H2 m2 vs ds :=
  ⟨(h1.stay l.stay).sq, h2.stay l.stay⟩
theorem late_loc {K : PySem.W.Frag} {m1 m2 : Mp} {H1 H2 : Hp} {n : Nat} {a : Addr} {xs : List Val} {st2 : Store} (h1 : m1.ls[n]? = some (some a)) (l : Later m1 H1 m2 H2) (s : StRel K H2 m2 st2) (o : st2[n]? = some (.lst xs)) : ∃ vs, SqL K H2 a vs ∧ Reps K H2 m2 vs xs := by
  have hn : n < m1.ls.length := (List.getElem?_eq_some_iff.mp h1).1
  rcases l.at_ n hn with e | e
  · obtain ⟨vs, q1, q2⟩ := s.cell n a _ (e.trans h1) o
    exact ⟨vs, .inl (.inl q1), q2⟩
  · have q := s.dead n e
    rw [o] at q; cases q
/-- a list, a tuple, a text -/
theorem gi_seq (ha : GE X W a fa) : GIt X W tg a (fun ρ st => (fa ρ st).bind fun v st1 => ofOpt (seqItems v st1) st1) := PI.pick fun σ H Q q => by
  obtain ⟨m, ρ, st, r, o⟩ := q
  dsimp only at o
  have o := Out.bind o
  cases e : fa ρ st with
  | no => rw [e] at o; exact o.elim
  | exc x st1 => rw [e] at o; exact ⟨_, pi_list ha, m, ρ, st, r, by rw [e]; exact o⟩
  | ok v st1 =>
    rw [e] at o
    cases es : seqItems v st1 with
    | none =>
      refine ⟨_, pi_list ha, m, ρ, st, r, ?_⟩
      rw [e]
      intro m' H' e' s'
      have q := o m' H' e' s'
      dsimp only at q
      rw [es] at q; exact q.elim
    | some pp =>
      cases v with
      | d d =>
        cases d with
        | str z =>
          refine ⟨_, pi_str ha, m, ρ, st, r, ?_⟩
          rw [e]
          intro m' H' e' s' x rx
          have q := o m' H' e' s'
          dsimp only at q
          rw [es] at q
          obtain rfl := inv_str rx
          cases es
          exact ⟨z, rfl, Out.here q s' s' _ itok_str⟩
        | tuple ds =>
          refine ⟨_, pi_tup ha, m, ρ, st, r, ?_⟩
          rw [e]
          intro m' H' e' s' x rx
          have q := o m' H' e' s'
          dsimp only at q
          rw [es] at q
          obtain ⟨p, vs, rfl, h1, h2⟩ := inv_tup rx
          cases es
          refine ⟨p, rfl, ⟨vs, h1.sq⟩, Out.here q s' s' _ (itok_tup fun m2 H2 st2 l s _ => ?_)⟩
          obtain ⟨q1, q2⟩ := late_dtp h1 h2 l
          exact ⟨vs, q1, reps_d q2⟩
        | list ds =>
          refine ⟨_, pi_list ha, m, ρ, st, r, ?_⟩
          rw [e]
          intro m' H' e' s' x rx
          have q := o m' H' e' s'
          dsimp only at q
          rw [es] at q
          obtain ⟨p, vs, rfl, h1, h2⟩ := inv_lst rx
          cases es
          refine ⟨p, rfl, ⟨vs, .inl (.inl h1.1)⟩, Out.here q s' s' _ (itok_list fun m2 H2 st2 l s _ => ?_)⟩
          obtain ⟨q1, q2⟩ := late_dls h1 h2 l
          exact ⟨vs, q1, reps_d q2⟩
        | _ => cases es
      | loc n =>
        refine ⟨_, pi_list ha, m, ρ, st, r, ?_⟩
        rw [e]
        intro m' H' e' s' x rx
        have q := o m' H' e' s'
        dsimp only at q
        rw [es] at q
        cases ec : st1[n]? with
        | none => simp only [seqItems, ec] at es; cases es
        | some c =>
          cases c with
          | lst xs =>
            simp only [seqItems, ec] at es; cases es
            obtain ⟨p, hp, rfl, vs, hH, rs⟩ := cell_at s' rx ec (fun z => by cases z)
            exact ⟨p, rfl, ⟨vs, .inl (.inl hH)⟩, Out.here q s' s' _ (itok_list fun m2 H2 st2 l s o2 => late_loc hp l s o2)⟩
          | dct xs => simp only [seqItems, ec] at es; cases es
          | dead => simp only [seqItems, ec] at es; cases es
      | scr ns => cases es

variable {es : List Expr} {fs : Rho → Store → R (List Val)}
/-- range(..) -/
theorem gi_rng (hg : Gl X "range") (hm : X.mg "range" = none) (hp : ∀ y ∈ es, pln y = true) (hl : es.length = 1 ∨ es.length = 2 ∨ es.length = 3) (hs : GAs X W es fs) (hv : ∀ ρ st vs st1, fs ρ st = .ok vs st1 → vs.length = es.length) :
    GIt X W tg (.Call (.Name "range" p) es [] pos) (fun ρ st => (fs ρ st).bind fun vs st1 => ofOpt (rngO vs) st1) := by
  have key : ∀ σ H (Q : L2.It → Hp → Prop), DI (gx X) W (fun ρ st => (fs ρ st).bind fun vs st1 => ofOpt (rngO vs) st1) σ H Q → DA (gx X) W fs σ H fun vs H1 =>
      match vs with
      | [_] => ∃ j : Int, vs = [.int j] ∧ -(2 ^ 62) ≤ j ∧ j < 2 ^ 62 ∧ Q (Itr 0 j.toNat) H1
      | [_, _] => ∃ i j : Int, vs = [.int i, .int j] ∧ (-(2 ^ 62) ≤ i ∧ i < 2 ^ 62 ∧ -(2 ^ 62) ≤ j ∧ j < 2 ^ 62) ∧ Q (Itr i (j - i).toNat) H1
      | _ => ∃ (i j c : Int) (n : Nat), vs = [.int i, .int j, .int c] ∧ RgC i j c n ∧ Q (Itc i c n) H1 := fun σ H Q q => by
    obtain ⟨m, ρ, st, r, o⟩ := q
    refine ⟨m, ρ, st, r, (Out.bind o).imp fun vs st1 m1 H1 e1 s1 o1 xs rs => ?_⟩
    obtain ⟨pp, hpp, q⟩ := Out.opt o1 s1
    unfold rngO at hpp
    split at hpp
    · rename_i j
      obtain ⟨x, rfl, rx⟩ := reps1 rs
      split at hpp
      · rename_i hj
        cases hpp
        obtain rfl := inv_int rx
        exact ⟨j, rfl, hj.1, hj.2, q s1 _ itok_rng⟩
      · cases hpp
    · rename_i i j
      obtain ⟨x, y, rfl, rx, ry⟩ := reps2 rs
      split at hpp
      · rename_i hj
        cases hpp
        obtain rfl := inv_int rx
        obtain rfl := inv_int ry
        exact ⟨i, j, rfl, ⟨hj.1.1, hj.1.2, hj.2.1, hj.2.2⟩, q s1 _ itok_rng⟩
      · cases hpp
    · rename_i i j k
      split at hpp
      · rename_i hj
        cases hpp
        cases rs with
        | cons rx rr =>
          obtain ⟨y, z, rfl, ry, rz⟩ := reps2 rr
          obtain rfl := inv_int rx
          obtain rfl := inv_int ry
          obtain rfl := inv_int rz
          exact ⟨i, j, k, _, rfl, ⟨hj.1.1, hj.1.2, hj.2.1, (Int.toNat_of_nonneg hj.2.2).symm⟩, q s1 _ itok_rngc⟩
      · cases hpp
    · cases hpp
  match es, hl, hp, hs, hv with
  | [a], _, hp, hs, hv =>
    exact PIw (pi_range1 hg hm hs (star_pln (hp a (by simp)) [] _)) fun σ H Q q => by
        obtain ⟨m, ρ, st, r, o⟩ := key σ H Q q
        refine ⟨m, ρ, st, r, ?_⟩
        have hv := hv ρ st
        cases e : fs ρ st with
        | no => rw [e] at o; exact o
        | exc x s => rw [e] at o; exact o
        | ok vs st1 =>
          rw [e] at o
          have hl := hv vs st1 e
          intro m' H' e' s' xs rs
          have h := o m' H' e' s' xs rs
          have hx : xs.length = 1 := by rw [Paired.length rs]; exact hl
          match xs, hx with
          | [x], _ => exact h
  | [a, b], _, hp, hs, hv =>
    exact PIw (pi_range2 hg hm hs (by rw [star_pln (hp a (by simp)), star_pln (hp b (by simp))]; rfl) (star_pln (hp b (by simp)) [] _)) fun σ H Q q => by
        obtain ⟨m, ρ, st, r, o⟩ := key σ H Q q
        refine ⟨m, ρ, st, r, ?_⟩
        have hv := hv ρ st
        cases e : fs ρ st with
        | no => rw [e] at o; exact o
        | exc x s => rw [e] at o; exact o
        | ok vs st1 =>
          rw [e] at o
          have hl := hv vs st1 e
          intro m' H' e' s' xs rs
          have h := o m' H' e' s' xs rs
          have hx : xs.length = 2 := by rw [Paired.length rs]; exact hl
          match xs, hx with
          | [x, y], _ => exact h
  | [a, b, c], _, hp, hs, hv =>
    exact PIw (pi_range3 hg hm hs (star_pln (hp a (by simp)) _ _) (plain_back fun y hy => hp y (List.mem_cons_of_mem _ hy))) fun σ H Q q => by
        obtain ⟨m, ρ, st, r, o⟩ := key σ H Q q
        refine ⟨m, ρ, st, r, ?_⟩
        have hv := hv ρ st
        cases e : fs ρ st with
        | no => rw [e] at o; exact o
        | exc x s => rw [e] at o; exact o
        | ok vs st1 =>
          rw [e] at o
          have hl := hv vs st1 e
          intro m' H' e' s' xs rs
          have h := o m' H' e' s' xs rs
          have hx : xs.length = 3 := by rw [Paired.length rs]; exact hl
          match xs, hx with
          | [x, y, z], _ => exact h
/-- enumerate(list) -/
theorem gi_enum {elts : List Expr} {kk : Nat} {tpos : Pos} (hg : Gl X "enumerate") (hm : X.mg "enumerate" = none) (hp : pln a = true) (hs : GAs X W [a] fs) :
    GIt X W (.Tuple elts kk tpos) (.Call (.Name "enumerate" p) [a] [] pos) (fun ρ st => (fs ρ st).bind fun vs st1 => ofOpt (enumO vs st1) st1) :=
  PIw (L2.pi_enumB hg hm hs (star_pln hp [] _)) fun σ H Q q => by
    obtain ⟨m, ρ, st, r, o⟩ := q
    refine ⟨m, ρ, st, r, (Out.bind o).imp fun vs st1 m1 H1 e1 s1 o1 xs rs => ?_⟩
    obtain ⟨pp, hpp, q⟩ := Out.opt o1 s1
    unfold enumO at hpp
    split at hpp
    · rename_i ds
      obtain ⟨x, rfl, rx⟩ := reps1 rs
      cases ea : allO (enumI 0 (ds.map .d)) with
      | none => rw [ea] at hpp; cases hpp
      | some ys =>
        rw [ea] at hpp
        cases hpp
        obtain ⟨p, ws, rfl, h1, h2⟩ := inv_tup rx
        refine ⟨p, ws, rfl, .inr ⟨h1.sq, q s1 _ ?_⟩⟩
        refine itok_enumT ea fun m2 H2 st2 l s _ => ?_
        obtain ⟨q1, q2⟩ := late_dtp h1 h2 l
        exact ⟨_, q1, reps_d q2⟩
    · rename_i v _
      obtain ⟨x, rfl, rx⟩ := reps1 rs
      cases el : lsOf st1 v with
      | none => rw [el] at hpp; cases hpp
      | some us =>
        rw [el] at hpp
        dsimp only at hpp
        cases ea : allO (enumI 0 us) with
        | none => rw [ea] at hpp; cases hpp
        | some ys =>
          rw [ea] at hpp
          cases hpp
          obtain ⟨p, ws, rfl, hH, rw'⟩ := rep_ls s1 rx el
          refine ⟨p, ws, rfl, .inl ⟨.inl (.inl hH), q s1 _ ?_⟩⟩
          cases v with
          | d d =>
            cases d with
            | list ds =>
              cases el
              obtain ⟨p', ws', e', h1, h2⟩ := inv_lst rx
              cases e'
              refine itok_enum ea fun m2 H2 st2 l s _ => ?_
              obtain ⟨q1, q2⟩ := late_dls h1 h2 l
              exact ⟨_, q1, reps_d q2⟩
            | _ => cases el
          | loc n =>
            cases ec : st1[n]? with
            | none => simp only [lsOf, ec] at el; cases el
            | some c =>
              cases c with
              | lst zs =>
                simp only [lsOf, ec] at el; cases el
                obtain ⟨p', hp', e', _⟩ := cell_at s1 rx ec (fun z => by cases z)
                cases e'
                exact itok_enum ea fun m2 H2 st2 l s o2 => late_loc hp' l s o2
              | dct zs => simp only [lsOf, ec] at el; cases el
              | dead => simp only [lsOf, ec] at el; cases el
          | scr ns => cases el
    · cases hpp
/-- zip(a, b) -/
theorem gi_zip {elts : List Expr} {kk : Nat} {tpos : Pos} (hg : Gl X "zip") (hm : X.mg "zip" = none) (hp : pln a = true) (hq : pln b = true) (hs : GAs X W [a, b] fs) :
    GIt X W (.Tuple elts kk tpos) (.Call (.Name "zip" p) [a, b] [] pos) (fun ρ st => (fs ρ st).bind fun vs st1 => ofOpt (zipO vs st1) st1) :=
  PIw (RZ.pi_zipA hg hm hs (star_pln hp _ _) (plain_back fun y hy => by
    obtain rfl : y = b := by simpa using hy
    exact hq)) fun σ H Q q => by
    obtain ⟨m, ρ, st, r, o⟩ := q
    refine ⟨m, ρ, st, r, (Out.bind o).imp fun vs st1 m1 H1 e1 s1 o1 xs rs => ?_⟩
    obtain ⟨pp, hpp, q⟩ := Out.opt o1 s1
    unfold zipO at hpp
    split at hpp
    · cases hpp
      obtain ⟨x, y, rfl, rx, ry⟩ := reps2 rs
      obtain ⟨p1, v1, rfl, h1, r1⟩ := inv_tup rx
      obtain ⟨p2, v2, rfl, h2, r2⟩ := inv_tup ry
      refine ⟨p1, p2, v1, v2, rfl, .inr ⟨h1.sq, h2.sq, q s1 _ (itok_zipT fun m2 H2 st2 l s _ => ?_)⟩⟩
      obtain ⟨q1, q2⟩ := late_dtp h1 r1 l
      obtain ⟨q3, q4⟩ := late_dtp h2 r2 l
      exact ⟨_, _, q1, q2, q3, q4⟩
    · cases hpp
      obtain ⟨x, y, rfl, rx, ry⟩ := reps2 rs
      obtain ⟨p1, v1, rfl, h1, r1⟩ := inv_lst rx
      obtain ⟨p2, v2, rfl, h2, r2⟩ := inv_lst ry
      refine ⟨p1, p2, v1, v2, rfl, .inl ⟨.inl (.inl h1.1), .inl (.inl h2.1), q s1 _ (itok_zip fun m2 H2 st2 l s _ => ?_)⟩⟩
      obtain ⟨q1, q2⟩ := late_dls h1 r1 l
      obtain ⟨q3, q4⟩ := late_dls h2 r2 l
      exact ⟨_, _, q1, q2, q3, q4⟩
    · rename_i n ys
      split at hpp
      · rename_i us hus
        split at hpp
        · rename_i ds hds
          cases hpp
          obtain ⟨x, y, rfl, rx, ry⟩ := reps2 rs
          obtain ⟨p1, hp1, rfl, v1, hH, r1⟩ := cell_at s1 rx hus (fun z => by cases z)
          obtain ⟨p2, v2, rfl, h2, r2⟩ := inv_lst ry
          refine ⟨p1, p2, v1, v2, rfl, .inl ⟨.inl (.inl hH), .inl (.inl h2.1), q s1 _ (itok_zip fun m2 H2 st2 l s o2 => ?_)⟩⟩
          obtain ⟨v3, q1, q2⟩ := late_loc hp1 l s o2
          obtain ⟨q3, q4⟩ := late_dls h2 r2 l
          exact ⟨_, _, q1, repds_of q2 hds, q3, q4⟩
        · cases hpp
      · cases hpp
    · cases hpp
end
end G
set_option Elab.async false
set_option linter.all false
set_option maxRecDepth 100000
/-! GJ: targets, comprehensions, dict displays, written dicts -/
namespace G
open PySem PySem.Spec PyProof.Rows L2
def OutN (g : Gx) {α : Type} (m : Mp) (H : Hp) (r : R α) (k : α → Store → Mp → Hp → Prop) : Prop := match r with
  | .ok a st => ∀ m' H', Ext m H m' H' → StRel g.K H' m' st → k a st m' H'
  | _ => False
section
variable {g : Gx} {W : WX} {α β : Type} {m m1 : Mp} {H H1 : Hp} {σ : L2.St} {st : Store}
theorem OutN.from {r : R α} {k : α → Store → Mp → Hp → Prop} (e : Ext m H m1 H1) (h : OutN g m H r k) : OutN g m1 H1 r k := by
  cases r with
  | ok a st => exact fun m' H' e' s => h m' H' (e.trans e') s
  | exc x st => exact h
  | no => exact h
theorem OutN.out {r : R α} {k : α → Store → Mp → Hp → Prop} (h : OutN g m H r k) : Out g W m H σ r k := by
  cases r with
  | ok a st => exact h
  | exc x st => exact h.elim
  | no => exact h
theorem OutN.bind {r : R α} {f : α → Store → R β} {k : β → Store → Mp → Hp → Prop} (h : OutN g m H (r.bind f) k) : OutN g m H r (fun a st1 m1 H1 => OutN g m1 H1 (f a st1) k) := by
  cases r with
  | ok a st => exact fun m' H' e' s => OutN.from e' h
  | exc x st => exact h
  | no => exact h
theorem OutN.imp {r : R α} {k k' : α → Store → Mp → Hp → Prop} (h : OutN g m H r k) (hk : ∀ a st m' H', Ext m H m' H' → StRel g.K H' m' st → k a st m' H' → k' a st m' H') : OutN g m H r k' := by
  cases r with
  | ok a st => exact fun m' H' e' s => hk a st m' H' e' s (h m' H' e' s)
  | exc x st => exact h
  | no => exact h
theorem OutN.ok_of {r : R α} {k : α → Store → Mp → Hp → Prop} (h : OutN g m H r k) : ∃ a st, r = .ok a st := by
  cases r with
  | ok a st => exact ⟨a, st, rfl⟩
  | exc x st => exact h.elim
  | no => exact h.elim
theorem OutN.here {a : α} {k : α → Store → Mp → Hp → Prop} (h : OutN g m H (.ok a st) k) (s : StRel g.K H m st) : k a st m H := h m H .refl s
/-- a part that lets nothing out -/
theorem Out.noExc {r : R α} {f : α → Store → R β} {k : β → Store → Mp → Hp → Prop} (h : Out g W m H σ (r.noExc.bind f) k) : OutN g m H r fun a st1 m1 H1 => Out g W m1 H1 σ (f a st1) k := by
  cases r with
  | ok a st => exact fun m' H' e' s => Out.from e' h
  | exc x st => exact h.elim
  | no => exact h.elim
end
/-! ### targets -/
def DG (g : Gx) (sl : List Nat) (f : Val → Rho → Store → R Rho) : TG := fun v σ H Q => ∃ m ρ st x, Rel g.K H m σ ρ st ∧ Rep g.K H m v x ∧ OutN g m H (f x ρ st) fun ρ' st' m' H' => ∀ σ', Rel g.K H' m' σ' ρ' st' → (∀ i, i ∉ sl → σ'[i]? = σ[i]?) → Q σ' H'
def DGs (g : Gx) (sl : List Nat) (f : List Val → Rho → Store → R Rho) : TGs := fun vs σ H Q => ∃ m ρ st xs, Rel g.K H m σ ρ st ∧ Reps g.K H m vs xs ∧ OutN g m H (f xs ρ st) fun ρ' st' m' H' => ∀ σ', Rel g.K H' m' σ' ρ' st' → (∀ i, i ∉ sl → σ'[i]? = σ[i]?) → Q σ' H'
theorem PGw {X : Cx} {e : Expr} {t t' : TG} (h : PG X e t) (w : ∀ v σ H Q, t' v σ H Q → t v σ H Q) : PG X e t' := ⟨fun pins s σ H v u Q I r q => h.run pins s σ H v u Q I r (w v σ H Q q)⟩
theorem PGsw {X : Cx} {e : List Expr} {t t' : TGs} (h : PGs X e t) (w : ∀ v σ H Q, t' v σ H Q → t v σ H Q) : PGs X e t' := ⟨fun pins s σ H v u Q I r q => h.run pins s σ H v u Q I r (w v σ H Q q)⟩
theorem Rel.set {K : PySem.W.Frag} {H : Hp} {m : Mp} {σ : L2.St} {ρ : Rho} {st : Store} {i : Nat} {v : V} {x : Val} (r : Rel K H m σ ρ st) (h : Rep K H m v x) : Rel K H m (σ.set i (some v)) (ρ.set i (some x)) st where
  len := by simp [r.len]
  env := fun j y e => by
    by_cases ij : i = j
    · subst ij
      have hi : i < ρ.length := by
        have q := (List.getElem?_eq_some_iff.mp e).1
        simpa using q
      rw [List.getElem?_set_self hi] at e
      cases e
      exact ⟨v, List.getElem?_set_self (by rw [r.len]; exact hi), h⟩
    · rw [List.getElem?_set_ne ij] at e ⊢
      exact r.env j y e
  st := r.st
section
variable {X : Cx} {W : WX} {tg e a b : Expr} {es : List Expr} {pos : Pos} {fa fb fe : Rho → Store → R Val}
theorem gg_name {i : Nat} {x : Str} (C : Cok X) (hi : X.N[i]? = some x) (hx : Loc X.env.scope x) (hf : X.fn x = true ∨ X.env.scope.names.lookup x = some .local) :
    PG X (.Name x pos) (DG (gx X) [i] fun v ρ st => if i < ρ.length then .ok (ρ.set i (some v)) st else .no) := PGw (pg_name C.nd hi hx hf) fun v σ H Q q => by
  obtain ⟨m, ρ, st, x, r, rx, o⟩ := q
  dsimp only at o
  split at o
  · exact OutN.here o r.st _ (r.set rx) fun j hj => List.getElem?_set_ne fun z => hj (by simp [z])
  · exact o.elim
theorem gs_nil : PGs X [] (DGs (gx X) [] fun vs ρ st => match vs with | [] => .ok ρ st | _ => .no) := PGsw pgs_nil fun vs σ H Q q => by
  obtain ⟨m, ρ, st, xs, r, rs, o⟩ := q
  cases xs with
  | nil => cases rs; exact ⟨rfl, OutN.here o r.st _ r fun _ _ => rfl⟩
  | cons _ _ => exact o.elim
theorem asgE_pln {e : Expr} (h : pln e = true) (es : List Expr) (env : Env) : (assignEach (e :: es) env) = (false, assign e env) :: assignEach es env := by
  cases e <;> first | rfl | (cases h)
theorem gs_cons {ft : Val → Rho → Store → R Rho} {fs : List Val → Rho → Store → R Rho} {s1 s2 : List Nat} (hp : pln e = true) (h1 : PG X e (DG (gx X) s1 ft)) (h2 : PGs X es (DGs (gx X) s2 fs)) :
    PGs X (e :: es) (DGs (gx X) (s1 ++ s2) fun vs ρ st => match vs with | v :: vs => (ft v ρ st).bind fun ρ1 st1 => fs vs ρ1 st1 | [] => .no) := PGsw (pgs_cons h1 h2 (by rw [asgE_pln hp]; rfl)) fun vs σ H Q q => by
  obtain ⟨m, ρ, st, xs, r, rs, o⟩ := q
  cases xs with
  | nil => exact o.elim
  | cons y ys =>
    cases rs with
    | cons rx rr =>
      refine ⟨_, _, rfl, m, ρ, st, y, r, rx, (OutN.bind o).imp fun ρ1 st1 m1 H1 e1 t1 o1 σ1 r1 n1 => ?_⟩
      refine ⟨m1, ρ1, st1, ys, r1, Reps.ext e1 rr, o1.imp fun ρ2 st2 m2 H2 e2 t2 o2 σ2 r2 n2 => ?_⟩
      exact o2 σ2 r2 fun i hi => by
        rw [List.mem_append, not_or] at hi
        exact (n2 i hi.2).trans (n1 i hi.1)
theorem asgE_star : ∀ {es : List Expr} {env : Env}, (∀ y ∈ es, pln y = true) → (assignEach es env).findIdx? (·.1) = none
  | [], _, _ => rfl
  | e :: es, env, h => by
    rw [asgE_pln (h e List.mem_cons_self), List.findIdx?_cons, asgE_star fun y hy => h y (List.mem_cons_of_mem _ hy)]; rfl
theorem asgE_len : ∀ {es : List Expr} {env : Env}, (∀ y ∈ es, pln y = true) → (assignEach es env).length = es.length
  | [], _, _ => rfl
  | e :: es, env, h => by
    rw [asgE_pln (h e List.mem_cons_self), List.length_cons, asgE_len fun y hy => h y (List.mem_cons_of_mem _ hy)]; rfl
theorem gg_tup {k : Nat} {sl : List Nat} {fs : List Val → Rho → Store → R Rho} (C : Cok X) (hp : ∀ y ∈ es, pln y = true) (h : PGs X es (DGs (gx X) sl fs)) (hn : ∀ xs ρ st ρ1 st1, fs xs ρ st = .ok ρ1 st1 → xs.length = es.length) :
    PG X (.Tuple es k pos) (DG (gx X) sl fun v ρ st => match v with | .d (.tuple xs) => fs (xs.map Val.d) ρ st | _ => .no) := PGw (pg_tup C.calm h (asgE_len hp) (asgE_star hp)) fun v σ H Q q => by
  obtain ⟨m, ρ, st, x, r, rx, o⟩ := q
  dsimp only at o
  split at o
  · rename_i xs
    obtain ⟨p, vs, rfl, h1, h2⟩ := inv_tup rx
    refine ⟨p, vs, rfl, h1.sq, ?_, m, ρ, st, _, r, reps_d h2, o⟩
    obtain ⟨ρ1, st1, e1⟩ := OutN.ok_of o
    have q := hn _ _ _ _ _ e1
    rw [Paired.length h2.pair, ← q]; simp
  · exact o.elim
theorem sub_asg {a b : Expr} {pos : Pos} {env : Env} (h : pln b = true) (v : Value) : assign (.Subscript a b pos) env v = (do
      let ov ← holding [v] (eval a env)
      let iv ← holding [v, ov] (eval b env)
      standAt pos
      holding [v, ov, iv] (setItem ov iv v)
      release [v, ov, iv] []) := by
  cases b <;> first | rfl | (cases h)
theorem gg_sub (C : Cok X) (hp : pln b = true) (ha : GE X W a fa) (hb : GE X W b fb) : PG X (.Subscript a b pos) (DG (gx X) [] fun v ρ st => (fa ρ st).bind fun o st1 => (fb ρ st1).bind fun k st2 => match setO o k v st2 with
    | some st3 => .ok ρ st3
    | none => .no) := PGw (pg_sub ha hb (so_set C) (sub_asg hp)) fun v σ H Q q => by
  obtain ⟨m, ρ, st, x, r, rx, o⟩ := q
  refine ⟨m, ρ, st, r, OutN.out ((OutN.bind o).imp fun y st1 m1 H1 e1 s1 o1 u ru => ?_)⟩
  refine ⟨m1, ρ, st1, r.ext e1 s1, OutN.out ((OutN.bind o1).imp fun z st2 m2 H2 e2 s2 o2 t rt => ?_)⟩
  refine ⟨m2, st2, y, z, x, s2, ru.ext e2, rt, (rx.ext e1).ext e2, ?_⟩
  cases e : setO y z x st2 with
  | none => rw [e] at o2; exact o2.elim
  | some st3 =>
    rw [e] at o2
    exact fun m3 H3 e3 s3 => o2 m3 H3 e3 s3 σ (((r.ext e1 s1).ext e2 s2).ext e3 s3) fun _ _ => rfl
end
/-! ### what was under way is shown -/
def rm (H : Hp) (p : Addr) : Hp := fun a => if a = p then none else H a
theorem rm_same {H : Hp} {p : Addr} : rm H p p = none := by unfold rm; simp
theorem rm_ne {H : Hp} {p a : Addr} (h : a ≠ p) : rm H p a = H a := by unfold rm; simp [h]
theorem upd_rm {H : Hp} {p : Addr} {o : HO} : upd (rm H p) p o = upd H p o := by
  funext a
  by_cases e : a = p
  · rw [e, upd_same, upd_same]
  · rw [upd_ne e, upd_ne e, rm_ne e]
theorem upd_rm' {H : Hp} {p : Addr} {o : HO} (h : H p = some o) : upd (rm H p) p o = H := by
  funext a
  by_cases e : a = p
  · rw [e, upd_same, h]
  · rw [upd_ne e, rm_ne e]
section
variable {K : PySem.W.Frag} {H H' : Hp} {m m' : Mp} {p : Addr} {o o' : HO} {st st0 : Store} {σ : L2.St} {ρ : Rho}
theorem rm_stay (hP : m'.P = (m.hide p).P) : Stay H' m' (rm H' p) (m.back m') := fun a u h f => by
  have np : a ≠ p := fun z => f.2 (by rw [hP]; exact .inr z)
  exact ⟨by rw [rm_ne np]; exact h, f.1, fun z => f.2 (by rw [hP]; exact .inl z)⟩
theorem rm_rep (hP : m'.P = (m.hide p).P) {v : V} {x : Val} (h : Rep K H' m' v x) : Rep K (rm H' p) (m.back m') v x := h.stay' (rm_stay hP) (Nat.le_refl _) fun _ _ => .inl rfl
theorem rm_st (hP : m'.P = (m.hide p).P) (h0 : ¬ m.P p) (s : StRel K H' m' st) : StRel K (rm H' p) (m.back m') st where
  len := s.len
  inj := s.inj
  dead := s.dead
  np := fun a i z => s.np a i (by rw [hP]; exact .inl z)
  live := fun a i => by
    have np : a ≠ p := fun e => s.np a i (by rw [hP]; exact .inr e)
    rw [rm_ne np]; exact s.live a i
  trk := fun a z => by
    have np : a ≠ p := fun e => h0 (e ▸ z)
    rw [rm_ne np]; exact s.trk a (by rw [hP]; exact .inl z)
  cell := fun n a c h1 h2 => by
    have np : a ≠ p := fun e => s.np a (List.mem_of_getElem? h1) (by rw [hP]; exact .inr e)
    exact cell_stay' (rm_stay hP) (Nat.le_refl _) (fun _ _ => .inl rfl) (fun u q => by rw [rm_ne np]; exact q) (s.cell n a c h1 h2)
theorem rm_ext (hp : H p = none) (e : ExtD p (m.hide p) (upd H p o) m' H') : Ext m H (m.back m') (rm H' p) where
  len := e.len
  at_ := e.at_
  P := rfl
  keep := fun a u h n => by
    have np := ne_of_none h hp
    rw [rm_ne np]; exact e.keep a u (le_upd hp a u h) n np
  new := fun a h n => by
    have np : a ≠ p := fun z => e.no (z ▸ h)
    have q := e.new a h n
    rw [upd_ne np] at q; exact q
/-- what is hidden changes -/
theorem hid_stay (h : m.P p) : Stay H m (upd H p o) m := fun a u e f => by
  have np : a ≠ p := fun z => f.2 (z ▸ h)
  exact ⟨by rw [upd_ne np]; exact e, f⟩
theorem hid_rep (h : m.P p) {v : V} {x : Val} (r : Rep K H m v x) : Rep K (upd H p o) m v x := r.stay' (hid_stay h) (Nat.le_refl _) fun _ _ => .inl rfl
theorem hid_st (h : m.P p) (s : StRel K H m st) : StRel K (upd H p o) m st where
  len := s.len
  inj := s.inj
  dead := s.dead
  np := s.np
  live := fun a i => by
    have np : a ≠ p := fun e => s.np a i (e ▸ h)
    rw [upd_ne np]; exact s.live a i
  trk := fun a z => by
    by_cases e : a = p
    · rw [e, upd_same]; exact fun q => by cases q
    · rw [upd_ne e]; exact s.trk a z
  cell := fun n a c h1 h2 => by
    have np : a ≠ p := fun e => s.np a (List.mem_of_getElem? h1) (e ▸ h)
    exact cell_stay' (hid_stay h) (Nat.le_refl _) (fun _ _ => .inl rfl) (fun u q => by rw [upd_ne np]; exact q) (s.cell n a c h1 h2)
theorem ExtD.upd {m0 : Mp} {H0 : Hp} (e : ExtD p m0 H0 m H) : ExtD p m0 H0 m (upd H p o) := ⟨e.len, e.at_, e.P, fun a u h n np => by rw [upd_ne np]; exact e.keep a u h n np, e.new, e.no⟩
theorem ExtD.le {m0 : Mp} {H0 : Hp} (e : ExtD p m0 H0 m H) (h : ∀ a o, H a = some o → H' a = some o) : ExtD p m0 H0 m H' := ⟨e.len, e.at_, e.P, fun a u q n np => h a u (e.keep a u q n np), e.new, e.no⟩
theorem Rep.le (h : ∀ a o, H a = some o → H' a = some o) {v : V} {x : Val} (r : Rep K H m v x) : Rep K H' m v x := r.ext (ext_of_le h)
theorem Rel.le (h : ∀ a o, H a = some o → H' a = some o) (r : Rel K H m σ ρ st) : Rel K H' m σ ρ st := r.ext (ext_of_le h) (r.st.le h)
end
/-! ### comprehensions -/
theorem wipeR_len (ρ : Rho) : ∀ vs : List Nat, (wipeR ρ vs).length = ρ.length
  | [] => rfl
  | v :: vs => by unfold wipeR; rw [List.length_set, wipeR_len ρ vs]
theorem wipe_rel {K : PySem.W.Frag} {H : Hp} {m : Mp} {σ : L2.St} {ρ : Rho} {st : Store} (r : Rel K H m σ ρ st) : ∀ vs : List Nat, Rel K H m (wipe σ vs) (wipeR ρ vs) st
  | [] => r
  | v :: vs => by
    have q := wipe_rel r vs
    refine ⟨?_, fun i x e => ?_, r.st⟩
    · unfold wipe wipeR; rw [List.length_set, List.length_set]; exact q.len
    · unfold wipeR at e
      unfold wipe
      by_cases h : v = i
      · subst h
        by_cases hl : v < (wipeR ρ vs).length
        · rw [List.getElem?_set_self hl] at e; cases e
        · rw [List.getElem?_eq_none (by simpa using hl)] at e; cases e
      · rw [List.getElem?_set_ne h] at e ⊢
        exact q.env i x e
theorem wipe_at (σ : L2.St) (i : Nat) : ∀ vs : List Nat, (wipe σ vs)[i]? = if i ∈ vs ∧ i < σ.length then some none else σ[i]?
  | [] => by simp [wipe]
  | v :: vs => by
    unfold wipe
    by_cases h : v = i
    · subst h
      by_cases hl : v < σ.length
      · rw [List.getElem?_set_self (by rw [wipe_length]; exact hl), if_pos ⟨List.mem_cons_self, hl⟩]
      · rw [List.getElem?_eq_none (by rw [List.length_set, wipe_length]; omega), if_neg fun z => hl z.2, List.getElem?_eq_none (by omega)]
    · rw [List.getElem?_set_ne h, wipe_at σ i vs]
      by_cases hm : i ∈ vs
      · simp [hm]
      · have : i ∉ v :: vs := by simp only [List.mem_cons, not_or]; exact ⟨fun z => h z.symm, hm⟩
        rw [if_neg fun z => hm z.1, if_neg fun z => this z.1]
theorem wipe_eq {σ σ' : L2.St} {vs : List Nat} (hl : σ'.length = σ.length) (h : ∀ i, i ∉ vs → σ'[i]? = σ[i]?) : wipe σ' vs = wipe σ vs := by
  apply List.ext_getElem?
  intro i
  rw [wipe_at, wipe_at, hl]
  by_cases hm : i ∈ vs
  · by_cases hi : i < σ.length
    · rw [if_pos ⟨hm, hi⟩, if_pos ⟨hm, hi⟩]
    · rw [if_neg fun z => hi z.2, if_neg fun z => hi z.2, List.getElem?_eq_none (by omega), List.getElem?_eq_none (by omega)]
  · rw [if_neg fun z => hm z.1, if_neg fun z => hm z.1]; exact h i hm
theorem wipe_wipe (σ : L2.St) (vs : List Nat) : wipe (wipe σ vs) vs = wipe σ vs := wipe_eq (wipe_length σ vs) fun i hi => by rw [wipe_at, if_neg fun z => hi z.1]
def mTurn (ft : Val → Rho → Store → R Rho) (fc : Rho → Store → R Bool) (fe : Rho → Store → R Val) (ρ : Rho) : Val → Store → R (Option Val) := fun x st2 => (ft x ρ st2).bind fun ρ1 st3 => (fc ρ1 st3).bind fun b st4 =>
  if b then (fe ρ1 st4).bind fun y st5 => .ok (some y) st5 else .ok none st4
def mComp (mu : Bool) (fi : Rho → Store → R Items) (ft : Val → Rho → Store → R Rho) (fc : Rho → Store → R Bool) (fe : Rho → Store → R Val) (own : List Nat) : Rho → Store → R Val := fun ρ st => (fi ρ st).bind fun p st1 =>
  ((foldR (mTurn ft fc fe (wipeR ρ own)) p.2 p.1 st1).noExc).bind fun ys st6 => mkList mu ys st6
theorem foldR_ok {f : Val → Store → R (Option Val)} {gd : Grd} {l : List Val} {st : Store} {zs : List Val} {stf : Store} (h : foldR f gd l st = .ok zs stf) : gd.ok st := by
  cases l with
  | nil =>
    unfold foldR at h
    split at h
    · assumption
    · cases h
  | cons x r =>
    unfold foldR at h
    split at h
    · assumption
    · cases h
theorem R.bind_ok {α β : Type} {r : R α} {f : α → Store → R β} {b : β} {st : Store} (h : r.bind f = .ok b st) : ∃ a st1, r = .ok a st1 ∧ f a st1 = .ok b st := by
  cases r with
  | ok a st1 => exact ⟨a, st1, rfl, h⟩
  | exc _ _ => cases h
  | no => cases h
section
variable {X : Cx} {W W' : WX} {elt tg iter : Expr} {ifs : List Expr} {scope : Scope} {own : List (Str × Nat)} {pos : Pos} {fi : Rho → Store → R Items} {ft : Val → Rho → Store → R Rho} {fc : Rho → Store → R Bool} {fe : Rho → Store → R Val} {sl : List Nat} {mu : Bool}
theorem de_comp (hsl : ∀ i ∈ sl, i ∈ own.map (·.2)) (hlen : ∀ x ρ st ρ1 st1, ft x ρ st = .ok ρ1 st1 → ρ1.length = ρ.length) {σ : L2.St} {H : Hp} {Q : VK} (q : DE (gx X) W (mComp mu fi ft fc fe (own.map (·.2))) σ H Q) : tLc (DI (gx X) W fi) (DG (gx X) sl ft) (DT (gx X) W' fc) (DE (gx X) W' fe) (own.map (·.2)) σ H Q := by
  obtain ⟨m, ρ, st, r, o⟩ := q
  refine ⟨m, ρ, st, r, (Out.bind o).imp fun p st1 m1 H1 e1 s1 o1 _ J hJ D hD => ?_⟩
  have r1 := r.ext e1 s1
  generalize hvs : own.map (·.2) = vs at *
  cases ef : foldR (mTurn ft fc fe (wipeR ρ vs)) p.2 p.1 st1 with
  | no => rw [ef] at o1; exact o1.elim
  | exc x s => rw [ef] at o1; exact o1.elim
  | ok zs stf =>
  rw [ef] at o1
  have o1 : Out (gx X) W m1 H1 σ (mkList mu zs stf) fun x _ m' H' => ∀ v, Rep X.K H' m' v x → Q v H' := o1
  have hz : zs.length ≤ sizeLine := by
    unfold mkList at o1
    split at o1
    · assumption
    · exact o1.elim
  have nP : ¬ m1.P D := fun z => s1.trk D z hD
  have nI : ¬ m1.In D := fun z => s1.live D z hD
  have hPD : (m1.hide D).P D := .inr rfl
  let Pv : Nat → Hp → Prop := fun i H => ∃ mp st2 acc ys zs', ExtD D (m1.hide D) (upd H1 D (.lst [])) mp H ∧ StRel X.K H mp st2 ∧ H D = some (.lst acc) ∧ Reps X.K H mp acc ys ∧ foldR (mTurn ft fc fe (wipeR ρ vs)) p.2 (p.1.drop i) st2 = .ok zs' stf ∧ zs = ys ++ zs'
  have late : ∀ {mp : Mp} {H2 : Hp}, ExtD D (m1.hide D) (upd H1 D (.lst [])) mp H2 → Later m1 H1 mp H2 := fun {mp H2} ed => ⟨fun a u h f => by
    obtain ⟨q1, q2⟩ := hide_stay (o := .lst []) hD a u h f
    exact ed.stay hPD a u q1 q2, ed.len, ed.at_⟩
  refine ⟨fun i k H => k = p.1.length - i ∧ i ≤ p.1.length ∧ Pv i H, ⟨p.1.length, by simp, Nat.zero_le _, m1.hide D, st1, [], [], zs, ⟨Nat.le_refl _, fun _ _ => .inl rfl, rfl, fun a u h _ _ => h, fun a h n => absurd h n, nI⟩, hide_st hD s1, upd_same, .nil, by rw [List.drop_zero]; exact ef, rfl⟩, ?_⟩
  rintro i k H2 ⟨rfl, hi, mp, st2, acc, ys, zs', ed, s2, hD2, ra, ef2, ez⟩
  have gd := foldR_ok ef2
  have lt := late ed
  have hPmp : mp.P D := by rw [ed.P]; exact hPD
  have rl : Rel X.K H2 mp σ ρ st2 := ⟨r.len, fun j x e => by
    obtain ⟨v, h1, h2⟩ := r1.env j x e
    exact ⟨v, h1, h2.late lt⟩, s2⟩
  by_cases hlt : i < p.1.length
  · refine .inr ⟨hJ.go i mp H2 st2 lt s2 gd hlt, Pv (i + 1), fun H' h' => ⟨p.1.length - (i + 1), by omega, rfl, hlt, h'⟩, fun x H' y => ?_⟩
    have hv : p.1[i]? = some p.1[i] := by simp [hlt]
    obtain ⟨le, rx⟩ := hJ.yld i mp H2 st2 x H' p.1[i] lt s2 gd hv y
    rw [List.drop_eq_getElem_cons hlt] at ef2
    unfold foldR at ef2
    rw [if_pos gd] at ef2
    obtain ⟨oy, st3, et, ef2⟩ := R.bind_ok ef2
    obtain ⟨yr, st4, er, ef3⟩ := R.bind_ok ef2
    cases ef3
    unfold mTurn at et
    obtain ⟨ρ1, st5, eg, et⟩ := R.bind_ok et
    obtain ⟨b, st6, ec, et⟩ := R.bind_ok et
    refine ⟨mp, wipeR ρ vs, st2, p.1[i], (wipe_rel rl vs).le le, rx, ?_⟩
    rw [eg]
    intro m3 H3 e3 s3 σ3 r3 n3
    have len3 : σ3.length = (wipe σ vs).length := by
      have q1 := r3.len
      have q2 := (wipe_rel rl vs).len
      rw [q1, q2, hlen _ _ _ _ _ eg]
    refine ⟨(wipe_eq len3 fun j hj => n3 j fun z => hj (hsl j z)).trans (wipe_wipe σ vs), m3, ρ1, st5, r3, ?_⟩
    rw [ec]
    intro m4 H4 e4 s4
    have ed4 : ExtD D (m1.hide D) (upd H1 D (.lst [])) m4 H4 := by
      have q := ed.le le
      have n4 : ¬ m4.In D := fun z => s4.np D z (by rw [e4.P, e3.P]; exact hPmp)
      have n3' : ¬ m3.In D := fun z => s3.np D z (by rw [e3.P]; exact hPmp)
      exact (q.trans (e3.d n3')).trans (e4.d n4)
    have nI2 : ¬ mp.In D := ed.no
    have nI3 : ¬ m3.In D := fun z => s3.np D z (by rw [e3.P]; exact hPmp)
    have hD4 : H4 D = some (.lst acc) := e4.keep D _ (e3.keep D _ (le D _ hD2) nI2) nI3
    have ra4 : Reps X.K H4 m4 acc ys := Reps.ext e4 (Reps.ext e3 (Paired.mapP ra fun _ _ z => z.le le))
    cases b with
    | false =>
      dsimp only
      rw [if_neg (by simp)] at et ⊢
      cases et
      exact ⟨m4, _, acc, ys, yr, ed4, s4, hD4, ra4, er, by simpa using ez⟩
    | true =>
      dsimp only
      rw [if_pos rfl] at et ⊢
      obtain ⟨y, st7, ee, et⟩ := R.bind_ok et
      cases et
      refine ⟨m4, ρ1, st6, r3.ext e4 s4, ?_⟩
      rw [ee]
      intro m5 H5 e5 s5 u ru
      have hP5 : m5.P D := by rw [e5.P, e4.P, e3.P]; exact hPmp
      have n5 : ¬ m5.In D := fun z => s5.np D z hP5
      have n4 : ¬ m4.In D := fun z => s4.np D z (by rw [e4.P, e3.P]; exact hPmp)
      refine ⟨acc, e5.keep D _ hD4 n4, ?_, m5, _, acc ++ [u], ys ++ [y], yr, (ed4.trans (e5.d n5)).upd, hid_st hP5 s5, upd_same, ?_, er, ?_⟩
      · have q := Paired.length ra
        have q2 : zs.length = ys.length + (1 + yr.length) := by rw [ez]; simp; omega
        omega
      · exact paired_append (Paired.mapP (Reps.ext e5 ra4) fun _ _ z => hid_rep hP5 z) (.cons (hid_rep hP5 ru) .nil)
      · rw [ez]; simp
  · obtain rfl : i = p.1.length := by omega
    refine .inl ⟨hJ.stop mp H2 st2 lt s2 gd, ?_⟩
    rw [List.drop_length] at ef2
    unfold foldR at ef2
    rw [if_pos gd] at ef2
    cases ef2
    rw [List.append_nil] at ez
    subst ez
    have q := mk_list (g := gx X) (rm_st (K := X.K) ed.P nP s2) (Paired.mapP ra fun _ _ z => rm_rep ed.P z) (Out.from (rm_ext hD ed) o1)
    have q2 := q.2 D rm_same
    rw [upd_rm' hD2] at q2
    exact q2
end
end G
set_option Elab.async false
set_option linter.all false
set_option maxRecDepth 100000
/-! GK: comprehensions as values; dict displays; written dicts; statements -/
namespace G
open PySem PySem.Spec PyProof.Rows L2
section
variable {X : Cx} {W W' : WX} {elt tg iter a b e : Expr} {es ifs : List Expr} {scope : Scope} {own : List (Str × Nat)} {pos spos p2 : Pos} {fa fb fe : Rho → Store → R Val} {fi : Rho → Store → R Items} {ft : Val → Rho → Store → R Rho} {fc : Rho → Store → R Bool} {sl : List Nat} {mu : Bool}
theorem set_ok {e : Expr} (h : pln e = true) (env : Env) (x : Value) : foldedSetIterable e env x = pure x := by
  cases e <;> first | rfl | (cases h)
theorem ge_comp (C : Cok X) (hp : pln iter = true) (hi : GIt X W tg iter fi) (ok : BlkOk X.N X.env.scope scope own)
    (hg : ∀ (s : Shared) (H : Hp) (C : Addr) (cl : List (Str × Addr)) (fp : List Addr), PG (X.blk s H scope (compEnvC scope cl C X.env) fp) tg (DG (gx X) sl ft))
    (ht : ∀ (s : Shared) (H : Hp) (C : Addr) (cl : List (Str × Addr)) (fp : List Addr), PTs (X.blk s H scope (compEnvC scope cl C X.env) fp) ifs (DT (gx X) W' fc))
    (he : ∀ (s : Shared) (H : Hp) (C : Addr) (cl : List (Str × Addr)) (fp : List Addr), PE (X.blk s H scope (compEnvC scope cl C X.env) fp) elt (DE (gx X) W' fe))
    (hsl : ∀ i ∈ sl, i ∈ own.map (·.2)) (hlen : ∀ x ρ st ρ1 st1, ft x ρ st = .ok ρ1 st1 → ρ1.length = ρ.length) :
    GE X W (.ListComp elt [⟨tg, iter, ifs, 0⟩] scope pos) (mComp mu fi ft fc fe (own.map (·.2))) := PEw (pe_lc C.calm C.nd hi ok hg ht he fun x => set_ok hp _ x) fun _ _ _ q => de_comp hsl hlen q
theorem gts_nil : PTs X [] (DT (gx X) W fun _ st => .ok true st) := ⟨fun pins s σ H Q I q => pts_nil.run pins s σ H Q I (by
  obtain ⟨m, ρ, st, r, o⟩ := q
  exact Out.here o r.st)⟩
theorem gts_one (h : GT X W a (tr' fa)) : PTs X [a] (DT (gx X) W (tr' fa)) := pts_one h
/-! ### dict displays -/
def DP (g : Gx) (W : WX) (f : Rho → Store → R (List Val × List Val)) : L2.St → Hp → (List (V × V) → Hp → Prop) → Prop := fun σ H Q => ∃ m ρ st, Rel g.K H m σ ρ st ∧ Out g W m H σ (f ρ st) fun p _ m' H' => ∀ ks vs, Reps g.K H' m' ks p.1 → Reps g.K H' m' vs p.2 → Q (ks.zip vs) H'
structure GPs (X : Cx) (W : WX) (pos : Pos) (keys : List (Option Expr)) (values : List Expr) (f : Rho → Store → R (List Val × List Val)) : Prop where
  run : ∃ trs, PPs X pos keys values trs ∧ ∀ σ H Q, DP (gx X) W f σ H Q → tPairs trs σ H Q
  all : keys.all (·.isSome) = true
  len : keys.length = values.length
theorem gp_nil {pos : Pos} : GPs X W pos [] [] (fun _ st => .ok ([], []) st) := ⟨⟨[], pps_nil, fun σ H Q q => by
  obtain ⟨m, ρ, st, r, o⟩ := q
  exact Out.here o r.st [] [] .nil .nil⟩, rfl, rfl⟩
theorem gp_cons {pos : Pos} {ks : List (Option Expr)} {vs : List Expr} {fr : Rho → Store → R (List Val × List Val)} (ha : GE X W a fa) (hb : GE X W b fb) (hr : GPs X W pos ks vs fr) :
    GPs X W pos (some a :: ks) (b :: vs) (fun ρ st => (fa ρ st).bind fun x st1 => (fb ρ st1).bind fun y st2 => (fr ρ st2).bind fun p st3 => .ok (x :: p.1, y :: p.2) st3) := by
  obtain ⟨⟨trs, h1, h2⟩, h3, h4⟩ := hr
  refine ⟨⟨_, pps_cons ha hb h1, fun σ H Q q => ?_⟩, by simpa using h3, by simpa using h4⟩
  obtain ⟨m, ρ, st, r, o⟩ := q
  refine ⟨m, ρ, st, r, (Out.bind o).imp fun x st1 m1 H1 e1 s1 o1 u ru => ?_⟩
  refine ⟨m1, ρ, st1, r.ext e1 s1, (Out.bind o1).imp fun y st2 m2 H2 e2 s2 o2 t rt => ?_⟩
  refine h2 _ _ _ ⟨m2, ρ, st2, (r.ext e1 s1).ext e2 s2, (Out.bind o2).imp fun p st3 m3 H3 e3 s3 o3 ks vs rk rv => ?_⟩
  have := Out.here o3 s3 (u :: ks) (t :: vs) (.cons ((ru.ext e2).ext e3) rk) (.cons (rt.ext e3) rv)
  exact this
theorem zipKv_of {K : PySem.W.Frag} {H : Hp} {m : Mp} : ∀ {ks vs : List V} {xs ys : List Val} {kvs : List (PyData × Val)}, Reps K H m ks xs → Reps K H m vs ys → zipKv xs ys = some kvs →
    ∃ es : List (Key × V), ks.zip vs = es.map (fun kv => (kV kv.1, kv.2)) ∧ RepE K H m es kvs
  | _, _, [], [], kvs, .nil, .nil, h => by cases h; exact ⟨[], rfl, .nil⟩
  | _, _, .d k :: xs, y :: ys, kvs, .cons rk r1, .cons rv r2, h => by
    unfold zipKv at h
    split at h
    · rename_i hk
      cases q : zipKv xs ys with
      | none => rw [q] at h; cases h
      | some kvs' =>
        rw [q] at h; cases h
        obtain ⟨es, e1, e2⟩ := zipKv_of r1 r2 q
        obtain ⟨k', h1, rfl⟩ := key_of' (inv_d rk) hk
        exact ⟨(k', _) :: es, by rw [List.zip_cons_cons, e1]; rfl, .cons ⟨h1, rv⟩ e2⟩
    · cases h
  | _, _, [], _ :: _, _, .nil, .cons _ _, h => by cases h
  | _, _, .d _ :: _, [], _, .cons _ _, .nil, h => by cases h
  | _, _, .loc _ :: _, _, _, .cons _ _, _, h => by unfold zipKv at h; cases h
  | _, _, .scr _ :: _, _, _, .cons _ _, _, h => by unfold zipKv at h; cases h
theorem repE_len {K : PySem.W.Frag} {H : Hp} {m : Mp} {es : List (Key × V)} {kvs : List (PyData × Val)} (h : RepE K H m es kvs) : es.length = kvs.length := Paired.length h
theorem repE_stay {K : PySem.W.Frag} {H H' : Hp} {m m' : Mp} (f : ∀ v x, Rep K H m v x → Rep K H' m' v x) {es : List (Key × V)} {kvs : List (PyData × Val)} (h : RepE K H m es kvs) : RepE K H' m' es kvs := Paired.mapP h fun _ _ z => ⟨z.1, f _ _ z.2⟩
theorem merge_rep {K : PySem.W.Frag} {H : Hp} {m : Mp} : ∀ {es acc : List (Key × V)} {kvs acc' : List (PyData × Val)}, RepE K H m acc acc' → RepE K H m es kvs → RepE K H m (mergeK acc es) (mergeD acc' kvs)
  | [], acc, [], acc', h, .nil => h
  | (k, v) :: es, acc, (k', x) :: kvs, acc', h, .cons h1 h2 => by
    obtain ⟨e1, r1⟩ := h1
    have e1 : keyD k = k' := e1
    subst e1
    have q : RepE K H m (putK acc k v) (mergeD acc' [(keyD k, x)]) := rep_put r1 h
    show RepE K H m (mergeK (putK acc k v) es) (mergeD (mergeD acc' [(keyD k, x)]) kvs)
    exact merge_rep q h2
theorem datKv_of {K : PySem.W.Frag} {H : Hp} {m : Mp} : ∀ {es : List (Key × V)} {kvs : List (PyData × Val)} {ds : List (PyData × PyData)}, RepE K H m es kvs → datKv kvs = some ds → RepKv K H m es ds
  | _, [], ds, .nil, h => by cases h; exact .nil
  | (k, v) :: es, (k', .d x) :: kvs, ds, .cons h1 h2, h => by
    unfold datKv at h
    cases q : datKv kvs with
    | none => rw [q] at h; cases h
    | some ds' =>
      rw [q] at h; cases h
      obtain ⟨e1, r1⟩ := h1
      have e1 : keyD k = k' := e1
      subst e1
      exact .cons (inv_d r1) (datKv_of h2 q)
  | _, (_, .loc _) :: _, _, .cons _ _, h => by cases h
  | _, (_, .scr _) :: _, _, .cons _ _, h => by cases h
theorem mk_dict {g : Gx} {m : Mp} {H : Hp} {σ : L2.St} {st : Store} {ks vs : List Val} {xs ys : List V} {Q : VK} (s : StRel g.K H m st) (r1 : Reps g.K H m xs ks) (r2 : Reps g.K H m ys vs) (o : Out g W m H σ (mkDict mu ks vs st) fun x _ m' H' => ∀ v, Rep g.K H' m' v x → Q v H') :
    ∃ es : List (Key × V), xs.zip ys = es.map (fun kv => (kV kv.1, kv.2)) ∧ es.length ≤ 15 ∧ ∀ p, H p = none → Q (.ref p) (upd H p (.dK (mergeK [] es))) := by
  unfold mkDict at o
  split at o
  · rename_i kvs hz
    obtain ⟨es, e1, e2⟩ := zipKv_of r1 r2 hz
    split at o
    · rename_i hl
      have rm : RepE g.K H m (mergeK [] es) (mergeD [] kvs) := merge_rep .nil e2
      refine ⟨es, e1, by rw [repE_len e2]; exact hl, fun p hp => ?_⟩
      split at o
      · have c : CellRel g.K (upd H p (.dK (mergeK [] es))) (m.push p) p (.dct (mergeD [] kvs)) := ⟨_, upd_same, repE_stay (fun _ _ z => z.ext (alloc_ext hp)) rm⟩
        exact o _ _ (alloc_ext hp) (alloc_rel s hp c) _ (rep_new_loc s.len)
      · split at o
        · rename_i ds hds
          have e := ext_of_le (m := m) (le_upd (o := .dK (mergeK [] es)) hp)
          refine o _ _ e (s.le (le_upd hp)) _ (.d (.dct ⟨upd_same, s.frz hp⟩ ?_))
          exact datKv_of (repE_stay (fun _ _ z => z.ext e) rm) hds
        · exact o.elim
    · exact o.elim
  · exact o.elim
theorem ge_dct {keys : List (Option Expr)} {values : List Expr} {fr : Rho → Store → R (List Val × List Val)} (h : GPs X W pos keys values fr) (h0 : keys ≠ []) (h15 : keys.length ≤ 15) :
    GE X W (.Dict keys values pos) (fun ρ st => (fr ρ st).bind fun p st1 => mkDict mu p.1 p.2 st1) := by
  obtain ⟨⟨trs, h1, h2⟩, h3, h4⟩ := h
  refine PEw (pe_disp h1 h3 h4 h0 h15) fun σ H Q q p hp => ?_
  obtain ⟨m, ρ, st, r, o⟩ := q
  refine h2 _ _ _ ⟨m.hide p, ρ, st, hide_rel hp r, ?_⟩
  dsimp only at o
  have nP : ¬ m.P p := fun z => r.st.trk p z hp
  have nI : ¬ m.In p := fun z => r.st.live p z hp
  cases e : fr ρ st with
  | no => rw [e] at o; exact o
  | exc x st1 =>
    rw [e] at o
    intro m' H' cls dd ex s er
    have n' : ¬ m'.In p := fun z => s.np p z (by rw [ex.P]; exact .inr rfl)
    exact o _ _ cls dd (back_ext hp nI (ex.d n')) (back_st0 ex.P s) (er.stay (back_stay0 ex.P) (Nat.le_refl _) fun _ _ => .inl rfl)
  | ok pp st1 =>
    rw [e] at o
    intro m' H' ex s ks vs rk rv
    have hP : m'.P p := by rw [ex.P]; exact .inr rfl
    have n' : ¬ m'.In p := fun z => s.np p z hP
    have ed := ex.d n'
    obtain ⟨es, e1, e2, e3⟩ := mk_dict (g := gx X) (rm_st (K := X.K) ed.P nP s) (Paired.mapP rk fun _ _ z => rm_rep ed.P z) (Paired.mapP rv fun _ _ z => rm_rep ed.P z) (Out.from (rm_ext hp ed) o)
    refine ⟨ex.keep p _ upd_same nI, es, e1, e2, ?_⟩
    have q := e3 p rm_same
    rw [upd_rm] at q
    exact q
theorem ge_dct0 : GE X W (.Dict [] [] pos) (fun ρ st => (R.ok (([] : List Val), ([] : List Val)) st).bind fun p st1 => mkDict mu p.1 p.2 st1) := PEw pe_dnewK fun σ H Q q => by
  obtain ⟨m, ρ, st, r, o⟩ := q
  intro p hp
  obtain ⟨es, e1, e2, e3⟩ := mk_dict (xs := []) (ys := []) r.st .nil .nil o
  have : es = [] := by
    cases es with
    | nil => rfl
    | cons _ _ => cases e1
  subst this
  exact e3 p hp
/-! ### written dicts -/
/-- at the module's name x: a written dict of these pairs -/
def WDict (X : Cx) (x : Str) (kvs : List (PyData × PyData)) : Prop := ∃ a es n, X.mg x = some (.ref a) ∧ KDict X.K X.w a es n ∧
  ∀ z : Str, (findD kvs z = none ∧ PySem.W.nsIn X.K a z = some none) ∨ ∃ d u v, findD kvs z = some d ∧ PySem.W.nsIn X.K a z = some (some u) ∧ RelV v u ∧ ∀ H m, RepD X.K H m v d
def mInG (neg : Bool) (kvs : List (PyData × PyData)) (fa : Rho → Store → R Val) : Rho → Store → R Val := fun ρ st => (fa ρ st).bind fun v st1 => match v with
    | .d (.str x) => .ok (.d (.bool (if neg then !(findD kvs x).isSome else (findD kvs x).isSome))) st1
    | _ => .no
theorem inG_bool {neg : Bool} {kvs : List (PyData × PyData)} (ρ : Rho) (st : Store) (z : Val) (st' : Store) (h : mInG neg kvs fa ρ st = .ok z st') : ∃ k, z = .d (.bool k) := by
  obtain ⟨v, st1, _, h2⟩ := R.bind_ok h
  split at h2
  · cases h2; exact ⟨_, rfl⟩
  · cases h2
theorem in_kd {d : Addr} {es : Array DictEntry} {n : Nat} (neg : Bool) (D : KDict X.K X.w d es n) : OpR X (compareOp (if neg then .NotIn else .In)) (fun x y H Q => ∃ (z : Str) (r : Option Value), x = .str z ∧ y = .ref d ∧ PySem.W.nsIn X.K d z = some r ∧ Q (.bl (if neg then !r.isSome else r.isSome)) H) := by
  cases neg with
  | true => exact op_notIn_kd D
  | false => exact op_in_kd D
theorem inG_all {neg : Bool} {x : Str} {kvs : List (PyData × PyData)} (hg : Gl X x) (hd : (x == ("__debug__" : Str)) = false) (h : WDict X x kvs) (ha : GE X W a fa) :
    GE X W (.Compare a [if neg then .NotIn else .In] [.Name x p2] pos) (mInG neg kvs fa) ∧ GT X W (.Compare a [if neg then .NotIn else .In] [.Name x p2] pos) (tr' (mInG neg kvs fa)) := by
  obtain ⟨A, es, n, hm, D, hk⟩ := h
  have hb : PE X (.Name x p2) (tC (.ref A)) := L2.pe_glob hg hm rfl hd
  have red : ∀ σ H (Q : VK), DE (gx X) W (mInG neg kvs fa) σ H Q → tOp (fun x y H Q => ∃ (z : Str) (r : Option Value), x = .str z ∧ y = .ref A ∧ PySem.W.nsIn X.K A z = some r ∧ Q (.bl (if neg then !r.isSome else r.isSome)) H) (DE (gx X) W fa) (tC (.ref A)) σ H Q := fun σ H Q q => by
    obtain ⟨m, ρ, st, r, o⟩ := q
    refine ⟨m, ρ, st, r, (Out.bind o).imp fun v st1 m1 H1 e1 s1 o1 x rx => ?_⟩
    dsimp only at o1
    split at o1
    · rename_i z
      obtain rfl := inv_str rx
      have q := Out.here o1 s1 _ (.d (.bl _))
      rcases hk z with ⟨h1, h2⟩ | ⟨d, u, v, h1, h2, _, _⟩
      · rw [h1] at q; exact ⟨z, none, rfl, rfl, h2, q⟩
      · rw [h1] at q; exact ⟨z, some u, rfl, rfl, h2, q⟩
    · exact o1.elim
  have hmk : behindInMarks (if neg then .NotIn else .In) (.Name x p2) = false := rfl
  exact ⟨PEw (pe_cmpR (in_kd neg D) ha hb hmk) red, PTw (pt_cmpR (in_kd neg D) ha hb hmk) (gt_of_bool red inG_bool)⟩
theorem ge_ixG {x : Str} {kvs : List (PyData × PyData)} (hg : Gl X x) (hd : (x == ("__debug__" : Str)) = false) (h : WDict X x kvs) (hp : pln a = true) (ha : GE X W a fa) :
    GE X W (.Subscript (.Name x p2) a pos) (fun ρ st => (fa ρ st).bind fun v st1 => match v with
    | .d (.str x) => match findD kvs x with
      | some d => .ok (.d d) st1
      | none => .no
    | _ => .no) := by
  obtain ⟨A, es, n, hm, D, hk⟩ := h
  have hb : PE X (.Name x p2) (tC (.ref A)) := L2.pe_glob hg hm rfl hd
  refine PEw (pe_ix ix_kdict hb ha (ix_ok hp)) fun σ H Q q => ?_
  obtain ⟨m, ρ, st, r, o⟩ := q
  refine ⟨m, ρ, st, r, (Out.bind o).imp fun v st1 m1 H1 e1 s1 o1 x rx => ?_⟩
  dsimp only at o1
  split at o1
  · rename_i z
    obtain rfl := inv_str rx
    rcases hk z with ⟨h1, h2⟩ | ⟨d, u, v, h1, h2, h3, h4⟩
    · rw [h1] at o1; exact o1.elim
    · rw [h1] at o1
      exact ⟨A, z, v, rfl, rfl, ⟨es, n, u, D.at_, D.lit, h2, h3⟩, Out.here o1 s1 _ (.d (h4 _ _))⟩
  · exact o1.elim
end
end G
set_option Elab.async false
set_option linter.all false
set_option maxRecDepth 100000
/-! GL: statements -/
namespace G
open PySem PySem.Spec PyProof.Rows L2
def FlK (g : Gx) (W : WX) (D : Ends) (fl : Fl) (st' : Store) (m' : Mp) (H' : Hp) : Prop := match fl with
  | .next ρ' => ∀ σ', Rel g.K H' m' σ' ρ' st' → D.nx σ' H'
  | .ret v => ∀ x, Rep g.K H' m' x v → D.rt x H'
  | .brk ρ' => ∀ σ', Rel g.K H' m' σ' ρ' st' → D.bk σ' H'
  | .cont ρ' => ∀ σ', Rel g.K H' m' σ' ρ' st' → D.ct σ' H'
  | .exc e ρ' => ∀ σ' cls dd, Rel g.K H' m' σ' ρ' st' → ERel g H' m' e cls dd → W cls dd σ' H'
def DS (g : Gx) (W : WX) (f : Rho → Store → R Fl) : TS := fun D σ H => ∃ m ρ st, Rel g.K H m σ ρ st ∧ OutN g m H (f ρ st) (FlK g W D)
abbrev GS (X : Cx) (W : WX) (s : Stmt) (f : Rho → Store → R Fl) : Prop := PS X s (DS (gx X) W f)
abbrev GSs (X : Cx) (W : WX) (s : List Stmt) (f : Rho → Store → R Fl) : Prop := PSs X s (DS (gx X) W f)
theorem PSw {X : Cx} {s : Stmt} {t t' : TS} (h : PS X s t) (w : ∀ D σ H, t' D σ H → t D σ H) : PS X s t' := ⟨fun pins s σ H D I q => h.run pins s σ H D I (w D σ H q)⟩
theorem PSsw {X : Cx} {s : List Stmt} {t t' : TS} (h : PSs X s t) (w : ∀ D σ H, t' D σ H → t D σ H) : PSs X s t' := ⟨fun pins s σ H D I q => h.run pins s σ H D I (w D σ H q)⟩
section
variable {g : Gx} {W : WX} {α : Type} {m : Mp} {H : Hp} {σ : L2.St} {ρ : Rho} {st : Store} {D : Ends}
theorem cat_out {r : R α} {f : α → Store → R Fl} (r0 : Rel g.K H m σ ρ st) (o : OutN g m H (r.cat ρ f) (FlK g W D)) : Out g W m H σ r fun a st1 m1 H1 => OutN g m1 H1 (f a st1) (FlK g W D) := by
  cases r with
  | ok a st1 => exact fun m1 H1 e1 s1 => OutN.from e1 o
  | exc x st1 => exact fun m1 H1 cls dd e1 s1 er => o m1 H1 e1 s1 σ cls dd (r0.ext e1 s1) er
  | no => exact o.elim
theorem noX_out {r : R Fl} {f : Fl → Store → R Fl} {k : Fl → Store → Mp → Hp → Prop} (o : OutN g m H (r.noX.bind f) k) : OutN g m H r fun a st1 m1 H1 => OutN g m1 H1 (f a st1) k := by
  cases r with
  | ok a st1 => exact fun m1 H1 e1 s1 => OutN.from e1 o
  | exc x st1 => exact o.elim
  | no => exact o.elim
theorem noE_out {r : R α} {f : α → Store → R Fl} {k : Fl → Store → Mp → Hp → Prop} (o : OutN g m H (r.noExc.bind f) k) : OutN g m H r fun a st1 m1 H1 => OutN g m1 H1 (f a st1) k := by
  cases r with
  | ok a st1 => exact fun m1 H1 e1 s1 => OutN.from e1 o
  | exc x st1 => exact o.elim
  | no => exact o.elim
end
section
variable {X : Cx} {W : WX} {a b c e tg iter : Expr} {pos : Pos} {fa fb fc : Rho → Store → R Val} {fs ft : Rho → Store → R Fl} {s : Stmt} {rest body orelse : List Stmt}
theorem gss_nil : GSs X W [] (fun ρ st => .ok (.next ρ) st) := PSsw pss_nil fun D σ H q => by
  obtain ⟨m, ρ, st, r, o⟩ := q
  exact OutN.here o r.st σ r
theorem gss_cons (h1 : GS X W s fs) (h2 : GSs X W rest ft) : GSs X W (s :: rest) (fun ρ st => (fs ρ st).noX.bind fun fl st1 => match fl with
    | .next ρ1 => ft ρ1 st1
    | fl => .ok fl st1) := PSsw (pss_cons h1 h2) fun D σ H q => by
  obtain ⟨m, ρ, st, r, o⟩ := q
  refine ⟨m, ρ, st, r, (noX_out o).imp fun fl st1 m1 H1 e1 s1 o1 => ?_⟩
  cases fl with
  | next ρ1 => exact fun σ' r' => ⟨m1, ρ1, st1, r', o1⟩
  | ret v => exact OutN.here o1 s1
  | brk ρ1 => exact OutN.here o1 s1
  | cont ρ1 => exact OutN.here o1 s1
  | exc e ρ1 => exact OutN.here o1 s1
theorem gs_expr (h : GE X W a fa) (hs : swapsWith a none pos.line X.env = pure false) : GS X W (.Expr a pos) (fun ρ st => (fa ρ st).cat ρ fun _ st1 => .ok (.next ρ) st1) := PSw (ps_expr h hs) fun D σ H q => by
  obtain ⟨m, ρ, st, r, o⟩ := q
  exact ⟨m, ρ, st, r, (cat_out r o).imp fun v st1 m1 H1 e1 s1 o1 x rx => OutN.here o1 s1 σ (r.ext e1 s1)⟩
theorem gs_asg_of {he : TE} {sl : List Nat} {fg : Val → Rho → Store → R Rho} {D : Ends} {σ : L2.St} {H : Hp} (q : DS (gx X) W (fun ρ st => (fa ρ st).cat ρ fun v st1 => (fg v ρ st1).noExc.bind fun ρ1 st2 => .ok (.next ρ1) st2) D σ H) : tAsg (DE (gx X) W fa) (DG (gx X) sl fg) D σ H := by
  obtain ⟨m, ρ, st, r, o⟩ := q
  refine ⟨m, ρ, st, r, (cat_out r o).imp fun v st1 m1 H1 e1 s1 o1 x rx => ?_⟩
  refine ⟨m1, ρ, st1, v, r.ext e1 s1, rx, (noE_out o1).imp fun ρ1 st2 m2 H2 e2 s2 o2 σ' r' _ => ?_⟩
  exact OutN.here o2 s2 σ' r'
def swOk (e : Expr) : Bool := match e with
  | .ListComp .. => false
  | .SetComp .. => false
  | .DictComp .. => false
  | _ => true
theorem sw_off {e : Expr} (h : swOk e = true) (t : Option Expr) (l : Nat) (env : Env) : swapsWith e t l env = pure false := by
  cases e <;> first | rfl | (cases h)
def nName (t : Expr) : Bool := match t with
  | .Name .. => false
  | _ => true
theorem sw_off2 {e t : Expr} (h : nName t = true) (l : Nat) (env : Env) : swapsWith e (some t) l env = pure false := by
  cases e <;> cases t <;> first | rfl | (cases h)
/-- name = value -/
theorem gs_set {i : Nat} {x : Str} {pos' : Pos} (C : Cok X) (hi : X.N[i]? = some x) (hx : Loc X.env.scope x) (hf : X.fn x = true ∨ X.env.scope.names.lookup x = some .local) (h : GE X W a fa) (hs : swapsWith a (some (.Name x pos')) pos.line X.env = pure false) :
    GS X W (.Assign [.Name x pos'] a pos) (fun ρ st => (fa ρ st).cat ρ fun v st1 => (if i < ρ.length then R.ok (ρ.set i (some v)) st1 else .no).noExc.bind fun ρ1 st2 => .ok (.next ρ1) st2) := PSw (ps_set C.nd hi hx h hs hf) fun D σ H q => by
  obtain ⟨m, ρ, st, r, o⟩ := q
  refine ⟨m, ρ, st, r, (cat_out r o).imp fun v st1 m1 H1 e1 s1 o1 x rx => ?_⟩
  split at o1
  · exact OutN.here o1 s1 _ ((r.ext e1 s1).set rx)
  · exact o1.elim
theorem gs_setLc {i : Nat} {y : Str} {py spos : Pos} {elt : Expr} {ifs : List Expr} {scope : Scope} {own : List (Str × Nat)} {W' : WX} {fi : Rho → Store → R Items} {fg : Val → Rho → Store → R Rho} {fk : Rho → Store → R Bool} {fe : Rho → Store → R Val} {sl : List Nat} {mu : Bool}
    (C : Cok X) (hy : X.N[i]? = some y) (hyl : X.env.scope.names.lookup y = some .local) (hsw : swapsWith (.ListComp elt [⟨tg, iter, ifs, 0⟩] scope pos) (some (.Name y py)) spos.line X.env = pure true)
    (hp : pln iter = true) (hi : GIt X W tg iter fi) (ok : BlkOk X.N X.env.scope scope own)
    (hg : ∀ (s : Shared) (H : Hp) (C : Addr) (cl : List (Str × Addr)) (fp : List Addr), PG (X.blk s H scope (compEnvC scope cl C X.env) fp) tg (DG (gx X) sl fg))
    (ht : ∀ (s : Shared) (H : Hp) (C : Addr) (cl : List (Str × Addr)) (fp : List Addr), PTs (X.blk s H scope (compEnvC scope cl C X.env) fp) ifs (DT (gx X) W' fk))
    (he : ∀ (s : Shared) (H : Hp) (C : Addr) (cl : List (Str × Addr)) (fp : List Addr), PE (X.blk s H scope (compEnvC scope cl C X.env) fp) elt (DE (gx X) W' fe))
    (hsl : ∀ i ∈ sl, i ∈ own.map (·.2)) (hlen : ∀ x ρ st ρ1 st1, fg x ρ st = .ok ρ1 st1 → ρ1.length = ρ.length) :
    GS X W (.Assign [.Name y py] (.ListComp elt [⟨tg, iter, ifs, 0⟩] scope pos) spos) (fun ρ st => (mComp mu fi fg fk fe (own.map (·.2)) ρ st).cat ρ fun v st1 => (if i < ρ.length then R.ok (ρ.set i (some v)) st1 else .no).noExc.bind fun ρ1 st2 => .ok (.next ρ1) st2) :=
  PSw (ps_setLc C.calm C.nd hy hyl hsw hi ok hg ht he fun x => set_ok hp _ x) fun D σ H q => de_comp (mu := mu) hsl hlen (by
    obtain ⟨m, ρ, st, r, o⟩ := q
    refine ⟨m, ρ, st, r, (cat_out r o).imp fun v st1 m1 H1 e1 s1 o1 x rx => ?_⟩
    split at o1
    · exact OutN.here o1 s1 _ ((r.ext e1 s1).set rx)
    · exact o1.elim)
/-- another target -/
theorem gs_asg {sl : List Nat} {fg : Val → Rho → Store → R Rho} (hp : pln tg = true) (hn : nName tg = true) (h : GE X W a fa) (hg : PG X tg (DG (gx X) sl fg)) (hw : swappedStores [tg] a X.env = pure none) :
    GS X W (.Assign [tg] a pos) (fun ρ st => (fa ρ st).cat ρ fun v st1 => (fg v ρ st1).noExc.bind fun ρ1 st2 => .ok (.next ρ1) st2) :=
  PSw (ps_asg h hg (sw_off2 hn _ _) hw (by rw [asgE_pln hp]; rfl)) fun D σ H q => gs_asg_of (he := DE (gx X) W fa) q
/-- a, b = x, y -/
theorem gs_par {i j : Nat} {x y : Str} {px py pt : Pos} {kt k2 : Nat} {pt2 : Pos} (C : Cok X) (hi : X.N[i]? = some x) (hj : X.N[j]? = some y) (hij : i ≠ j) (hx : X.env.scope.names.lookup x = some .local) (hy : X.env.scope.names.lookup y = some .local)
    (hp : pln a = true) (hq : pln b = true) (ha : GE X W a fa) (hb : GE X W b fb) (hw : swappedStores [.Tuple [.Name x px, .Name y py] kt pt] (.Tuple [a, b] k2 pt2) X.env = pure (some [x, y])) :
    GS X W (.Assign [.Tuple [.Name x px, .Name y py] kt pt] (.Tuple [a, b] k2 pt2) pos) (fun ρ st => (fa ρ st).cat ρ fun v st1 => (fb ρ st1).cat ρ fun u st2 => if i < ρ.length ∧ j < ρ.length then .ok (.next ((ρ.set i (some v)).set j (some u))) st2 else .no) :=
  PSw (ps_par C.calm C.nd hi hj hij hx hy (pa_cons ha (pa_cons hb pa_nil (star_pln hq _ _)) (star_pln hp _ _)) hw (show swapsWith (.Tuple [a, b] k2 pt2) (some (.Tuple [.Name x px, .Name y py] kt pt)) pos.line X.env = pure false from sw_off2 rfl _ _)) fun D σ H q => by
    obtain ⟨m, ρ, st, r, o⟩ := q
    refine ⟨m, ρ, st, r, (cat_out r o).imp fun v st1 m1 H1 e1 s1 o1 x rx => ?_⟩
    have r1 := r.ext e1 s1
    refine ⟨m1, ρ, st1, r1, (cat_out r1 o1).imp fun u st2 m2 H2 e2 s2 o2 y ry => ?_⟩
    refine ⟨x, y, rfl, ?_⟩
    split at o2
    · exact OutN.here o2 s2 _ (((r1.ext e2 s2).set (rx.ext e2)).set ry)
    · exact o2.elim
theorem gs_ret (h : GE X W a fa) : GS X W (.Return (some a) pos) (fun ρ st => (fa ρ st).cat ρ fun v st1 => .ok (.ret v) st1) := PSw (ps_ret h) fun D σ H q => by
  obtain ⟨m, ρ, st, r, o⟩ := q
  exact ⟨m, ρ, st, r, (cat_out r o).imp fun v st1 m1 H1 e1 s1 o1 x rx => OutN.here o1 s1 x rx⟩
theorem gs_retn : GS X W (.Return none pos) (fun _ st => .ok (.ret (.d .none)) st) := PSw ps_retN fun D σ H q => by
  obtain ⟨m, ρ, st, r, o⟩ := q
  exact OutN.here o r.st _ (.d .non)
theorem gs_pass : GS X W (.Pass pos) (fun ρ st => .ok (.next ρ) st) := PSw ps_pass fun D σ H q => by
  obtain ⟨m, ρ, st, r, o⟩ := q
  exact OutN.here o r.st _ r
theorem gs_brk : GS X W (.Break pos) (fun ρ st => .ok (.brk ρ) st) := PSw ps_break fun D σ H q => by
  obtain ⟨m, ρ, st, r, o⟩ := q
  exact OutN.here o r.st _ r
theorem gs_cont : GS X W (.Continue pos) (fun ρ st => .ok (.cont ρ) st) := PSw ps_continue fun D σ H q => by
  obtain ⟨m, ρ, st, r, o⟩ := q
  exact OutN.here o r.st _ r
theorem gs_if {gc : Rho → Store → R Bool} (hc : GT X W c gc) (h1 : GSs X W body fs) (h2 : GSs X W orelse ft) : GS X W (.If c body orelse pos) (fun ρ st => (gc ρ st).cat ρ fun k st1 => if k then fs ρ st1 else ft ρ st1) := PSw (ps_if hc h1 h2) fun D σ H q => by
  obtain ⟨m, ρ, st, r, o⟩ := q
  refine ⟨m, ρ, st, r, (cat_out r o).imp fun k st1 m1 H1 e1 s1 o1 => ?_⟩
  cases k with
  | true => exact ⟨m1, ρ, st1, r.ext e1 s1, o1⟩
  | false => exact ⟨m1, ρ, st1, r.ext e1 s1, o1⟩
/-- what a loop's body ends with -/
theorem loop_k {D : Ends} {N : L2.St → Hp → Prop} {fl : Fl} {st : Store} {m : Mp} {H : Hp} {go : Rho → Store → R Fl} (s : StRel X.K H m st) (hN : ∀ ρ1 σ', Rel X.K H m σ' ρ1 st → OutN (gx X) m H (go ρ1 st) (FlK (gx X) W D) → N σ' H)
    (o : OutN (gx X) m H (match fl with
      | .next ρ1 => go ρ1 st
      | .cont ρ1 => go ρ1 st
      | .brk ρ1 => .ok (.next ρ1) st
      | .ret v => .ok (.ret v) st
      | .exc e ρ1 => .ok (.exc e ρ1) st) (FlK (gx X) W D)) : FlK (gx X) W { D with nx := N, ct := N, bk := D.nx } fl st m H := by
  cases fl with
  | next ρ1 => exact fun σ' r => hN ρ1 σ' r o
  | cont ρ1 => exact fun σ' r => hN ρ1 σ' r o
  | brk ρ1 => exact OutN.here o s
  | ret v => exact OutN.here o s
  | exc e ρ1 => exact OutN.here o s
theorem gs_while {gc : Rho → Store → R Bool} (hp : PassesOwn (model X.prog X.w) X.A X.env X.xe) (hc : GT X W c gc) (hb : GSs X W body fs) : GS X W (.While c body [] pos) (fun ρ st => whL gc fs fuelW ρ st) := PSw (ps_while hp hc hb) fun D σ H q => by
  obtain ⟨m, ρ, st, r, o⟩ := q
  refine ⟨fun n σ H => ∃ m ρ st, Rel X.K H m σ ρ st ∧ OutN (gx X) m H (whL gc fs n ρ st) (FlK (gx X) W D), ⟨_, m, ρ, st, r, o⟩, ?_⟩
  rintro n σ H ⟨m, ρ, st, r, o⟩
  cases n with
  | zero => exact o.elim
  | succ n =>
    refine ⟨m, ρ, st, r, (cat_out r o).imp fun k st1 m1 H1 e1 s1 o1 => ?_⟩
    have r1 := r.ext e1 s1
    cases k with
    | false => exact OutN.here o1 s1 _ r1
    | true =>
      refine ⟨fun σ' H' => ∃ m ρ st, Rel X.K H' m σ' ρ st ∧ OutN (gx X) m H' (whL gc fs n ρ st) (FlK (gx X) W D), fun σ' H' h => ⟨n, Nat.lt_succ_self n, h⟩, ?_⟩
      refine ⟨m1, ρ, st1, r1, (noX_out o1).imp fun fl st2 m2 H2 e2 s2 o2 => ?_⟩
      exact loop_k (go := whL gc fs n) s2 (fun ρ1 σ' r2 o3 => ⟨m2, ρ1, st2, r2, o3⟩) o2
theorem gs_for {fi : Rho → Store → R Items} {sl : List Nat} {fg : Val → Rho → Store → R Rho} (C : Cok X) (hp : PassesOwn (model X.prog X.w) X.A X.env X.xe) (hpl : pln iter = true) (hi : GIt X W tg iter fi) (hg : PG X tg (DG (gx X) sl fg)) (hb : GSs X W body fs) :
    GS X W (.For tg iter body [] pos) (fun ρ st => (fi ρ st).cat ρ fun p st1 => forL (fun x ρ1 st2 => (fg x ρ1 st2).noExc.bind fun ρ2 st3 => fs ρ2 st3) p.2 p.1 ρ st1) := PSw (ps_for hp C.calm hi hg hb fun x => set_ok hpl _ x) fun D σ H q => by
  obtain ⟨m, ρ, st, r, o⟩ := q
  refine ⟨m, ρ, st, r, (cat_out r o).imp fun p st1 m1 H1 e1 s1 o1 _ J hJ => ?_⟩
  have r1 := r.ext e1 s1
  let go : List Val → Rho → Store → R Fl := forL (fun x ρ1 st2 => (fg x ρ1 st2).noExc.bind fun ρ2 st3 => fs ρ2 st3) p.2
  let Pv : Nat → L2.St → Hp → Prop := fun i σ H => ∃ m2 ρ2 st2, Ext m1 H1 m2 H ∧ Rel X.K H m2 σ ρ2 st2 ∧ OutN (gx X) m2 H (go (p.1.drop i) ρ2 st2) (FlK (gx X) W D)
  refine ⟨fun i k σ H => k = p.1.length - i ∧ i ≤ p.1.length ∧ Pv i σ H, ⟨p.1.length, by simp, Nat.zero_le _, m1, ρ, st1, .refl, r1, by rw [List.drop_zero]; exact o1⟩, ?_⟩
  rintro i k σ2 H2 ⟨rfl, hi', m2, ρ2, st2, e2, r2, o2⟩
  by_cases hlt : i < p.1.length
  · rw [List.drop_eq_getElem_cons hlt] at o2
    have gd : p.2.ok st2 := by
      by_cases h : p.2.ok st2
      · exact h
      · have o2 : OutN (gx X) m2 H2 (if p.2.ok st2 then _ else .no) _ := o2
        rw [if_neg h] at o2; exact o2.elim
    have o3 : OutN (gx X) m2 H2 (((fg p.1[i] ρ2 st2).noExc.bind fun ρ2 st3 => fs ρ2 st3).noX.bind fun fl st1 => match fl with
      | .next ρ1 => go (p.1.drop (i + 1)) ρ1 st1
      | .cont ρ1 => go (p.1.drop (i + 1)) ρ1 st1
      | .brk ρ1 => .ok (.next ρ1) st1
      | .ret v => .ok (.ret v) st1
      | .exc e ρ1 => .ok (.exc e ρ1) st1) (FlK (gx X) W D) := by
      have o2 : OutN (gx X) m2 H2 (if p.2.ok st2 then _ else .no) _ := o2
      rw [if_pos gd] at o2; exact o2
    refine .inr ⟨hJ.go i m2 H2 st2 e2.later r2.st gd hlt, Pv (i + 1), fun σ' H' h' => ⟨p.1.length - (i + 1), by omega, rfl, hlt, h'⟩, fun x H' y => ?_⟩
    have hv : p.1[i]? = some p.1[i] := by simp [hlt]
    obtain ⟨le, rx⟩ := hJ.yld i m2 H2 st2 x H' p.1[i] e2.later r2.st gd hv y
    have el := ext_of_le (m := m2) le
    refine ⟨m2, ρ2, st2, p.1[i], r2.le le, rx, ?_⟩
    have o4 := OutN.from el o3
    cases ef : fg p.1[i] ρ2 st2 with
    | no => rw [ef] at o4; exact o4.elim
    | exc z s => rw [ef] at o4; exact o4.elim
    | ok ρ3 st3 =>
      rw [ef] at o4
      intro m3 H3 e3 s3 σ3 r3 _
      refine ⟨m3, ρ3, st3, r3, (noX_out (OutN.from e3 o4)).imp fun fl st4 m4 H4 e4 s4 o5 => ?_⟩
      exact loop_k (go := go (p.1.drop (i + 1))) s4 (fun ρ1 σ' r4 o6 => ⟨m4, ρ1, st4, ((e2.trans el).trans e3).trans e4, r4, o6⟩) o5
  · obtain rfl : i = p.1.length := by omega
    rw [List.drop_length] at o2
    by_cases h : p.2.ok st2
    · have o2 : OutN (gx X) m2 H2 (if p.2.ok st2 then .ok (.next ρ2) st2 else .no) (FlK (gx X) W D) := o2
      rw [if_pos h] at o2
      exact .inl ⟨hJ.stop m2 H2 st2 e2.later r2.st h, OutN.here o2 r2.st _ r2⟩
    · have o2 : OutN (gx X) m2 H2 (if p.2.ok st2 then .ok (.next ρ2) st2 else .no) (FlK (gx X) W D) := o2
      rw [if_neg h] at o2; exact o2.elim
theorem gs_aug {i : Nat} {x : Str} {pos' : Pos} {op : Operator} {f : Int → Int → Int} {o2 : Op2} (C : Cok X) (hi : X.N[i]? = some x) (hx : Loc X.env.scope x) (hf : X.fn x = true ∨ X.env.scope.names.lookup x = some .local) (h : GE X W a fa)
    (ho : PIp X op (ipI f)) (h2 : ∀ p q st, o2 (.d (.int p)) (.d (.int q)) st = some (.d (.int (f p q)), st)) :
    GS X W (.AugAssign (.Name x pos') op a pos) (fun ρ st => match ρ[i]? with
    | some (some v) => (fa ρ st).cat ρ fun u st1 => match v, u with
      | .d (.int _), .d (.int _) => (R.ofO (o2 v u st1)).cat ρ fun z st2 => .ok (.next (ρ.set i (some z))) st2
      | _, _ => .no
    | _ => .no) := PSw (ps_aug C.nd hi hx h ho hf) fun D σ H q => by
  obtain ⟨m, ρ, st, r, o⟩ := q
  dsimp only at o
  split at o
  · rename_i v hv
    obtain ⟨xv, q1, q2⟩ := r.env i v hv
    refine ⟨xv, q1, m, ρ, st, r, (cat_out r o).imp fun u st1 m1 H1 e1 s1 o1 y ry => ?_⟩
    split at o1
    · rename_i p q
      obtain rfl := inv_int q2
      obtain rfl := inv_int ry
      rw [h2] at o1
      exact ⟨p, q, rfl, rfl, OutN.here o1 s1 _ ((r.ext e1 s1).set (.d (.int _)))⟩
    · exact o1.elim
  · exact o.elim
end
end G
set_option Elab.async false
set_option linter.all false
set_option maxRecDepth 100000
/-! GM: defs and calls -/
namespace G
open PySem PySem.Spec PyProof.Rows L2
/-- a def's contract where no guard stands around -/
structure GFn (P : Program) (w : World) (K : PySem.W.Frag) (mg : Str → Option Value) (base : Heap) (k : Nat) (f : Addr) (fd : FuncData) (ps : List Str) (sp : Sp) : Prop where
  len : ∀ vs H Q E, sp vs H Q E → vs.length = ps.length
  run : ∀ (A : Around) (outer : List Env) (s : Shared) (H : Hp) (args : Args) (us : List Value) (vs : List V) (Q : VK) (E : XK), Room k A → A.guards = some [] → Env0 P w K mg base A outer s H → BindsTo s fd args (ps.zip us) → Vals vs us →
    sp vs H Q E → codeAny (model P w) A (.call (.ref f) args) (CR (L2.CX P w) outer P w H s Q E) s
def spG (g : Gx) (np : Nat) (F : List Val → Store → R Val) : Sp := fun vs H Q E => vs.length = np ∧ ∃ m st xs, StRel g.K H m st ∧ Reps g.K H m vs xs ∧ Out g (fun cls dd _ H' => E cls dd H') m H [] (F xs st) fun v _ m' H' => ∀ x, Rep g.K H' m' x v → Q x H'
/-! ### leaving -/
theorem take_at {α : Type} {l : List α} {n i : Nat} {x : α} (h : (l.take n)[i]? = some x) : i < n ∧ l[i]? = some x := by
  rw [List.getElem?_take] at h
  split at h
  · exact ⟨by assumption, h⟩
  · cases h
section
variable {K : PySem.W.Frag} {H H' : Hp} {m m' : Mp} {st st1 st2 : Store} {n : Nat}
def Mp.cut (m : Mp) (n : Nat) : Mp := ⟨m.ls.take n, m.P⟩
theorem cut_in {a : Addr} (h : (m.cut n).In a) : m.In a := by
  obtain ⟨i, hi⟩ := List.mem_iff_getElem?.mp h
  exact List.mem_iff_getElem?.mpr ⟨i, (take_at hi).2⟩
theorem cut_stay : Stay H m H (m.cut n) := fun a o h f => ⟨h, fun z => f.1 (cut_in z), f.2⟩
theorem cut_rep {v : V} {x : Val} (h : Rep K H m v x) (hv : valOk n x = true) (hn : n ≤ m.ls.length) : Rep K H (m.cut n) v x := by
  cases h with
  | d h => exact .d (h.stay cut_stay)
  | scr h => exact .scr (h.imp (fun ⟨o, h1, h2⟩ => ⟨o, cut_stay _ _ h1 h2⟩) id)
  | loc hk h =>
    have hv : decide (_ < n) = true := hv
    have hv := of_decide_eq_true hv
    refine .loc (by show _ < (m.ls.take n).length; rw [List.length_take]; omega) fun a q => h a ?_
    exact (take_at q).2
theorem rep_val {v : V} {x : Val} (h : Rep K H m v x) (hn : m.ls.length = n) : valOk n x = true := by
  cases h with
  | d _ => rfl
  | scr _ => rfl
  | loc hk _ => exact decide_eq_true (by omega)
theorem reps_val {v : List V} {xs : List Val} (h : Reps K H m v xs) (hn : m.ls.length = n) : xs.all (valOk n) = true := by
  induction h with
  | nil => rfl
  | cons r _ ih =>
    rw [List.all_cons, ih, Bool.and_true]
    exact rep_val r hn
theorem repE_val {v : List (Key × V)} {xs : List (PyData × Val)} (h : RepE K H m v xs) (hn : m.ls.length = n) : (xs.all fun p => valOk n p.2) = true := by
  unfold RepE at h
  induction h with
  | nil => rfl
  | cons r _ ih =>
    rw [List.all_cons, ih, Bool.and_true]
    exact rep_val r.2 hn
theorem cell_val {a : Addr} {c : Cell} (h : CellRel K H m a c) (hn : m.ls.length = n) : cellOk n c = true := by
  cases c with
  | lst xs => obtain ⟨vs, _, r⟩ := h; exact reps_val r hn
  | dct xs => obtain ⟨vs, _, r⟩ := h; exact repE_val r hn
  | dead => rfl
theorem reps_cut {v : List V} {xs : List Val} (h : Reps K H m v xs) (ho : xs.all (valOk n) = true) (hn : n ≤ m.ls.length) : Reps K H (m.cut n) v xs := by
  induction h with
  | nil => exact .nil
  | cons r _ ih =>
    rw [List.all_cons, Bool.and_eq_true] at ho
    exact .cons (cut_rep r ho.1 hn) (ih ho.2)
theorem repE_cut {v : List (Key × V)} {xs : List (PyData × Val)} (h : RepE K H m v xs) (ho : (xs.all fun p => valOk n p.2) = true) (hn : n ≤ m.ls.length) : RepE K H (m.cut n) v xs := by
  unfold RepE at h ⊢
  induction h with
  | nil => exact .nil
  | cons r _ ih =>
    rw [List.all_cons, Bool.and_eq_true] at ho
    exact .cons ⟨r.1, cut_rep r.2 ho.1 hn⟩ (ih ho.2)
theorem leave_ok {keep ok : Bool} (e : Ext m H m' H') (s : StRel K H m st) (s1 : StRel K H' m' st1) (h : leaveS keep st ok st1 = some st2) :
    ∃ m2, Ext m H m2 H' ∧ StRel K H' m2 st2 ∧ Stay H' m' H' m2 ∧ ∀ v x, Rep K H' m' v x → (ok = true → valOk st.length x = true) → Rep K H' m2 v x := by
  unfold leaveS at h
  split at h
  · cases h
    exact ⟨m', e, s1, fun _ _ h f => ⟨h, f⟩, fun _ _ r _ => r⟩
  · split at h
    · rename_i hc
      cases h
      obtain ⟨rfl, hc⟩ := hc
      have hn : st.length ≤ m'.ls.length := by rw [← s.len]; exact e.len
      have hok : ∀ (i : Nat) a c, (m'.cut st.length).ls[i]? = some (some a) → (st1.take st.length)[i]? = some c → cellOk st.length c = true := fun i a c h1 h2 => by
        rcases hc with hc | hc
        · rw [hc] at h2
          have hi : i < st.length := (take_at h1).1
          rcases e.at_ i (by rw [s.len]; exact hi) with q | q
          · exact cell_val (s.cell i a c (q ▸ (take_at h1).2) h2) s.len
          · rw [(take_at h1).2] at q; cases q
        · exact List.all_eq_true.mp hc c (List.mem_of_getElem? h2)
      refine ⟨m'.cut st.length, ?_, ?_, cut_stay, fun v x r hx => cut_rep r (hx rfl) hn⟩
      · refine ⟨?_, fun k hk => ?_, e.P, e.keep, fun a h n => e.new a (cut_in h) n⟩
        · show m.ls.length ≤ (m'.ls.take st.length).length
          rw [List.length_take, s.len]; omega
        · have hk' : k < st.length := by rw [← s.len]; exact hk
          show (m'.ls.take st.length)[k]? = _ ∨ (m'.ls.take st.length)[k]? = _
          rw [List.getElem?_take, if_pos hk']
          exact e.at_ k hk
      · refine ⟨?_, fun i j a h1 h2 => s1.inj i j a (take_at h1).2 (take_at h2).2, fun k h => ?_, fun a h => s1.np a (cut_in h), fun a h => s1.live a (cut_in h), s1.trk, fun i a c h1 h2 => ?_⟩
        · show (m'.ls.take st.length).length = (st1.take st.length).length
          rw [List.length_take, List.length_take, s1.len]
        · obtain ⟨h1, h2⟩ := take_at h
          rw [List.getElem?_take, if_pos h1]
          exact s1.dead k h2
        · have ho := hok i a c h1 h2
          have cr := s1.cell i a c (take_at h1).2 (take_at h2).2
          cases c with
          | lst xs => obtain ⟨vs, q1, q2⟩ := cr; exact ⟨vs, q1, reps_cut q2 ho hn⟩
          | dct xs => obtain ⟨vs, q1, q2⟩ := cr; exact ⟨vs, q1, repE_cut q2 ho hn⟩
          | dead => trivial
    · cases h
theorem repF_cut {m2 : Mp} {b : Bool} (f : ∀ v x, Rep K H' m' v x → (b = true → valOk n x = true) → Rep K H' m2 v x) : ∀ {fs : List (Str × V)} {xs : List (Str × Val)}, RepF K H' m' fs xs → (b = true → (xs.all fun p => valOk n p.2) = true) → RepF K H' m2 fs xs
  | _, _, .nil, _ => .nil
  | _, _, .cons r rr, h => .cons ⟨r.1, f _ _ r.2 fun hb => by
      have := h hb
      rw [List.all_cons, Bool.and_eq_true] at this
      exact this.1⟩ (repF_cut f rr fun hb => by
      have := h hb
      rw [List.all_cons, Bool.and_eq_true] at this
      exact this.2)
end
section
variable {P : Program} {w : World} {K : PySem.W.Frag} {mg : Str → Option Value} {base : Heap}
theorem start_rel {H : Hp} {m : Mp} {st : Store} {N : List Str} {vs : List V} {xs : List Val} (s : StRel K H m st) (r : Reps K H m vs xs) : Rel K H m (L2.start N vs) (startR N.length xs) st where
  len := by unfold L2.start startR; simp [Paired.length r]
  env := fun i x e => by
    unfold startR at e
    unfold L2.start
    by_cases hi : i < xs.length
    · rw [List.getElem?_append_left (by simpa using hi), List.getElem?_map] at e
      obtain ⟨y, hy⟩ : ∃ y, xs[i]? = some y := ⟨xs[i], by simp [hi]⟩
      rw [hy] at e
      cases e
      obtain ⟨v, h1, h2⟩ := paired_get r hy
      exact ⟨v, by rw [List.getElem?_append_left (by rw [List.length_map, Paired.length r]; exact hi), List.getElem?_map, h1]; rfl, h2⟩
    · rw [List.getElem?_append_right (by simpa using hi), List.getElem?_replicate] at e
      split at e <;> cases e
  st := s
/-- the context of a def's body, by what it is -/
structure Body (P : Program) (w : World) (K : PySem.W.Frag) (mg : Str → Option Value) (base : Heap) (N : List Str) (sc : Scope) (k : Nat) (X : Cx) (W : WX) : Prop where
  prog : X.prog = P
  w : X.w = w
  K : X.K = K
  mg : X.mg = mg
  base : X.base = base
  N : X.N = N
  sc : X.env.scope = sc
  fn : ∀ x, X.fn x = true
  calm : X.calm = true
  room : Room k X.A
  gd : X.A.guards = some []
  tk : Takes X W
  po : PassesOwn (model X.prog X.w) X.A X.env X.xe
theorem gfn_of {x qual : Str} {stm : Stmt} {f : Addr} {fd : FuncData} {N ps : List Str} {k : Nat} {Nv : Env'} {fn : Fn} (F : Fun K x qual stm f fd) (S : FnScope N ps (defScope stm)) (hnp : fn.np = ps.length) (hns : fn.ns = N.length)
    (hb : ∀ X W, Body P w K mg base N (defScope stm) k X W → GSs X W (defBody stm) (exs Nv fn.body)) : GFn P w K mg base (k + 1) f fd ps (spG ⟨K, mg⟩ ps.length (runFn Nv fn)) := by
  obtain ⟨oc, od, kV, doc, pm, an, cdv, ct, osl, rfl, lk, hcd⟩ := F.ex
  refine ⟨fun _ _ _ _ h => h.1, fun A outer s H args us vs Q E hr hg e0 hbd r hsp => ?_⟩
  obtain ⟨hl, m, st, xs, hS, hR, hO⟩ := hsp
  have KX : K.In s.heap := e0.mod.kin.keeps fun b o e => (e0.bs b o e).1
  have lim : s.heap.NoLimit := e0.mod.nolimit.keeps fun b o e => (e0.bs b o e).1
  have kinds : ∀ y ∈ ps.zip us, (defScope stm).names.lookup y.1 = some .local ∨ ((defScope stm).names.lookup y.1 = some .cell ∧ ((cellsFrom (s.heap.objs.size + 1) (defScope stm).names []).lookup y.1).isSome = true) := fun ⟨n, v⟩ hy =>
    (S.par n (List.of_mem_zip hy).1).imp id fun q => ⟨q, PySem.W.cellsFrom_some _ _ _ (.inl q)⟩
  refine codeAny_call_function hr.depth (KX _ _ lk) rfl S.co S.gen rfl (PySem.W.codeRec_of KX hcd) (hbd _ _ _ _ ?_)
  refine wpAny_newFunctionEnv_cells S.kind kinds fun env he s1 hx => ?_
  subst he
  refine ⟨lim.keeps hx.toInCall.keep, codeAny_func ?_⟩
  have I := inv_start (CX := L2.CX P w) (P := P) (w := w) (K := K) (mg := mg) (base := base) (E := E) S hr.hd e0 hl r hx
  have B : Body P w K mg base N (defScope stm) k (cxOf (L2.CX P w) P w K mg base N qual (defScope stm) f cdv A outer s H E) (fun cls d _ H => E cls d H) :=
    ⟨rfl, rfl, rfl, rfl, rfl, rfl, rfl, fun _ => rfl, rfl, hr.deeper _, hg, takes_of rfl rfl rfl rfl, passes_of rfl⟩
  have hbody := hb _ _ B
  have hq : DS ⟨K, mg⟩ (fun cls d _ H => E cls d H) (exs Nv fn.body) { nx := fun _ H' => Q .non H', rt := Q } (L2.start N vs) H := by
    refine ⟨m, startR N.length xs, st, start_rel hS hR, ?_⟩
    unfold runFn at hO
    have hlx : xs.length = fn.np := by rw [← Paired.length hR, hl, hnp]
    rw [if_pos hlx, hns] at hO
    cases ex : exs Nv fn.body (startR N.length xs) st with
    | no => rw [ex] at hO; exact hO.elim
    | exc z s => rw [ex] at hO; exact hO.elim
    | ok fl st1 =>
      rw [ex] at hO
      intro m' H' e' s'
      cases fl with
      | next ρ =>
        have hO : Out (⟨K, mg⟩ : Gx) (fun cls dd _ H' => E cls dd H') m H [] (match leaveS fn.keep st true st1 with | some st2 => R.ok (Val.d .none) st2 | none => .no) (fun v _ m' H' => ∀ x, Rep K H' m' x v → Q x H') := hO
        cases hl : leaveS fn.keep st true st1 with
        | none => rw [hl] at hO; exact hO.elim
        | some st2 =>
          rw [hl] at hO
          obtain ⟨m2, h1, h2, _, _⟩ := leave_ok e' hS s' hl
          exact fun σ' _ => hO m2 H' h1 h2 _ (.d .non)
      | ret v =>
        have hO : Out (⟨K, mg⟩ : Gx) (fun cls dd _ H' => E cls dd H') m H [] (match leaveS fn.keep st (valOk st.length v) st1 with | some st2 => R.ok v st2 | none => .no) (fun v _ m' H' => ∀ x, Rep K H' m' x v → Q x H') := hO
        cases hl : leaveS fn.keep st (valOk st.length v) st1 with
        | none => rw [hl] at hO; exact hO.elim
        | some st2 =>
          rw [hl] at hO
          obtain ⟨m2, h1, h2, _, h3⟩ := leave_ok e' hS s' hl
          exact fun x rx => hO m2 H' h1 h2 _ (h3 _ _ rx id)
      | brk ρ => exact hO.elim
      | cont ρ => exact hO.elim
      | exc e ρ =>
        have hO : Out (⟨K, mg⟩ : Gx) (fun cls dd _ H' => E cls dd H') m H [] (match leaveS fn.keep st (e.flds.all fun p => valOk st.length p.2) st1 with | some st2 => (.exc e st2 : R Val) | none => .no) (fun v _ m' H' => ∀ x, Rep K H' m' x v → Q x H') := hO
        cases hl : leaveS fn.keep st (e.flds.all fun p => valOk st.length p.2) st1 with
        | none => rw [hl] at hO; exact hO.elim
        | some st2 =>
          rw [hl] at hO
          obtain ⟨m2, h1, h2, hst, h3⟩ := leave_ok e' hS s' hl
          refine fun σ' cls dd _ er => hO m2 H' cls dd h1 h2 ?_
          obtain ⟨C, q1, q2, q3⟩ := er
          refine ⟨C, q1, q2, q3.imp id ?_⟩
          rintro ⟨d, fs, e1, e2, e3, e4⟩
          exact ⟨d, fs, e1, e2, (hst _ _ e2 e3).2, repF_cut h3 e4 id⟩
  refine wpAny_mono (hbody.run [] s1 (L2.start N vs) H _ I hq) (fun fl s' hs => ?_) fun e s' hs => hs
  have fin : ∀ {σ' : L2.St} {H' : Hp} {v : V} {u : Value}, Inv (cxOf (L2.CX P w) P w K mg base N qual (defScope stm) f cdv A outer s H E) [] σ' H' s' → RelV v u → Q v H' → CE outer P w H s Q u s' :=
    fun {σ' H' v u} J rv q => ⟨v, H', J.os, J.bare, J.base, J.hok, rv, q⟩
  cases fl with
  | ret u => obtain ⟨v, σ', H', J, rv, q⟩ := hs; exact fin J rv q
  | next => obtain ⟨σ', H', J, q⟩ := hs; exact fin (v := V.non) (u := Value.none) J rfl q
  | brk => obtain ⟨_, _, _, q⟩ := hs; exact q.elim
  | cont => obtain ⟨_, _, _, q⟩ := hs; exact q.elim
end
/-! ### calls -/
section
variable {X : Cx} {W : WX} {k : Nat} {f : Addr} {fd : FuncData} {ps : List Str} {Fm : List Val → Store → R Val} {x : Str} {p pos : Pos} {e : Expr} {es : List Expr} {fs : Rho → Store → R (List Val)}
theorem run_gfn {sp : Sp} {E : XK} {pins : List (Addr × Obj)} {σ : L2.St} {H : Hp} {s : Shared} {Q : VK} {us : List Value} {vs : List V} (F : GFn X.prog X.w X.K X.mg X.base k f fd ps sp) (hr : Room k X.A) (hg : X.A.guards = some []) (hb : Binds X.K fd ps []) (hx : PassesAt (L2.CX X.prog X.w) X σ E)
    (I : Inv X pins σ H s) (r : Vals vs us) (h : sp vs H Q E) : wpAny (model X.prog X.w) X.A (call (.ref f) us) (EP X pins σ Q) X.xe s := by
  have hl : us.length = ps.length := (r.length.symm).trans (F.len _ _ _ _ h)
  have b := hb s us I.kIn (by rw [List.append_nil]; exact hl)
  rw [List.append_nil] at b
  refine wpAny_call (codeAny_mono (F.run X.A X.stack s H ⟨us, []⟩ us vs Q E hr hg I.env0 b r h) fun r s' hq => ?_)
  cases r with
  | error e => exact hx pins H s e s' I hq
  | ok fl => cases fl with
    | ret u => exact I.after hq
    | next => exact hq.elim
    | brk => exact hq.elim
    | cont => exact hq.elim
theorem sp_of {σ : L2.St} {m : Mp} {H : Hp} {st : Store} {vs : List V} {xs : List Val} {Q : VK} (s : StRel X.K H m st) (r : Reps X.K H m vs xs) (hl : ∀ vs st, Fm vs st = .no ∨ vs.length = ps.length) (o : Out (gx X) W m H σ (Fm xs st) fun x _ m' H' => ∀ v, Rep X.K H' m' v x → Q v H') :
    spG (gx X) ps.length Fm vs H Q (WE W σ) := by
  refine ⟨?_, m, st, xs, s, r, ?_⟩
  · rcases hl xs st with h | h
    · rw [h] at o; exact o.elim
    · rw [Paired.length r]; exact h
  · cases e : Fm xs st with
    | no => rw [e] at o; exact o
    | exc z s => rw [e] at o; exact o
    | ok z s => rw [e] at o; exact o
theorem ge_call (C : Cok X) (tk : Takes X W) (F : GFn X.prog X.w X.K X.mg X.base k f fd ps (spG (gx X) ps.length Fm)) (hl : ∀ vs st, Fm vs st = .no ∨ vs.length = ps.length) (hr : Room k X.A) (hg : Gl X x) (hm : X.mg x = some (.ref f)) (hk : PySem.W.keepIn X.K (.ref f) = true) (hb : Binds X.K fd ps [])
    (hdb : (x == ("__debug__" : Str)) = false) (hp : ∀ y ∈ e :: es, pln y = true) (ha : GAs X W (e :: es) fs) : GE X W (.Call (.Name x p) (e :: es) [] pos) (fun ρ st => (fs ρ st).bind fun vs st1 => Fm vs st1) := by
  refine ⟨fun pins s σ H Q I q => ?_⟩
  obtain ⟨m, ρ, st, r, o⟩ := q
  refine wpAny_Call_Name_kw (ld_glob I hg hm ?_ hdb)
  refine PySem.W.callWith_K (h₀ := X.base) I.ok.mod.kin hk (thn (ha.run pos pins s σ H (fun vs H1 => spG (gx X) ps.length Fm vs H1 Q (WE W σ)) I ⟨m, ρ, st, r, (Out.bind o).imp fun xs st1 m1 H1 e1 s1 o1 vs rs => sp_of s1 rs hl o1⟩) fun us s1 ⟨vs, H1, I1, rv, q⟩ => ⟨I1.kIn, ?_⟩) (star_pln (hp e List.mem_cons_self) _ _) (plain_back fun y hy => hp y (List.mem_cons_of_mem _ hy))
  exact run_gfn F hr C.gd hb (passAt tk σ) I1 rv q
theorem ge_call0 (C : Cok X) (tk : Takes X W) (F : GFn X.prog X.w X.K X.mg X.base k f fd ps (spG (gx X) ps.length Fm)) (hl : ∀ vs st, Fm vs st = .no ∨ vs.length = ps.length) (hr : Room k X.A) (hg : Gl X x) (hm : X.mg x = some (.ref f)) (hk : PySem.W.keepIn X.K (.ref f) = true) (hb : Binds X.K fd ps [])
    (hdb : (x == ("__debug__" : Str)) = false) : GE X W (.Call (.Name x p) [] [] pos) (fun ρ st => (R.ok ([] : List Val) st).bind fun vs st1 => Fm vs st1) := by
  refine ⟨fun pins s σ H Q I q => ?_⟩
  obtain ⟨m, ρ, st, r, o⟩ := q
  refine wpAny_Call_Name_kw (ld_glob I hg hm (PySem.W.callWith_K0 I.kIn hk ?_) hdb)
  exact run_gfn F hr C.gd hb (passAt tk σ) I .nil (sp_of r.st .nil hl o)
end
end G
set_option Elab.async false
set_option linter.all false
set_option maxRecDepth 100000
/-! GV: a tuple backwards -/
namespace G
open PySem PySem.Spec PyProof.Rows L2 PySem.Calls
section
variable {prog : Program} {w : World} {A : Around} {E : Value → Shared → Prop} {s : Shared}
theorem back_applied {sl : Addr} {vu : Value} {n : Nat} {Q : Int × Int × Nat → Shared → Prop} (hs : s.heap.IsSliceOf sl .none .none vu) (pu : IsPart vu (some (-1))) (q : Q ((n : Int) - 1, -1, n) s) :
    wpAny (model prog w) A (Builtin.Slice.sliceApplied (.ref sl) (pure (n : Int))) Q E s := by
  obtain ⟨ob, g1, _, g2⟩ := hs
  cases pu with
  | int _ t =>
  unfold Builtin.Slice.sliceApplied Builtin.Slice.sliceFields
  refine wpAny_bind (wpAny_bind (wpAny_field g1 g2 (x := .none) rfl (wpAny_bind (wpAny_field g1 g2 (x := .none) rfl (wpAny_bind (wpAny_field g1 g2 (x := .int (-1) t) rfl (wpAny_pure ?_)))))))
  refine wpAny_bind (slicePart_int ?_)
  show wpAny _ _ (if ((-1 : Int) == 0) = true then _ else _) _ _ s
  rw [if_neg (show ¬ ((-1 : Int) == 0) = true by decide)]
  refine wpAny_bind (slicePart_none (wpAny_bind (slicePart_none (wpAny_bind (wpAny_pure ?_)))))
  show wpAny _ _ (pure ((n : Int) - 1, (-1 : Int), Builtin.Slice.slicePlaces ((n : Int) - 1) (-1) (-1))) _ _ s
  have e : Builtin.Slice.slicePlaces ((n : Int) - 1) (-1) (-1) = n := by
    unfold Builtin.Slice.slicePlaces
    simp only [show ¬ ((-1 : Int) > 0) by decide, if_false]
    split
    · rw [show (-(-1) : Int) = 1 by decide, Int.ediv_one]; omega
    · omega
  rw [e]
  exact wpAny_pure q
theorem back_pick (xs : Array Value) : ((List.range xs.size).filterMap fun (k : Nat) => xs[((xs.size : Int) - 1 + (k : Int) * (-1)).toNat]?) = xs.toList.reverse := by
  have e : ((List.range xs.size).filterMap fun (k : Nat) => xs[((xs.size : Int) - 1 + (k : Int) * (-1)).toNat]?) = (List.range xs.size).filterMap fun k => xs[xs.size - 1 - k]? := by
    have key : ∀ l : List Nat, (∀ k ∈ l, k < xs.size) → (l.filterMap fun (k : Nat) => xs[((xs.size : Int) - 1 + (k : Int) * (-1)).toNat]?) = l.filterMap fun k => xs[xs.size - 1 - k]? := fun l hl => by
      induction l with
      | nil => rfl
      | cons k l ih =>
        have hk := hl k List.mem_cons_self
        have e1 : ((xs.size : Int) - 1 + (k : Int) * (-1)).toNat = xs.size - 1 - k := by omega
        rw [List.filterMap_cons, List.filterMap_cons, e1, ih fun j hj => hl j (List.mem_cons_of_mem _ hj)]
    exact key _ fun k hk => List.mem_range.mp hk
  rw [e]
  have h := PySem.W.krv_range xs.size
  have h2 := PySem.W.krv_all xs
  rw [show (fun k => xs[xs.size - 1 - k]?) = (xs[·]?) ∘ (fun k => xs.size - 1 - k) from rfl, ← List.filterMap_map, h, List.filterMap_reverse, h2]
theorem getItem_tuple_back {t sl : Addr} {xs : Array Value} {vu : Value} {Q : Value → Shared → Prop} (ht : IsTup s.heap t xs) (hs : s.heap.IsSliceOf sl .none .none vu) (pu : IsPart vu (some (-1))) (hz : xs.size ≤ sizeLine)
    (q : Q (.ref s.heap.objs.size) { s with heap := s.heap.push { cls := .type "tuple", data := .seq xs.toList.reverse.toArray } }) : wpAny (model prog w) A (getItem (.ref t) (.ref sl)) Q E s := by
  have fits : sizeOk (.seq xs.toList.reverse.toArray) := by
    show xs.toList.reverse.toArray.size ≤ sizeLine
    simpa using hz
  obtain ⟨ob, g1, g2, _⟩ := id hs
  have kind : s.TypeIs (.ref sl) "slice" := ⟨ob, g1, g2⟩
  unfold getItem
  try with_reducible refine wpAny_holding ?_
  first | refine wpAny_bind (wpAny_pure ?_) | skip
  refine wpAny_bind (wpAny_sequenceKey ht.typeIs (by decide) ?_)
  refine wpAny_bind (wpAny_callSpecial?_slot (name := Str.ofString "__getitem__") ht.typeIs PyProof.Rows.slot_tuple_getitem (wpAny_call_entry PyProof.Rows.slot_tuple_getitem ht.typeIs entry_tuple_getitem ?_ (args_tuple_getitem _ _)))
  show wpAny _ _ (Builtin.Tuple.tupleItemsOf (.ref t) >>= _) _ _ s
  refine wpAny_bind (tupleItemsOf_ ht (wpAny_bind (wpAny_typeOf kind ?_)))
  rw [if_pos (show (Value.type "slice" == Value.type "slice") = true by decide)]
  refine wpAny_bind (back_applied hs pu ?_)
  show wpAny _ _ (if ((((xs.size : Int) - 1) == 0 && (-1 : Int) == 1 && xs.size == xs.size)) = true then _ else _) _ _ s
  rw [if_neg (by simp), back_pick]
  first
    | exact wpAny_bind (m := Builtin.Tuple.tupleExact _) (wpAny_newObj_type (wpAny_pure ⟨_, rfl, wpAny_pure q⟩) fits)
    | exact wpAny_bind (wpAny_bind (m := Builtin.Tuple.tupleExact _) (wpAny_newObj_type (wpAny_pure ⟨_, rfl, wpAny_pure q⟩) fits))
    | exact wpAny_bind (m := Builtin.Tuple.tupleExact _) (wpAny_newObj_type (wpAny_bind (wpAny_pure (wpAny_pure ⟨_, rfl, wpAny_pure q⟩))) fits)
    | exact wpAny_bind (wpAny_bind (m := Builtin.Tuple.tupleExact _) (wpAny_newObj_type (wpAny_pure (wpAny_pure ⟨_, rfl, wpAny_pure q⟩)) fits))
end
section
variable {X : Cx} {W : WX} {a : Expr} {fa : Rho → Store → R Val}
def tRevT (K : PySem.W.Frag) (te : TE) : TE := fun σ H Q => te σ H fun x H1 => ∃ a xs, x = .ref a ∧ SqT K H1 a xs ∧ ∀ p, H1 p = none → Q (.ref p) (upd H1 p (.tup xs.reverse))
theorem pe_revT {e : Expr} {te : TE} {k : Nat} {p1 p2 p3 pos : Pos} (he : PE X e te) : PE X (.Subscript e (.Slice none none (some (.UnaryOp .USub (.Constant (.int 1) k p1) p2)) p3) pos) (tRevT X.K te) := by
  refine ⟨fun pins s σ H Q I h => Subscript_ (thn (he.run pins s σ H _ I h) fun v s1 ⟨x, H1, I1, r1, p, xs, ex, hx, q⟩ => ?_)⟩
  subst ex
  cases r1
  have one : PO X (some (.UnaryOp .USub (.Constant (.int 1) k p1) p2)) (tPart (tUn (rU fun i => .int (-i)) (tC (.int 1)))) := po_some (pe_un un_neg pe_int)
  refine wpAny_Slice (thn (po_none.run pins s1 σ H1 (fun o H2 => o = none ∧ H2 = H1) I1 ⟨rfl, rfl⟩) fun vl s2 ⟨l, H2, I2, pl, el, e2⟩ => ?_)
  obtain rfl := el
  obtain rfl := e2
  cases pl
  refine thn (po_none.run pins s2 σ H2 (fun o H3 => o = none ∧ H3 = H2) I2 ⟨rfl, rfl⟩) fun vu s3 ⟨u, H3, I3, pu, eu, e3⟩ => ?_
  obtain rfl := eu
  obtain rfl := e3
  cases pu
  refine thn (one.run pins s3 σ H3 (fun o H4 => o = some (-1) ∧ H4 = H3) I3 ⟨1, rfl, -1, rfl, rfl, rfl⟩) fun vs s4 ⟨o, H4, I4, ps, eo, e4⟩ => ?_
  obtain rfl := eo
  obtain rfl := e4
  have I5 : Inv X pins σ H4 { s4 with heap := s4.heap.push { cls := .type "slice", data := .fields #[.none, .none, vs] } } := I4.kept (t' := s4.toks) fun b ob q => Heap.get?_push_of_some _ q
  obtain ⟨its, r, ht, hz⟩ := I5.tuple hx
  have hl := r.length
  show wpAny (model X.prog X.w) X.A (subscriptTail e (.Slice none none (some (.UnaryOp .USub (.Constant (.int 1) k p1) p2)) p3) (.ref p) (.ref s4.heap.objs.size)) (EP X pins σ Q) X.xe { s4 with heap := s4.heap.push { cls := .type "slice", data := .fields #[.none, .none, vs] } }
  refine tail_any (ops := [.ref p, .ref s4.heap.objs.size]) ht.typeIs (PyProof.Rows.slot_tuple_getitem.lookup) ?_ (by with_unfolding_all rfl)
  refine getItem_tuple_back ht (Heap.IsSliceOf.new _ _ _ _) ps (by rw [List.size_toArray]; omega) ?_
  refine ⟨.ref _, _, I5.laid (t' := s4.toks) (o := .tup xs.reverse) (fun b ob q => Heap.get?_push_of_some _ q) (Nat.le_refl _) ?_, rfl, q _ (I5.hok.fresh (Nat.le_refl _))⟩
  exact ⟨by rw [List.length_reverse]; exact hz, _, r.reverse, IsTup.new _ _⟩
def mRev (fa : Rho → Store → R Val) : Rho → Store → R Val := fun ρ st => (fa ρ st).bind fun x st1 => match x with
    | .d (.tuple xs) => .ok (.d (.tuple xs.reverse)) st1
    | x => match lsDat st1 x with
      | some xs => .ok (.d (.list xs.reverse)) st1
      | none => .no
theorem PE.pick {e : Expr} {t : TE} (h : ∀ σ H Q, t σ H Q → ∃ t', PE X e t' ∧ t' σ H Q) : PE X e t := ⟨fun pins s σ H Q I q => let ⟨_, h1, h2⟩ := h σ H Q q; h1.run pins s σ H Q I h2⟩
theorem ge_rev {k : Nat} {p1 p2 p3 pos : Pos} (ha : GE X W a fa) : GE X W (.Subscript a (.Slice none none (some (.UnaryOp .USub (.Constant (.int 1) k p1) p2)) p3) pos) (mRev fa) := PE.pick fun σ H Q q => by
  obtain ⟨m, ρ, st, r, o⟩ := q
  have o := Out.bind o
  cases e : fa ρ st with
  | no => rw [e] at o; exact o.elim
  | exc x s => rw [e] at o; exact ⟨_, pe_revL ha, m, ρ, st, r, by rw [e]; exact o⟩
  | ok x st1 =>
    rw [e] at o
    have lists : (∀ m' H', Ext m H m' H' → StRel X.K H' m' st1 → ∀ v, Rep X.K H' m' v x → Out (gx X) W m' H' σ (match lsDat st1 x with
      | some xs => .ok (.d (.list xs.reverse)) st1
      | none => .no) fun z _ m' H' => ∀ v, Rep X.K H' m' v z → Q v H') → ∃ t', PE X (.Subscript a (.Slice none none (some (.UnaryOp .USub (.Constant (.int 1) k p1) p2)) p3) pos) t' ∧ t' σ H Q := fun f => by
      refine ⟨_, pe_revL ha, m, ρ, st, r, ?_⟩
      rw [e]
      intro m' H' e' s' v rv
      have q := f m' H' e' s' v rv
      cases hl : lsDat st1 x with
      | none => rw [hl] at q; exact q.elim
      | some ds =>
        rw [hl] at q
        obtain ⟨p, vs, rfl, hH, rd⟩ := rep_lsd s' rv hl
        refine ⟨p, vs, rfl, .inl (.inl hH), fun p2 hp2 => ?_⟩
        exact q _ _ (ext_of_le (le_upd hp2)) (s'.le (le_upd hp2)) _ (rep_new_lst s' hp2 (RepDs.of (paired_rev rd.pair)))
    cases x with
    | d d =>
      cases d with
      | tuple ds =>
        refine ⟨_, pe_revT ha, m, ρ, st, r, ?_⟩
        rw [e]
        intro m' H' e' s' v rv
        obtain ⟨p, vs, rfl, h1, h2⟩ := inv_tup rv
        refine ⟨p, vs, rfl, h1.sq, fun p2 hp2 => ?_⟩
        exact (o m' H' e' s') _ _ (ext_of_le (le_upd hp2)) (s'.le (le_upd hp2)) _ (rep_new_tup s' hp2 (RepDs.of (paired_rev h2.pair)))
      | _ => exact lists fun m' H' e' s' v rv => o m' H' e' s'
    | loc n => exact lists fun m' H' e' s' v rv => o m' H' e' s'
    | scr ns => exact lists fun m' H' e' s' v rv => o m' H' e' s'
end
end G
set_option Elab.async false
set_option linter.all false
set_option maxRecDepth 100000
set_option maxHeartbeats 1000000
/-! GU: two fors, sets' lengths, lists of ranges, sorted, more stores at once -/
namespace G
open PySem PySem.Spec PyProof.Rows L2
section
variable {X : Cx} {W W' : WX} {e : Expr} {s : Stmt}
theorem ge_never : GE X W e (fun _ _ => .no) := ⟨fun pins s σ H Q I q => by
  obtain ⟨m, ρ, st, r, o⟩ := q
  exact o.elim⟩
theorem gt_never : GT X W e (tr' fun _ _ => .no) := ⟨fun pins s σ H Q I q => by
  obtain ⟨m, ρ, st, r, o⟩ := q
  exact o.elim⟩
theorem gs_never : GS X W s (fun _ _ => .no) := ⟨fun pins s σ H D I q => by
  obtain ⟨m, ρ, st, r, o⟩ := q
  exact o.elim⟩
end
/-! ### two fors -/
def mTurn2 (ft : Val → Rho → Store → R Rho) (fc : Rho → Store → R Bool) (fi1 : Rho → Store → R Items) (ft1 : Val → Rho → Store → R Rho) (fc1 : Rho → Store → R Bool) (fe : Rho → Store → R Val) (own1 : List Nat) (ρ : Rho) : Val → Store → R (List Val) :=
  fun x st2 => (ft x ρ st2).bind fun ρ1 st3 => (fc ρ1 st3).bind fun b st4 => if b then (fi1 ρ1 st4).bind fun p1 st5 => foldR (mTurn ft1 fc1 fe (wipeR ρ1 own1)) p1.2 p1.1 st5 else .ok [] st4
def mComp2 (mu : Bool) (fi : Rho → Store → R Items) (ft : Val → Rho → Store → R Rho) (fc : Rho → Store → R Bool) (fi1 : Rho → Store → R Items) (ft1 : Val → Rho → Store → R Rho) (fc1 : Rho → Store → R Bool) (fe : Rho → Store → R Val) (own own1 : List Nat) : Rho → Store → R Val :=
  fun ρ st => (fi ρ st).bind fun p st1 => ((foldRR (mTurn2 ft fc fi1 ft1 fc1 fe own1 (wipeR ρ own)) p.2 p.1 st1).noExc).bind fun ys st6 => mkList mu ys st6
theorem foldRR_ok {f : Val → Store → R (List Val)} {gd : Grd} {l : List Val} {st : Store} {zs : List Val} {stf : Store} (h : foldRR f gd l st = .ok zs stf) : gd.ok st := by
  cases l with
  | nil =>
    unfold foldRR at h
    split at h
    · assumption
    · cases h
  | cons x r =>
    unfold foldRR at h
    split at h
    · assumption
    · cases h
theorem ExtD.refl {D : Addr} {m : Mp} {H : Hp} (h : ¬ m.In D) : ExtD D m H m H := ⟨Nat.le_refl _, fun _ _ => .inl rfl, rfl, fun a u h _ _ => h, fun a h n => absurd h n, h⟩
section
variable {X : Cx} {W W' : WX} {elt tg iter tg1 iter1 : Expr} {ifs ifs1 : List Expr} {scope : Scope} {own : List (Str × Nat)} {vs1 : List Nat} {pos : Pos} {fi fi1 : Rho → Store → R Items} {ft ft1 : Val → Rho → Store → R Rho} {fc fc1 : Rho → Store → R Bool} {fe : Rho → Store → R Val} {sl sl1 : List Nat} {mu : Bool}
theorem de_comp2 (hsl : ∀ i ∈ sl, i ∈ own.map (·.2)) (hsl1 : ∀ i ∈ sl1, i ∈ vs1) (hlen : ∀ x ρ st ρ1 st1, ft x ρ st = .ok ρ1 st1 → ρ1.length = ρ.length) (hlen1 : ∀ x ρ st ρ1 st1, ft1 x ρ st = .ok ρ1 st1 → ρ1.length = ρ.length)
    {σ : L2.St} {H : Hp} {Q : VK} (q : DE (gx X) W (mComp2 mu fi ft fc fi1 ft1 fc1 fe (own.map (·.2)) vs1) σ H Q) :
    tLc2 (DI (gx X) W fi) (DG (gx X) sl ft) (DT (gx X) W' fc) (DI (gx X) W' fi1) (DG (gx X) sl1 ft1) (DT (gx X) W' fc1) (DE (gx X) W' fe) (own.map (·.2)) vs1 σ H Q := by
  obtain ⟨m, ρ, st, r, o⟩ := q
  refine ⟨m, ρ, st, r, (Out.bind o).imp fun p st1 m1 H1 e1 s1 o1 _ J hJ D hD => ?_⟩
  have r1 := r.ext e1 s1
  generalize hvs : own.map (·.2) = vs at *
  cases ef : foldRR (mTurn2 ft fc fi1 ft1 fc1 fe vs1 (wipeR ρ vs)) p.2 p.1 st1 with
  | no => rw [ef] at o1; exact o1.elim
  | exc x s => rw [ef] at o1; exact o1.elim
  | ok zs stf =>
  rw [ef] at o1
  have o1 : Out (gx X) W m1 H1 σ (mkList mu zs stf) fun x _ m' H' => ∀ v, Rep X.K H' m' v x → Q v H' := o1
  have hz : zs.length ≤ sizeLine := by
    unfold mkList at o1
    split at o1
    · assumption
    · exact o1.elim
  have nP : ¬ m1.P D := fun z => s1.trk D z hD
  have nI : ¬ m1.In D := fun z => s1.live D z hD
  have hPD : (m1.hide D).P D := .inr rfl
  let Pv : Nat → Hp → Prop := fun i H => ∃ mp st2 acc ys zs', ExtD D (m1.hide D) (upd H1 D (.lst [])) mp H ∧ StRel X.K H mp st2 ∧ H D = some (.lst acc) ∧ Reps X.K H mp acc ys ∧ foldRR (mTurn2 ft fc fi1 ft1 fc1 fe vs1 (wipeR ρ vs)) p.2 (p.1.drop i) st2 = .ok zs' stf ∧ zs = ys ++ zs'
  have late : ∀ {mp : Mp} {H2 : Hp}, ExtD D (m1.hide D) (upd H1 D (.lst [])) mp H2 → Later m1 H1 mp H2 := fun {mp H2} ed => ⟨fun a u h f => by
    obtain ⟨q1, q2⟩ := hide_stay (o := .lst []) hD a u h f
    exact ed.stay hPD a u q1 q2, ed.len, ed.at_⟩
  refine ⟨fun i k H => k = p.1.length - i ∧ i ≤ p.1.length ∧ Pv i H, ⟨p.1.length, by simp, Nat.zero_le _, m1.hide D, st1, [], [], zs, ⟨Nat.le_refl _, fun _ _ => .inl rfl, rfl, fun a u h _ _ => h, fun a h n => absurd h n, nI⟩, hide_st hD s1, upd_same, .nil, by rw [List.drop_zero]; exact ef, rfl⟩, ?_⟩
  rintro i k H2 ⟨rfl, hi, mp, st2, acc, ys, zs', ed, s2, hD2, ra, ef2, ez⟩
  have gd := foldRR_ok ef2
  have lt := late ed
  have hPmp : mp.P D := by rw [ed.P]; exact hPD
  have rl : Rel X.K H2 mp σ ρ st2 := ⟨r.len, fun j x e => by
    obtain ⟨v, h1, h2⟩ := r1.env j x e
    exact ⟨v, h1, h2.late lt⟩, s2⟩
  by_cases hlt : i < p.1.length
  · refine .inr ⟨hJ.go i mp H2 st2 lt s2 gd hlt, Pv (i + 1), fun H' h' => ⟨p.1.length - (i + 1), by omega, rfl, hlt, h'⟩, fun x H' y => ?_⟩
    have hv : p.1[i]? = some p.1[i] := by simp [hlt]
    obtain ⟨le, rx⟩ := hJ.yld i mp H2 st2 x H' p.1[i] lt s2 gd hv y
    rw [List.drop_eq_getElem_cons hlt] at ef2
    unfold foldRR at ef2
    rw [if_pos gd] at ef2
    obtain ⟨oy, st3, et, ef2⟩ := R.bind_ok ef2
    obtain ⟨yr, st4, er, ef3⟩ := R.bind_ok ef2
    cases ef3
    unfold mTurn2 at et
    obtain ⟨ρ1, st5, eg, et⟩ := R.bind_ok et
    obtain ⟨b, st6, ec, et⟩ := R.bind_ok et
    refine ⟨mp, wipeR ρ vs, st2, p.1[i], (wipe_rel rl vs).le le, rx, ?_⟩
    rw [eg]
    intro m3 H3 e3 s3 σ3 r3 n3
    have len3 : σ3.length = (wipe σ vs).length := by
      have q1 := r3.len
      have q2 := (wipe_rel rl vs).len
      rw [q1, q2, hlen _ _ _ _ _ eg]
    refine ⟨(wipe_eq len3 fun j hj => n3 j fun z => hj (hsl j z)).trans (wipe_wipe σ vs), m3, ρ1, st5, r3, ?_⟩
    rw [ec]
    intro m4 H4 e4 s4
    have ed4 : ExtD D (m1.hide D) (upd H1 D (.lst [])) m4 H4 := by
      have q := ed.le le
      have n4 : ¬ m4.In D := fun z => s4.np D z (by rw [e4.P, e3.P]; exact hPmp)
      have n3' : ¬ m3.In D := fun z => s3.np D z (by rw [e3.P]; exact hPmp)
      exact (q.trans (e3.d n3')).trans (e4.d n4)
    have nI2 : ¬ mp.In D := ed.no
    have nI3 : ¬ m3.In D := fun z => s3.np D z (by rw [e3.P]; exact hPmp)
    have hD4 : H4 D = some (.lst acc) := e4.keep D _ (e3.keep D _ (le D _ hD2) nI2) nI3
    have ra4 : Reps X.K H4 m4 acc ys := Reps.ext e4 (Reps.ext e3 (Paired.mapP ra fun _ _ z => z.le le))
    cases b with
    | false =>
      dsimp only
      rw [if_neg (by simp)] at et ⊢
      cases et
      exact ⟨m4, _, acc, ys, yr, ed4, s4, hD4, ra4, er, by simpa using ez⟩
    | true =>
      dsimp only
      rw [if_pos rfl] at et ⊢
      obtain ⟨p1, st7, ei, et⟩ := R.bind_ok et
      refine ⟨m4, ρ1, st6, r3.ext e4 s4, ?_⟩
      rw [ei]
      intro m5 H5 e5 s5 _ J1 hJ1
      have hP5 : m5.P D := by rw [e5.P, e4.P, e3.P]; exact hPmp
      have n5 : ¬ m5.In D := fun z => s5.np D z hP5
      have n4 : ¬ m4.In D := fun z => s4.np D z (by rw [e4.P, e3.P]; exact hPmp)
      have hD5 : H5 D = some (.lst acc) := e5.keep D _ hD4 n4
      have ra5 : Reps X.K H5 m5 acc ys := Reps.ext e5 ra4
      have ed5 := ed4.trans (e5.d n5)
      have r5 := (r3.ext e4 s4).ext e5 s5
      let Pv1 : Nat → Hp → Prop := fun j H => ∃ mq st8 acc1 ys1 zs1, ExtD D m5 H5 mq H ∧ StRel X.K H mq st8 ∧ H D = some (.lst acc1) ∧ Reps X.K H mq acc1 ys1 ∧ foldR (mTurn ft1 fc1 fe (wipeR ρ1 vs1)) p1.2 (p1.1.drop j) st8 = .ok zs1 st3 ∧ ys ++ oy = ys1 ++ zs1
      refine ⟨fun j k H => k = p1.1.length - j ∧ j ≤ p1.1.length ∧ Pv1 j H, ⟨p1.1.length, by simp, Nat.zero_le _, m5, st7, acc, ys, oy, ExtD.refl n5, s5, hD5, ra5, by rw [List.drop_zero]; exact et, rfl⟩, ?_⟩
      rintro j k H6 ⟨rfl, hj, mq, st8, acc1, ys1, zs1, edq, s6, hD6, ra6, ef6, ez6⟩
      have gd1 := foldR_ok ef6
      have lt1 : Later m5 H5 mq H6 := ⟨edq.stay hP5, edq.len, edq.at_⟩
      have hPq : mq.P D := by rw [edq.P]; exact hP5
      have rl1 : Rel X.K H6 mq σ3 ρ1 st8 := ⟨r5.len, fun j x e => by
        obtain ⟨v, h1, h2⟩ := r5.env j x e
        exact ⟨v, h1, h2.late lt1⟩, s6⟩
      by_cases hlt1 : j < p1.1.length
      · refine .inr ⟨hJ1.go j mq H6 st8 lt1 s6 gd1 hlt1, Pv1 (j + 1), fun H' h' => ⟨p1.1.length - (j + 1), by omega, rfl, hlt1, h'⟩, fun x1 H' y1 => ?_⟩
        have hv1 : p1.1[j]? = some p1.1[j] := by simp [hlt1]
        obtain ⟨le1, rx1⟩ := hJ1.yld j mq H6 st8 x1 H' p1.1[j] lt1 s6 gd1 hv1 y1
        rw [List.drop_eq_getElem_cons hlt1] at ef6
        unfold foldR at ef6
        rw [if_pos gd1] at ef6
        obtain ⟨oz, st9, et1, ef6⟩ := R.bind_ok ef6
        obtain ⟨yr1, st10, er1, ef7⟩ := R.bind_ok ef6
        cases ef7
        unfold mTurn at et1
        obtain ⟨ρ2, st11, eg1, et1⟩ := R.bind_ok et1
        obtain ⟨b1, st12, ec1, et1⟩ := R.bind_ok et1
        refine ⟨mq, wipeR ρ1 vs1, st8, p1.1[j], (wipe_rel rl1 vs1).le le1, rx1, ?_⟩
        rw [eg1]
        intro m7 H7 e7 s7 σ7 r7 n7
        have len7 : σ7.length = (wipe σ3 vs1).length := by
          have q1 := r7.len
          have q2 := (wipe_rel rl1 vs1).len
          rw [q1, q2, hlen1 _ _ _ _ _ eg1]
        refine ⟨(wipe_eq len7 fun j hj => n7 j fun z => hj (hsl1 j z)).trans (wipe_wipe σ3 vs1), m7, ρ2, st11, r7, ?_⟩
        rw [ec1]
        intro m8 H8 e8 s8
        have n7' : ¬ m7.In D := fun z => s7.np D z (by rw [e7.P]; exact hPq)
        have n8 : ¬ m8.In D := fun z => s8.np D z (by rw [e8.P, e7.P]; exact hPq)
        have ed8 : ExtD D m5 H5 m8 H8 := ((edq.le le1).trans (e7.d n7')).trans (e8.d n8)
        have hD8 : H8 D = some (.lst acc1) := e8.keep D _ (e7.keep D _ (le1 D _ hD6) edq.no) n7'
        have ra8 : Reps X.K H8 m8 acc1 ys1 := Reps.ext e8 (Reps.ext e7 (Paired.mapP ra6 fun _ _ z => z.le le1))
        cases b1 with
        | false =>
          dsimp only
          rw [if_neg (by simp)] at et1 ⊢
          cases et1
          exact ⟨m8, _, acc1, ys1, yr1, ed8, s8, hD8, ra8, er1, by simpa using ez6⟩
        | true =>
          dsimp only
          rw [if_pos rfl] at et1 ⊢
          obtain ⟨y, st13, ee, et1⟩ := R.bind_ok et1
          cases et1
          refine ⟨m8, ρ2, st12, r7.ext e8 s8, ?_⟩
          rw [ee]
          intro m9 H9 e9 s9 u ru
          have hP9 : m9.P D := by rw [e9.P, e8.P, e7.P]; exact hPq
          have n9 : ¬ m9.In D := fun z => s9.np D z hP9
          refine ⟨acc1, e9.keep D _ hD8 n8, ?_, m9, _, acc1 ++ [u], ys1 ++ [y], yr1, (ed8.trans (e9.d n9)).upd, hid_st hP9 s9, upd_same, ?_, er1, ?_⟩
          · have q := Paired.length ra6
            have q2 : (ys ++ oy).length = ys1.length + (1 + yr1.length) := by rw [ez6]; simp; omega
            have q3 : zs.length = (ys ++ oy).length + yr.length := by rw [ez]; simp; omega
            omega
          · exact paired_append (Paired.mapP (Reps.ext e9 ra8) fun _ _ z => hid_rep hP9 z) (.cons (hid_rep hP9 ru) .nil)
          · rw [ez6]; simp
      · obtain rfl : j = p1.1.length := by omega
        rw [List.drop_length] at ef6
        unfold foldR at ef6
        rw [if_pos gd1] at ef6
        cases ef6
        rw [List.append_nil] at ez6
        refine .inl ⟨hJ1.stop mq H6 _ lt1 s6 gd1, mq, _, acc1, ys1, yr, ed5.trans edq, s6, hD6, ra6, er, ?_⟩
        rw [ez, ← ez6]; simp
  · obtain rfl : i = p.1.length := by omega
    refine .inl ⟨hJ.stop mp H2 st2 lt s2 gd, ?_⟩
    rw [List.drop_length] at ef2
    unfold foldRR at ef2
    rw [if_pos gd] at ef2
    cases ef2
    rw [List.append_nil] at ez
    subst ez
    have q := mk_list (g := gx X) (rm_st (K := X.K) ed.P nP s2) (Paired.mapP ra fun _ _ z => rm_rep ed.P z) (Out.from (rm_ext hD ed) o1)
    have q2 := q.2 D rm_same
    rw [upd_rm' hD2] at q2
    exact q2
theorem ge_comp2 (C : Cok X) (hp : pln iter = true) (hp1 : pln iter1 = true) (hi : GIt X W tg iter fi) (ok : BlkOk X.N X.env.scope scope own) (hv : ∀ i ∈ vs1, i ∈ own.map (·.2))
    (hg : ∀ (s : Shared) (H : Hp) (C : Addr) (cl : List (Str × Addr)) (fp : List Addr), PG (X.blk s H scope (compEnvC scope cl C X.env) fp) tg (DG (gx X) sl ft))
    (ht : ∀ (s : Shared) (H : Hp) (C : Addr) (cl : List (Str × Addr)) (fp : List Addr), PTs (X.blk s H scope (compEnvC scope cl C X.env) fp) ifs (DT (gx X) W' fc))
    (hi1 : ∀ (s : Shared) (H : Hp) (C : Addr) (cl : List (Str × Addr)) (fp : List Addr), PI (X.blk s H scope (compEnvC scope cl C X.env) fp) tg1 iter1 (DI (gx X) W' fi1))
    (hg1 : ∀ (s : Shared) (H : Hp) (C : Addr) (cl : List (Str × Addr)) (fp : List Addr), PG (X.blk s H scope (compEnvC scope cl C X.env) fp) tg1 (DG (gx X) sl1 ft1))
    (ht1 : ∀ (s : Shared) (H : Hp) (C : Addr) (cl : List (Str × Addr)) (fp : List Addr), PTs (X.blk s H scope (compEnvC scope cl C X.env) fp) ifs1 (DT (gx X) W' fc1))
    (he : ∀ (s : Shared) (H : Hp) (C : Addr) (cl : List (Str × Addr)) (fp : List Addr), PE (X.blk s H scope (compEnvC scope cl C X.env) fp) elt (DE (gx X) W' fe))
    (hsl : ∀ i ∈ sl, i ∈ own.map (·.2)) (hsl1 : ∀ i ∈ sl1, i ∈ vs1) (hlen : ∀ x ρ st ρ1 st1, ft x ρ st = .ok ρ1 st1 → ρ1.length = ρ.length) (hlen1 : ∀ x ρ st ρ1 st1, ft1 x ρ st = .ok ρ1 st1 → ρ1.length = ρ.length) :
    GE X W (.ListComp elt [⟨tg, iter, ifs, 0⟩, ⟨tg1, iter1, ifs1, 0⟩] scope pos) (mComp2 mu fi ft fc fi1 ft1 fc1 fe (own.map (·.2)) vs1) :=
  PEw (pe_lc2 C.calm C.nd hi ok hv hg ht hi1 hg1 ht1 he (fun x => set_ok hp _ x) fun env x => set_ok hp1 env x) fun _ _ _ q => de_comp2 hsl hsl1 hlen hlen1 q
end
end G
set_option Elab.async false
set_option linter.all false
set_option maxRecDepth 100000
/-! GT: the set of a list of texts, and how many are in it -/
namespace G
open PySem PySem.Spec PyProof.Rows L2
theorem distinct_snoc : ∀ (l σ : List Str) (x : Str), distinct σ (l ++ [x]) = if (distinct σ l).any (· == x) then distinct σ l else distinct σ l ++ [x]
  | [], σ, x => by simp [distinct]
  | y :: l, σ, x => by
    show distinct _ (l ++ [x]) = _
    rw [distinct_snoc l _ x]; rfl
def met (xs : List Str) (i : Nat) : List Str := distinct [] (xs.take i)
theorem met_succ {xs : List Str} {i : Nat} (h : i < xs.length) : met xs (i + 1) = if (met xs i).any (· == xs.getD i Str.empty) then met xs i else met xs i ++ [xs.getD i Str.empty] := by
  unfold met
  rw [List.take_add_one, List.getElem?_eq_getElem h]
  show distinct [] (xs.take i ++ [xs[i]]) = _
  rw [distinct_snoc, List.getD_eq_getElem?_getD, List.getElem?_eq_getElem h]; rfl
theorem met_len (xs : List Str) : ∀ i, (met xs i).length ≤ i
  | 0 => by simp [met, distinct]
  | i + 1 => by
    have ih := met_len xs i
    by_cases h : i < xs.length
    · rw [met_succ h]
      split
      · omega
      · rw [List.length_append, List.length_singleton]; omega
    · have : met xs (i + 1) = met xs i := by unfold met; rw [List.take_of_length_le (by omega), List.take_of_length_le (by omega)]
      rw [this]; omega
theorem met_any {xs : List Str} {i : Nat} (h : i < xs.length) (k : Str) : ((met xs i).any (· == k) || decide (k = xs.getD i Str.empty)) = (met xs (i + 1)).any (· == k) := by
  rw [met_succ h]
  generalize xs.getD i Str.empty = x
  split
  · rename_i hx
    by_cases e : k = x
    · subst e; rw [hx]; rfl
    · simp [e]
  · rw [List.any_append]
    by_cases e : k = x
    · subst e; simp
    · have : (x == k) = false := beq_eq_false_iff_ne.mpr fun z => e z.symm
      simp [e, this]
theorem met_size {xs : List Str} {i : Nat} (h : i < xs.length) : (if (met xs i).any (· == xs.getD i Str.empty) = true then (met xs i).length else (met xs i).length + 1) = (met xs (i + 1)).length := by
  rw [met_succ h]
  split
  · rfl
  · simp
abbrev setOb (led : Bool) : Obj := { cls := .type "set", dict := none, data := .set #[] 0 (.fresh 0 0 led) }
section
variable {prog : Program} {w : World} {A : Around} {R : Result → Shared → Prop} {I : Addr} {fp wr : List Addr} {G : Array GenState → Array GenState → Prop} {n : Nat} {P : Nat → Value → Prop} {St : Nat → Shared → Prop}
theorem set_loop (W : WalksS prog w A.in1 I fp wr G n P St) (S : Addr) (hSf : S ∉ fp) (xs : List Str) (hsz : xs.length = n) (hb : n + 1 < scanBound) (hval : ∀ i v, P i v → ∃ t, v = .str (xs.getD i Str.empty) t) : ∀ (k i : Nat) (s : Shared), n - i = k → i ≤ n → St i s →
    s.heap.SetOf (PySem.strKind prog w) S (fun y => (met xs i).any (· == y)) (met xs i).length →
    (∀ s', Moved (S :: wr) G s s' → s'.heap.SetOf (PySem.strKind prog w) S (fun y => (met xs n).any (· == y)) (met xs n).length → R (.ok (.ret .none)) s') →
    codeAny (model prog w) A (.builtin "set.update.loop" ⟨[.ref S, .ref I], []⟩) R s := by
  have notW : S ∉ wr := fun h => hSf (W.sub _ h)
  have more : ∀ b ∈ wr, b ∈ S :: wr := fun b hb => List.mem_cons_of_mem _ hb
  intro k
  induction k with
  | zero =>
    intro i s hk hi hst hS hR
    obtain rfl : i = n := by omega
    refine codeAny_builtin PyProof.Rows.F.entry_set_update_loop ?_
    rw [Around.under_plainId PyProof.Rows.F.plain_set_update_loop _]
    refine wpAny_bind (m := pyNext (.ref I)) (W.done s _ _ hst fun s' hm => ?_)
    show wpAny _ A.in1 (ret Value.none) _ _ s'
    obtain ⟨o, es, ep, t, ho, rest⟩ := hS
    exact wpAny_pure (hR s' (hm.mono more) ⟨o, es, ep, t, hm.heap S _ notW ho, rest⟩)
  | succ k ih =>
    intro i s hk hi hst hS hR
    have hlt : i < n := by omega
    have hlx : i < xs.length := by omega
    refine codeAny_builtin PyProof.Rows.F.entry_set_update_loop ?_
    rw [Around.under_plainId PyProof.Rows.F.plain_set_update_loop _]
    refine wpAny_bind (m := pyNext (.ref I)) (W.item i s _ _ hlt hst fun v s' hP hst' hm => ?_)
    obtain ⟨t, rfl⟩ := hval i v hP
    obtain ⟨o, es, ep, tb, ho, rest⟩ := hS
    have at' : s'.heap.SetOf (PySem.strKind prog w) S (fun y => (met xs i).any (· == y)) (met xs i).length := ⟨o, es, ep, tb, hm.heap S _ notW ho, rest⟩
    refine wpAny_bind (m := holding [Value.str (xs.getD i Str.empty) t] (setAdd S (.str (xs.getD i Str.empty) t))) (wpAny_holding ?_)
    unfold setAdd
    refine wpAny_holding (wpAny_bind ((PySem.strKind prog w).pyHash (k := xs.getD i Str.empty) (strKind_is _ _ _ _) ?_))
    have hl := met_len xs i
    refine wpAny_setAddHashed_of (knd := PySem.strKind prog w) (s := { s' with toks := s'.toks + 1 }) (strKind_is _ _ _ _) rfl at' (by omega) fun h' hsb hS2 => ?_
    have next : h'.SetOf (PySem.strKind prog w) S (fun y => (met xs (i + 1)).any (· == y)) (met xs (i + 1)).length := SetOf_congr hS2 (fun y => met_any hlx y) (met_size hlx)
    refine wpAny_pure ⟨plainId_quiet PyProof.Rows.F.plain_set_update_loop _, ih (i + 1) _ (by omega) hlt (W.frame _ s' _ _ hst' (Nat.le_succ _) fun b hb o e => ?_) next fun s'' hm'' hS'' => ?_⟩
    · rw [hsb.2 b fun z => hSf (z ▸ hb)]; exact e
    · refine hR s'' (Moved.trans W.gtrans ((hm.mono more).then_heap (Nat.le_succ _) fun b o hb e => ?_) hm'') hS''
      rw [hsb.2 b fun z => hb (z ▸ List.mem_cons_self)]; exact e
end
section
variable {prog : Program} {w : World} {A : Around} {E : Value → Shared → Prop} {s : Shared}
set_option maxHeartbeats 4000000 in
theorem set_of_list {l : Addr} {items : Array Value} {xs : List Str} {Q : Value → Shared → Prop} (hh : A.handled = none) (hl : s.heap.IsList l items) (hi : StrsAre items.toList xs) (hb : xs.length + 1 < scanBound)
    (h : ∀ (h' : Heap) (tk : Nat), h'.SetOf (PySem.strKind prog w) s.heap.objs.size (fun y => (met xs xs.length).any (· == y)) (met xs xs.length).length → (∀ b o, b < s.heap.objs.size → s.heap.get? b = some o → h'.get? b = some o) → Q (.ref s.heap.objs.size) { s with heap := h', toks := tk }) :
    wpAny (model prog w) A (call (.type "set") [.ref l]) Q E s := by
  have hsz : xs.length = items.size := by rw [← StrsAre.len_eq hi, Array.length_toList]
  obtain ⟨c, tl, hmro⟩ := PySem.F.called_set.mro
  have hmade := PySem.F.called_set.made
  have hsub := PySem.F.called_set.sub
  refine wpAny_call (codeAny_of_tree ?_)
  refine wpAny_pure (a := _) ⟨Code.quiet_builtin _ (by decide +kernel), codeAny_builtin PySem.F.entry_type_call ?_⟩
  rw [Around.under_plain (weight_type_call_type "set" [.ref l] []) rfl]
  have z1 := PySem.F.called_set.notType
  have z2 := PySem.F.called_set.canCreate
  have z3 := PySem.F.typeCall_set_1 (.ref l)
  repeat (any_goals (first | assumption | wp_step))
  refine codeAny_mono (code_set_new_1 (.ref l) (E := E) (Q₁ := fun obj s₁ => ∃ led : Bool, obj = .ref s.heap.objs.size ∧ s₁ = { s with heap := s.heap.push (setOb led) }) fun led => ⟨led, rfl, rfl⟩) fun r s₁ hr => ?_
  cases r with
  | error e => exact hr
  | ok fl =>
    cases fl with
    | next => exact hr.elim
    | brk => exact hr.elim
    | cont => exact hr.elim
    | ret obj =>
      obtain ⟨led, rfl, rfl⟩ := hr
      have gS : (s.heap.push (setOb led)).get? s.heap.objs.size = some (setOb led) := Heap.get?_push_size _ rfl
      have tS : Shared.TypeIs { s with heap := s.heap.push (setOb led) } (.ref s.heap.objs.size) "set" := ⟨_, gS, rfl⟩
      have z4 := PySem.F.called_set.init.lookup
      have z5 := PySem.F.called_set.init.bind (.ref s.heap.objs.size)
      repeat (any_goals (first | assumption | wp_step))
      refine codeAny_mono (codeAny_call_builtin (R := wants (fun r s₂ => r = .none ∧ ∃ h' tk, s₂ = { s with heap := h', toks := tk } ∧ h'.SetOf (PySem.strKind prog w) s.heap.objs.size (fun y => (met xs xs.length).any (· == y)) (met xs xs.length).length ∧
          (∀ b o, b < s.heap.objs.size → s.heap.get? b = some o → h'.get? b = some o)) E) PySem.F.called_set.init.plain PySem.F.entry_set_init (check_set_init_1 tS ?_)) fun r₂ s₂ hr₂ => ?_
      · obtain ⟨⟨ocls, odict, odata, oslots⟩, hol, hcl, nl, hdl⟩ := hl
        simp only at hcl hdl
        subst hcl; subst hdl
        have gl : (s.heap.push (setOb led)).get? l = some { cls := .type "list", dict := odict, data := .seq items nl, slots := oslots } := Heap.get?_push_of_some _ hol
        have z6 := PySem.F.sub_list_set
        have z7 := PySem.F.sub_list_frozenset
        have z8 : (Value.type "list" == Value.type "dict") = false := by decide
        have isl : (s.heap.push (setOb led)).IsList l items := ⟨_, gl, rfl, nl, rfl⟩
        unfold Builtin.«set.__init__» noKeywords Builtin.Frozenset.updateFrom
        generalize hPI : pyIter = PI
        wp_walk
        subst hPI
        refine wpAny_pyIter_list isl (wpAny_bind (wpAny_runValue ?_))
        have small : l < s.heap.objs.size := Heap.lt_size hol
        have sz : (s.heap.push (setOb led)).objs.size = s.heap.objs.size + 1 := Heap.size_push _ _
        have ne : l ≠ (s.heap.push (setOb led)).objs.size := by rw [sz]; exact Nat.ne_of_lt (Nat.lt_succ_of_lt small)
        have nf : s.heap.objs.size ∉ [(s.heap.push (setOb led)).objs.size, l] := by
          simp only [List.mem_cons, List.not_mem_nil, or_false, not_or]
          exact ⟨by rw [sz]; exact Nat.ne_of_lt (Nat.lt_succ_self _), Nat.ne_of_gt small⟩
        have hv : ∀ (i : Nat) (v : Value), items[i]? = some v → ∃ t, v = .str (xs.getD i Str.empty) t := fun i v e => SS.strs_at hi i v (by rw [Array.getElem?_toList]; exact e)
        rw [hsz] at hb ⊢
        refine set_loop ((Walks.list (show A.in1.in1.in1.handled = none by simp [hh]) _ l ne items).toS) s.heap.objs.size nf xs hsz hb hv (items.size - 0) 0 _ (by omega) (Nat.zero_le _) ⟨⟨_, Heap.get?_push_size _ rfl, rfl, rfl⟩, isl.push _⟩ ?start ?done
        case start =>
          have g2 : ((s.heap.push (setOb led)).push { cls := .type "list_iterator", data := .fields #[.ref l, .int 0 0] }).get? s.heap.objs.size = some (setOb led) := Heap.get?_push_of_some _ gS
          exact SetOf_congr ((setObjOf_fresh (knd := PySem.strKind prog w) led).setOf g2 (by unfold scanBound; omega)) (fun _ => rfl) rfl
        case done =>
          intro s' hm hS'
          obtain ⟨h', g', d', tk', os'⟩ := s'
          obtain rfl : g' = s.gens := hm.gens
          obtain rfl : d' = s.drawn := hm.drawn
          obtain rfl : os' = s.os := hm.os
          show wpAny _ _ _ _ _ _
          refine wpAny_pure ?_
          show wpAny _ _ (ret Value.none) _ _ _
          refine wpAny_pure ⟨rfl, h', tk', rfl, hS', fun b o hb e => hm.heap b o ?_ (Heap.get?_push_of_some _ (Heap.get?_push_of_some _ e))⟩
          simp only [List.mem_cons, List.not_mem_nil, or_false, not_or]
          exact ⟨Nat.ne_of_lt hb, by rw [sz]; exact Nat.ne_of_lt (Nat.lt_succ_of_lt hb)⟩
      · cases r₂ with
        | error e => exact hr₂
        | ok fl₂ =>
          cases fl₂ with
          | next => exact hr₂.elim
          | brk => exact hr₂.elim
          | cont => exact hr₂.elim
          | ret r =>
            obtain ⟨rfl, h', tk, rfl, hS', hk'⟩ := hr₂
            repeat (any_goals (first | assumption | wp_step))
            exact h _ _ hS' hk'
end
section
variable {X : Cx} {W : WX} {a : Expr} {fa : Rho → Store → R Val} {p p2 q pos : Pos}
def mLenset (fa : Rho → Store → R Val) : Rho → Store → R Val := fun ρ st => (fa ρ st).bind fun v st1 => match lsDat st1 v with
    | some ds => match strsOf ds with
      | some xs => if xs.length < 4000 then .ok (.d (.int ((distinct [] xs).length : Nat))) st1 else .no
      | none => .no
    | none => .no
theorem ge_lenset (C : Cok X) (hg : Gl X "len") (hm : X.mg "len" = none) (hg2 : Gl X "set") (hm2 : X.mg "set" = none) (hp : pln a = true) (ha : GE X W a fa) : GE X W (.Call (.Name "len" p) [.Call (.Name "set" p2) [a] [] q] [] pos) (mLenset fa) := by
  refine ⟨fun pins s σ H Q I h => ?_⟩
  obtain ⟨m, ρ, st, r, o⟩ := h
  have na := star_pln hp [] X.env
  refine Call_ (ld_blt I hg hm boot_len (callWith_builtin1 (args_cons (Call_ (ld_blt I hg2 hm2 boot_set (callWith_type1 (args_cons (thn (ha.run pins s σ H _ I ⟨m, ρ, st, r, (Out.bind o).imp fun v st1 m1 H1 e1 s1 o1 x rx => (?_ : ∃ p ys, x = .ref p ∧ H1 p = some (.lst (ys.map V.str)) ∧ ys.length < 4000 ∧ Q (.int ((distinct [] ys).length : Nat)) H1)⟩)
    fun v s1 ⟨x, H1, I1, rx, l, ys, ex, hl, hlen, q1⟩ => args_nil ?_) na) na rfl)))  rfl) rfl rfl))
  · dsimp only at o1
    cases e1 : lsDat st1 v with
    | none => rw [e1] at o1; exact o1.elim
    | some ds =>
      rw [e1] at o1
      dsimp only at o1
      cases e2 : strsOf ds with
      | none => rw [e2] at o1; exact o1.elim
      | some ys =>
        rw [e2] at o1
        dsimp only at o1
        split at o1
        · rename_i hy
          obtain ⟨l, vs, rfl, hl, rr⟩ := rep_lsd s1 rx e1
          obtain rfl := strs_V rr e2
          exact ⟨l, ys, rfl, hl, hy, Out.here o1 s1 _ (.d (.int _))⟩
        · exact o1.elim
  · subst ex
    cases rx
    obtain ⟨its, rv, pl, hz⟩ := I1.list (.inl (.inl hl))
    refine set_of_list (I1.ok.hd C.calm) pl.isList (by simpa using strsAre_of rv) (by unfold scanBound; omega) fun h' tk hS hk => args_nil ?_
    obtain ⟨o', es, ep, t, ho, hex, hd, _, _, _, hf, hn⟩ := hS
    have I2 : Inv X pins σ H1 { s1 with heap := h', toks := tk } := I1.kept fun b o e => hk b o (Heap.lt_size e) e
    have hle := met_len ys ys.length
    have em : met ys ys.length = distinct [] ys := by unfold met; rw [List.take_length]
    refine call_len_set ho hex hd hf (by rw [hn]; omega) ⟨.int ((distinct [] ys).length : Nat), H1, I2.tok _, ⟨_, by rw [hn, em]⟩, q1⟩
end
end G
set_option Elab.async false
set_option linter.all false
set_option maxRecDepth 100000
set_option maxHeartbeats 1000000
/-! GZ: sorted; lists of ranges; more stores at once -/
namespace G
open PySem PySem.Spec PyProof.Rows L2
/-! ### sorted lists are one -/
def leS (a b : Str) : Bool := !decide (b.cps.toList < a.cps.toList)
theorem leS_iff {a b : Str} : leS a b = true ↔ a.cps.toList ≤ b.cps.toList := by
  unfold leS
  rw [Bool.not_eq_true', decide_eq_false_iff_not]
  exact List.not_lt
theorem str_eq {a b : Str} (h : a.cps.toList = b.cps.toList) : a = b := by
  cases a; cases b
  congr 1
  exact Array.toList_inj.mp h
theorem leS_trans (a b c : Str) (h : leS a b = true) (k : leS b c = true) : leS a c = true := by
  rw [leS_iff] at *
  exact List.le_trans h k
theorem leS_total (a b : Str) : (leS a b || leS b a) = true := by
  rw [Bool.or_eq_true, leS_iff, leS_iff]
  exact List.le_total _ _
theorem leS_anti {a b : Str} (h : leS a b = true) (k : leS b a = true) : a = b := by
  rw [leS_iff] at *
  exact str_eq (List.le_antisymm h k)
theorem sorted_pair : ∀ (l : List Str) (p : Str), risingS p l = true → (p :: l).Pairwise (fun a b => leS a b = true)
  | [], p, _ => by simp
  | x :: r, p, h => by
    unfold risingS at h
    rw [Bool.and_eq_true, ltCps_eq] at h
    have ih := sorted_pair r x h.2
    have hx : leS p x = true := h.1
    refine List.pairwise_cons.mpr ⟨fun y hy => ?_, ih⟩
    rcases List.mem_cons.mp hy with e | e
    · rw [e]; exact hx
    · exact leS_trans _ _ _ hx ((List.pairwise_cons.mp ih).1 y e)
theorem sortS_pair (xs : List Str) : (sortS xs).Pairwise (fun a b => leS a b = true) := List.pairwise_mergeSort leS_trans leS_total xs
theorem sortS_perm (xs : List Str) : (sortS xs).Perm xs := List.mergeSort_perm xs _
theorem sortS_only {xs ys : List Str} (h : ys.Perm xs) (s : sortedS ys = true) : ys = sortS xs := by
  have p : ys.Pairwise (fun a b => leS a b = true) := by
    cases ys with
    | nil => simp
    | cons x r => exact sorted_pair r x s
  exact List.Perm.eq_of_pairwise (fun a b _ _ h k => leS_anti h k) p (sortS_pair xs) (h.trans (sortS_perm xs).symm)
theorem sortI_perm (xs : List Int) : (sortI xs).Perm xs := List.mergeSort_perm xs _
theorem sortI_pair (xs : List Int) : (sortI xs).Pairwise (· ≤ ·) := by
  have h := List.pairwise_mergeSort (le := fun a b : Int => decide (a ≤ b)) (fun a b c h k => by simp at *; omega) (fun a b => by simp; omega) xs
  exact h.imp fun q => of_decide_eq_true q
theorem sortI_only {xs ys : List Int} (h : ys.Perm xs) (s : ys.Pairwise (· ≤ ·)) : ys = sortI xs :=
  List.Perm.eq_of_pairwise (fun a b _ _ h k => by omega) s (sortI_pair xs) (h.trans (sortI_perm xs).symm)
theorem ints_V {K : PySem.W.Frag} {H : Hp} {m : Mp} : ∀ {vs : List V} {ds : List PyData} {bs : List Int}, RepDs K H m vs ds → intsOf ds = some bs → vs = bs.map V.int
  | _, [], _, .nil, e => by cases e; rfl
  | _, d :: ds, _, .cons h r, e => by
    cases d with
    | int b =>
      have e : (intsOf ds).map (b :: ·) = some _ := e
      obtain ⟨bs, e1, e2⟩ := Option.map_eq_some_iff.mp e
      subst e2
      cases h
      rw [ints_V r e1]; rfl
    | _ => cases e
theorem repds_ints {K : PySem.W.Frag} {H : Hp} {m : Mp} : ∀ ys : List Int, RepDs K H m (ys.map V.int) (ys.map PyData.int)
  | [] => .nil
  | y :: ys => .cons (.int y) (repds_ints ys)
theorem keys_strs : ∀ {es : List (Key × V)} {kvs : List (PyData × Val)} {K : PySem.W.Frag} {H : Hp} {m : Mp} {xs : List Str}, RepE K H m es kvs → strsOf (kvs.map (·.1)) = some xs → es.map (·.1) = xs.map Sum.inr
  | _, [], _, _, _, _, .nil, e => by cases e; rfl
  | _, (d, v) :: r, K, H, m, xs, .cons (a := p) h t, e => by
    obtain ⟨k, u⟩ := p
    have h1 : keyD k = d := h.1
    cases k with
    | inl i => subst h1; cases e
    | inr x =>
      subst h1
      have e : (strsOf (r.map (·.1))).map (x :: ·) = some xs := e
      obtain ⟨ys, e1, rfl⟩ := Option.map_eq_some_iff.mp e
      show Sum.inr x :: _ = _
      rw [keys_strs t e1]; rfl
variable {X : Cx} {W : WX}
theorem sb_sorted (C : Cok X) : GN X (.builtin "sorted") (biO .sorted) := by
  refine CallR.pick ?_
  rintro xs H Q ⟨m, st, as, s, rs, o⟩
  unfold biO at o
  simp only at o
  split at o
  · rename_i v
    obtain ⟨x, rfl, r⟩ := reps1 rs
    split at o
    · obtain ⟨kvs, e1, o⟩ := o.bind
      obtain ⟨ys, e2, o⟩ := o.bind
      obtain ⟨hl, o⟩ := o.guard
      obtain ⟨p, es, rfl, hp, re⟩ := rep_dc s r e1
      refine ⟨_, call_sortedD C.calm, p, es, ys, rfl, .inl hp, keys_strs re e2, hl, fun zs q hz hs hq => ?_⟩
      rw [sortS_only hz hs]
      exact OutO.fresh o s hq _ (rep_new_lst s hq (repds_strs _))
    · obtain ⟨ds, e1, o⟩ := o.bind
      obtain ⟨p, vs, rfl, hp, rr⟩ := rep_lsd s r e1
      split at o
      · rename_i ns hns
        obtain rfl := ints_V rr hns
        refine ⟨_, cr_sortedI, p, ns, rfl, .inl (.inl hp), fun zs q hz hs hq => ?_⟩
        rw [sortI_only hz hs]
        exact OutO.fresh o s hq _ (rep_new_lst s hq (repds_ints _))
      · obtain ⟨ys, e2, o⟩ := o.bind
        obtain ⟨hl, o⟩ := o.guard
        obtain rfl := strs_V rr e2
        refine ⟨_, cr_sortedS, p, ys, rfl, .inl (.inl hp), hl, fun zs q hz hs hq => ?_⟩
        rw [sortS_only hz hs]
        exact OutO.fresh o s hq _ (rep_new_lst s hq (repds_strs _))
  · exact o.elim
/-! ### list(range(n)) -/
def mLrng (mu : Bool) (fa : Rho → Store → R Val) : Rho → Store → R Val := fun ρ st => (fa ρ st).bind fun v st1 => match v with
    | .d (.int n) => if -(2 ^ 62) ≤ n ∧ n ≤ 16777216 then mkList mu (rng 0 n.toNat 1) st1 else .no
    | _ => .no
theorem reps_rg {K : PySem.W.Frag} {H : Hp} {m : Mp} (n : Int) : Reps K H m (rgV 0 n) (rng 0 n.toNat 1) := by
  have : rng 0 n.toNat 1 = ((List.range n.toNat).map fun i => (0 : Int) + (i : Nat)).map fun z => Val.d (.int z) := by
    unfold rng
    rw [List.map_map]
    apply List.map_congr_left
    intro i _
    simp
  rw [this]
  have e : rgV 0 n = ((List.range n.toNat).map fun i => (0 : Int) + (i : Nat)).map V.int := by
    unfold rgV
    rw [List.map_map, Int.sub_zero]; rfl
  rw [e]
  generalize (List.range n.toNat).map (fun i => (0 : Int) + (i : Nat)) = l
  induction l with
  | nil => exact .nil
  | cons z l ih => exact .cons (.d (.int z)) ih
variable {a b c : Expr} {es ts : List Expr} {pos p p2 q : Pos} {fa fb fc : Rho → Store → R Val} {fs : Rho → Store → R (List Val)}
theorem ge_lrng {mu : Bool} (C : Cok X) (hg : Gl X "list") (hm : X.mg "list" = none) (hg2 : Gl X "range") (hm2 : X.mg "range" = none) (hp : pln a = true) (ha : GE X W a fa) : GE X W (.Call (.Name "list" p) [.Call (.Name "range" p2) [a] [] q] [] pos) (mLrng mu fa) :=
  PEw (pe_listRg C.calm hg hm (prg_1 hg2 hm2 ha (star_pln hp _ _))) fun σ H Q q => by
    obtain ⟨m, ρ, st, r, o⟩ := q
    refine ⟨m, ρ, st, r, (Out.bind o).imp fun v st1 m1 H1 e1 s1 o1 x rx => ?_⟩
    dsimp only at o1
    split at o1
    · rename_i n
      split at o1
      · rename_i hn
        obtain rfl := inv_int rx
        refine ⟨n, rfl, ⟨by omega, by omega, by omega, by omega, by omega⟩, ?_⟩
        exact (mk_list s1 (reps_rg n) o1).2
      · exact o1.elim
    · exact o1.elim
/-! ### stores at once -/
theorem gs_par3 {i j l : Nat} {x y z : Str} {px py pz pt : Pos} {kt k2 : Nat} {pt2 : Pos} (C : Cok X) (hi : X.N[i]? = some x) (hj : X.N[j]? = some y) (hl : X.N[l]? = some z) (hij : i ≠ j) (hil : i ≠ l) (hjl : j ≠ l)
    (hx : X.env.scope.names.lookup x = some .local) (hy : X.env.scope.names.lookup y = some .local) (hz : X.env.scope.names.lookup z = some .local)
    (h1 : pln a = true) (h2 : pln b = true) (h3 : pln c = true) (ha : GE X W a fa) (hb : GE X W b fb) (hc : GE X W c fc) (hw : swappedStores [.Tuple [.Name x px, .Name y py, .Name z pz] kt pt] (.Tuple [a, b, c] k2 pt2) X.env = pure (some [x, y, z])) :
    GS X W (.Assign [.Tuple [.Name x px, .Name y py, .Name z pz] kt pt] (.Tuple [a, b, c] k2 pt2) pos)
      (fun ρ st => (fa ρ st).cat ρ fun v st1 => (fb ρ st1).cat ρ fun u st2 => (fc ρ st2).cat ρ fun w st3 => if i < ρ.length ∧ j < ρ.length ∧ l < ρ.length then .ok (.next (((ρ.set i (some v)).set j (some u)).set l (some w))) st3 else .no) :=
  PSw (ps_par3 C.calm C.nd hi hj hl hij hil hjl hx hy hz (pa_cons ha (pa_cons hb (pa_cons hc pa_nil (star_pln h3 _ _)) (star_pln h2 _ _)) (star_pln h1 _ _)) hw (show swapsWith (.Tuple [a, b, c] k2 pt2) (some (.Tuple [.Name x px, .Name y py, .Name z pz] kt pt)) pos.line X.env = pure false from sw_off2 rfl _ _)) fun D σ H q => by
    obtain ⟨m, ρ, st, r, o⟩ := q
    refine ⟨m, ρ, st, r, (cat_out r o).imp fun v st1 m1 H1 e1 s1 o1 x rx => ?_⟩
    have r1 := r.ext e1 s1
    refine ⟨m1, ρ, st1, r1, (cat_out r1 o1).imp fun u st2 m2 H2 e2 s2 o2 y ry => ?_⟩
    have r2 := r1.ext e2 s2
    refine ⟨m2, ρ, st2, r2, (cat_out r2 o2).imp fun w st3 m3 H3 e3 s3 o3 z rz => ?_⟩
    refine ⟨x, y, z, rfl, ?_⟩
    split at o3
    · exact OutN.here o3 s3 _ ((((r2.ext e3 s3).set ((rx.ext e2).ext e3)).set (ry.ext e3)).set rz)
    · exact o3.elim
theorem gs_parn {k k2 : Nat} {pt pt2 : Pos} {sl : List Nat} {fg : List Val → Rho → Store → R Rho} (C : Cok X) (hp : ∀ y ∈ ts, pln y = true) (hg : PGs X ts (DGs (gx X) sl fg)) (he : GAs X W es fs) (hn : ∀ xs ρ st ρ1 st1, fg xs ρ st = .ok ρ1 st1 → xs.length = ts.length)
    (hw : swappedStores [.Tuple ts k pt] (.Tuple es k2 pt2) X.env = pure none) :
    GS X W (.Assign [.Tuple ts k pt] (.Tuple es k2 pt2) pos) (fun ρ st => (fs ρ st).cat ρ fun vs st1 => if vs.length ≤ sizeLine then (fg vs ρ st1).noExc.bind fun ρ1 st2 => .ok (.next ρ1) st2 else .no) :=
  PSw (ps_asg (pe_tup he) (pg_tup C.calm hg (asgE_len hp) (asgE_star hp)) (show swapsWith (.Tuple es k2 pt2) (some (.Tuple ts k pt)) pos.line X.env = pure false from sw_off2 rfl _ _) hw (by rw [asgE_pln rfl]; rfl)) fun D σ H q => by
    obtain ⟨m, ρ, st, r, o⟩ := q
    refine ⟨m, ρ, st, r, (cat_out r o).imp fun vs st1 m1 H1 e1 s1 o1 xs rs => ?_⟩
    split at o1
    · rename_i hl
      refine ⟨by rw [Paired.length rs]; exact hl, fun p hp2 => ?_⟩
      have el := ext_of_le (m := m1) (le_upd (o := .tup xs) hp2)
      have o2 := noE_out o1
      refine ⟨p, xs, rfl, .inl (.inl upd_same), ?_, m1, ρ, st1, vs, (r.ext e1 s1).le (le_upd hp2), Reps.ext el rs, (OutN.from el o2).imp fun ρ1 st2 m2 H2 e2 s2 o3 σ' r' _ => OutN.here o3 s2 σ' r'⟩
      obtain ⟨ρ1, st2, eq⟩ := OutN.ok_of o2
      rw [Paired.length rs]; exact hn _ _ _ _ _ eq
    · exact o1.elim
end G
set_option Elab.async false
set_option linter.all false
set_option maxRecDepth 100000
/-! GN: that a text of the program is what the small language says of it: expressions -/
namespace G
open PySem PySem.Spec PyProof.Rows L2
structure Tab where
  fns : List Str
  globs : List (Str × Bool)
  bis : List Str
structure Ck where
  N : List Str
  sc : Scope
  fb : Str → Bool
def FnAt (X : Cx) (Fm : List Val → Store → R Val) (x : Str) : Prop := ∃ fa fd ps k, X.mg x = some (.ref fa) ∧ PySem.W.keepIn X.K (.ref fa) = true ∧ Binds X.K fd ps [] ∧ GFn X.prog X.w X.K X.mg X.base k fa fd ps (spG (gx X) ps.length Fm) ∧ Room k X.A ∧ ∀ vs st, Fm vs st = .no ∨ vs.length = ps.length
/-- a module's name of data; of a written dict -/
def GlAt (X : Cx) (o : Option PyData) (x : Str) : Bool → Prop
  | true => ∃ kvs, o = some (.dict kvs) ∧ WDict X x kvs
  | false => ∃ d u v, o = some d ∧ X.mg x = some u ∧ RelV v u ∧ ∀ H m, RepD X.K H m v d
structure Fit (T : Tab) (Nv : Env') (X : Cx) (W : WX) (c : Ck) : Prop where
  n : X.N = c.N
  sc : X.env.scope = c.sc
  fn : ∀ x, c.fb x = true → X.fn x = true
  cok : Cok X
  call : ∀ (f : Nat) (x : Str), T.fns[f]? = some x → FnAt X (Nv.fns f) x
  glob : ∀ (n : Nat) (x : Str) (b : Bool), T.globs[n]? = some (x, b) → GlAt X (Nv.glob n) x b
  bi : ∀ x, T.bis.contains x = true → X.mg x = none
  tk : Takes X W
def Ck.blk (c : Ck) (scope : Scope) : Ck := ⟨c.N, relS scope c.sc, fun x => scope.names.lookup x == some .cell⟩
theorem Fit.blk {T : Tab} {Nv : Env'} {X : Cx} {W : WX} {c : Ck} (F : Fit T Nv X W c) (scope : Scope) (s : Shared) (H : Hp) (C : Addr) (cl : List (Str × Addr)) (fp : List Addr) : Fit T Nv (X.blk s H scope (compEnvC scope cl C X.env) fp) (fun _ _ _ _ => False) (c.blk scope) where
  n := F.n
  sc := by
    show relS scope X.env.scope = relS scope c.sc
    rw [F.sc]
  fn := fun x h => h
  cok := ⟨F.cok.calm, F.cok.nd, F.cok.un, F.cok.gd, F.cok.sm⟩
  call := F.call
  glob := F.glob
  bi := F.bi
  tk := takes0
/-! ### names -/
def visB (c : Ck) (x : Str) : Bool := match c.sc.names.lookup x with
  | some .local => true
  | some .cell => true
  | some .free => true
  | _ => false
def glB (c : Ck) (x : Str) : Bool := match c.sc.names.lookup x with
  | some .globalImplicit => true
  | _ => false
def storeB (c : Ck) (x : Str) : Bool := match c.sc.names.lookup x with
  | some .local => true
  | some .cell => c.fb x
  | _ => false
def okN (x : Str) : Bool := !(x == ("__debug__" : Str)) && !(x == ("__classdict__" : Str)) && !(x == ("__name__" : Str))
section
variable {T : Tab} {Nv : Env'} {X : Cx} {W : WX} {c : Ck} {x : Str}
theorem Fit.vis (F : Fit T Nv X W c) (h : visB c x = true) : Vis X.env.scope x := by
  unfold visB at h
  unfold Vis
  rw [F.sc]
  split at h <;> first | exact .inl ‹_› | exact .inr (.inl ‹_›) | exact .inr (.inr ‹_›) | cases h
theorem Fit.gl (F : Fit T Nv X W c) (h : glB c x = true) : Gl X x := by
  unfold glB at h
  show X.env.scope.names.lookup x = _
  rw [F.sc]
  split at h
  · assumption
  · cases h
theorem Fit.st (F : Fit T Nv X W c) (h : storeB c x = true) : L2.Loc X.env.scope x ∧ (X.fn x = true ∨ X.env.scope.names.lookup x = some .local) := by
  unfold storeB at h
  unfold L2.Loc
  rw [F.sc]
  split at h
  · exact ⟨.inl ‹_›, .inr ‹_›⟩
  · exact ⟨.inr ‹_›, .inl (F.fn x h)⟩
  · cases h
theorem okN_d (h : okN x = true) : (x == ("__debug__" : Str)) = false ∧ (x == ("__classdict__" : Str)) = false ∧ x ≠ "__name__" := by
  unfold okN at h
  simp only [Bool.and_eq_true, Bool.not_eq_true'] at h
  exact ⟨h.1.1, h.1.2, fun e => by rw [e] at h; simp at h⟩
end
/-! ### what is built in -/
theorem bt_len : bootBuiltins "len" = some (.builtin "len") := by rfl
theorem bt_tuple : bootBuiltins "tuple" = some (.type "tuple") := by rfl
theorem bt_list : bootBuiltins "list" = some (.type "list") := by rfl
theorem bt_str : bootBuiltins "str" = some (.type "str") := by rfl
theorem bt_int : bootBuiltins "int" = some (.type "int") := by rfl
theorem bt_bool : bootBuiltins "bool" = some (.type "bool") := by rfl
theorem bt_dict : bootBuiltins "dict" = some (.type "dict") := by rfl
theorem bt_all : bootBuiltins "all" = some (.builtin "all") := by rfl
theorem bt_any : bootBuiltins "any" = some (.builtin "any") := by rfl
theorem bt_repr : bootBuiltins "repr" = some (.builtin "repr") := by rfl
theorem bt_abs : bootBuiltins "abs" = some (.builtin "abs") := by rfl
theorem bt_min : bootBuiltins "min" = some (.builtin "min") := by rfl
theorem bt_max : bootBuiltins "max" = some (.builtin "max") := by rfl
theorem bt_sorted : bootBuiltins "sorted" = some (.builtin "sorted") := by rfl
theorem bt_isinstance : bootBuiltins "isinstance" = some (.builtin "isinstance") := by rfl
def biName : Bi → Option Str
  | .len => some "len"
  | .tuple => some "tuple"
  | .list => some "list"
  | .listm => some "list"
  | .all => some "all"
  | .any => some "any"
  | .str => some "str"
  | .repr => some "repr"
  | .int => some "int"
  | .abs => some "abs"
  | .min2 => some "min"
  | .max2 => some "max"
  | .sorted => some "sorted"
  | _ => none
def tyS : Ty → Str
  | .tuple => "tuple"
  | .list => "list"
  | .str => "str"
  | .int => "int"
  | .bool => "bool"
  | .dict => "dict"
theorem bt_ty (t : Ty) : bootBuiltins (tyS t) = some (.type (tyN t)) := by
  cases t
  · exact bt_tuple
  · exact bt_list
  · exact bt_str
  · exact bt_int
  · exact bt_bool
  · exact bt_dict
def meName : Me → Option Str
  | .append => some "append"
  | .extend => some "extend"
  | .pop => some "pop"
  | .popat => some "pop"
  | .join => some "join"
  | .upper => some "upper"
  | _ => none
section
variable {X : Cx} {W : WX} {e a : Expr} {es : List Expr} {x : Str} {p pos : Pos} {fs : Rho → Store → R (List Val)} {fa : Rho → Store → R Val}
theorem ge_bi {b : Bi} (C : Cok X) (hb : biName b = some x) (hg : Gl X x) (hm : X.mg x = none) (hx : okN x = true) (hp : ∀ y ∈ e :: es, pln y = true) (ha : GAs X W (e :: es) fs) :
    GE X W (.Call (.Name x p) (e :: es) [] pos) (fun ρ st => (fs ρ st).bind fun vs st1 => R.ofO (biO b vs st1)) := by
  obtain ⟨h1, _, h3⟩ := okN_d hx
  cases b with
  | len => cases hb; exact ge_builtin sb_len hg hm bt_len h3 h1 hp ha
  | tuple => cases hb; exact ge_type sb_tuple hg hm bt_tuple h3 h1 hp ha
  | list => cases hb; exact ge_type sb_list hg hm bt_list h3 h1 hp ha
  | listm => cases hb; exact ge_type sb_listm hg hm bt_list h3 h1 hp ha
  | all => cases hb; exact ge_builtin (sb_all C) hg hm bt_all h3 h1 hp ha
  | any => cases hb; exact ge_builtin (sb_any C) hg hm bt_any h3 h1 hp ha
  | str => cases hb; exact ge_type (sb_str C) hg hm bt_str h3 h1 hp ha
  | repr => cases hb; exact ge_builtin (sb_repr C) hg hm bt_repr h3 h1 hp ha
  | int => cases hb; exact ge_type sb_int hg hm bt_int h3 h1 hp ha
  | abs => cases hb; exact ge_builtin sb_abs hg hm bt_abs h3 h1 hp ha
  | min2 => cases hb; exact ge_builtin (sb_min2 C) hg hm bt_min h3 h1 hp ha
  | max2 => cases hb; exact ge_builtin (sb_max2 C) hg hm bt_max h3 h1 hp ha
  | sorted => cases hb; exact ge_builtin (sb_sorted C) hg hm bt_sorted h3 h1 hp ha
  | _ => cases hb
theorem ge_meth {m : Me} {name : Str} {apos cpos : Pos} (hm : meName m = some name) (hp : ∀ y ∈ es, pln y = true) (hb : nbase a = true) (hk : es.length < 30) (hl : (apos.endLine == cpos.line) = true) (ha : GE X W a fa) (hs : GAs X W es fs) (he : es = [] → fs = fun _ st => .ok [] st) :
    GE X W (.Call (.Attribute a name apos) es [] cpos) (fun ρ st => (fa ρ st).bind fun x st1 => if recv m st1 x = true then (fs ρ st1).bind fun vs st2 => R.ofO (meO m x vs st2) else .no) := by
  cases es with
  | nil =>
    rw [he rfl]
    cases m with
    | append => cases hm; exact ge_me0 PySem.F.plainAttrs_list PySem.F.slot_list_append PySem.F.type_list_append sm_append hb hl ha
    | extend => cases hm; exact ge_me0 PySem.F.plainAttrs_list PySem.F.slot_list_extend PySem.F.type_list_extend sm_extend hb hl ha
    | pop => cases hm; exact ge_me0 PySem.F.plainAttrs_list PySem.F.slot_list_pop PySem.F.type_list_pop sm_pop hb hl ha
    | popat => cases hm; exact ge_me0 PySem.F.plainAttrs_list PySem.F.slot_list_pop PySem.F.type_list_pop sm_popat hb hl ha
    | join => cases hm; exact ge_me0 PySem.F.plainAttrs_str PySem.F.slot_str_join PySem.F.type_str_join sm_join hb hl ha
    | upper => cases hm; exact ge_me0 PySem.F.plainAttrs_str PySem.F.slot_str_upper PySem.F.type_str_upper sm_upper hb hl ha
    | _ => cases hm
  | cons e es =>
    cases m with
    | append => cases hm; exact ge_me PySem.F.plainAttrs_list PySem.F.slot_list_append PySem.F.type_list_append sm_append hp hb hk hl ha hs (k := 0)
    | extend => cases hm; exact ge_me PySem.F.plainAttrs_list PySem.F.slot_list_extend PySem.F.type_list_extend sm_extend hp hb hk hl ha hs (k := 0)
    | pop => cases hm; exact ge_me PySem.F.plainAttrs_list PySem.F.slot_list_pop PySem.F.type_list_pop sm_pop hp hb hk hl ha hs (k := 0)
    | popat => cases hm; exact ge_me PySem.F.plainAttrs_list PySem.F.slot_list_pop PySem.F.type_list_pop sm_popat hp hb hk hl ha hs (k := 0)
    | join => cases hm; exact ge_me PySem.F.plainAttrs_str PySem.F.slot_str_join PySem.F.type_str_join sm_join hp hb hk hl ha hs (k := 0)
    | upper => cases hm; exact ge_me PySem.F.plainAttrs_str PySem.F.slot_str_upper PySem.F.type_str_upper sm_upper hp hb hk hl ha hs (k := 0)
    | _ => cases hm
def bopOp : Bop → Operator
  | .add => .Add | .sub => .Sub | .mul => .Mult | .mod => .Mod | .fdiv => .FloorDiv | .pow => .Pow | .shr => .RShift | .band => .BitAnd
theorem so_bin (o : Bop) : GO X (binaryOp (bopOp o)) (binO o) := by
  cases o
  · exact so_add
  · exact so_sub
  · exact so_mul
  · exact so_mod
  · exact so_fdiv
  · exact so_pow
  · exact so_shr
  · exact so_band
def copOp : Cop → CmpOp
  | .eq => .Eq | .ne => .NotEq | .lt => .Lt | .le => .LtE | .gt => .Gt | .ge => .GtE | .is => .Is | .isnot => .IsNot | .isin => .In | .notin => .NotIn
theorem so_cmp (C : Cok X) (o : Cop) : GO X (compareOp (copOp o)) (cmpO o) := by
  cases o
  · exact so_eq C
  · exact so_ne C
  · exact so_lt
  · exact so_le
  · exact so_gt
  · exact so_ge
  · exact so_is
  · exact so_isnot
  · exact so_in C
  · exact so_notin C
end
/-! ### the check -/
def ownN (c : Ck) (own : List Nat) : List (Str × Nat) := own.map fun i => ((c.N[i]?).getD "", i)
mutual
def tgSl : Tg → List Nat
  | .name i => [i]
  | .tup ts => tgsSl ts
  | .sub _ _ => []
def tgsSl : Tgs → List Nat
  | .nil => []
  | .cons t r => tgSl t ++ tgsSl r
end
/-- the slice ::-1 -/
def isRev : Expr → Bool
  | .Slice none none (some (.UnaryOp .USub (.Constant (.int i) _ _) _)) _ => decide (i = 1)
  | _ => false
theorem isRev_is {e : Expr} (h : isRev e = true) : ∃ k p1 p2 p3, e = .Slice none none (some (.UnaryOp .USub (.Constant (.int 1) k p1) p2)) p3 := by
  unfold isRev at h
  split at h
  · rw [of_decide_eq_true h]; exact ⟨_, _, _, _, rfl⟩
  · cases h
def isTup : Expr → Bool
  | .Tuple _ _ _ => true
  | _ => false
theorem isTup_is {e : Expr} (h : isTup e = true) : ∃ es k p, e = .Tuple es k p := by
  unfold isTup at h
  split at h
  · exact ⟨_, _, _, rfl⟩
  · cases h
mutual
def chkE (T : Tab) (c : Ck) : E → Expr → Bool
  | .var i, .Name x _ => decide (c.N[i]? = some x) && visB c x && okN x
  | .cst d, .Constant k _ _ => litOk k d
  | .glob n, .Name x _ => decide (T.globs[n]? = some (x, false)) && glB c x && okN x
  | .bin o a b, .BinOp x op y _ => decide (op = bopOp o) && chkE T c a x && chkE T c b y
  | .neg a, .UnaryOp .USub x _ => chkE T c a x
  | .cmp o a b, .Compare x [op] [y] _ => decide (op = copOp o) && pln y && chkE T c a x && chkE T c b y
  | .chain o o' a b d, .Compare x [op, op'] [y, z] _ => decide (op = copOp o) && decide (op' = copOp o') && pln z && chkE T c a x && chkE T c b y && chkE T c d z
  | .and es, .BoolOp .And vs _ => chkBs T c es vs
  | .or es, .BoolOp .Or vs _ => chkBs T c es vs
  | .not a, .UnaryOp .Not x _ => chkE T c a x
  | .ite t a b, .IfExp x y z _ => chkE T c t x && chkE T c a y && chkE T c b z
  | .tup es, .Tuple vs _ _ => chkEs T c es vs
  | .lst _ es, .List vs _ => chkEs T c es vs
  | .dct _ kvs, .Dict ks vs _ => chkKv T c kvs ks vs && decide (ks.length ≤ 15)
  | .ix a i, .Subscript x y _ => pln y && chkE T c a x && chkE T c i y
  | .slice a lo hi, .Subscript x (.Slice l u none _) _ => chkE T c a x && chkPt T c lo l && chkPt T c hi u
  | .rev a, .Subscript x y _ => isRev y && chkE T c a x
  | .inG neg a g, .Compare x [op] [.Name y _] _ => decide (op = if neg then .NotIn else .In) && decide (T.globs[g]? = some (y, true)) && glB c y && okN y && chkE T c a x
  | .ixG g i, .Subscript (.Name y _) z _ => decide (T.globs[g]? = some (y, true)) && glB c y && okN y && pln z && chkE T c i z
  | .call f args, .Call (.Name x _) vs [] _ => decide (T.fns[f]? = some x) && glB c x && okN x && chkEs T c args vs
  | .bi b args, .Call (.Name x _) vs [] _ => decide (biName b = some x) && T.bis.contains x && glB c x && okN x && !vs.isEmpty && chkEs T c args vs
  | .isi a [t], .Call (.Name x _) [y, .Name z _] [] _ => decide (x = "isinstance") && T.bis.contains x && glB c x && decide (z = tyS t) && T.bis.contains z && glB c z && okN x && okN z && pln y && chkE T c a y
  | .me m a args, .Call (.Attribute o nm apos) vs [] cpos => decide (meName m = some nm) && nbase o && (apos.endLine == cpos.line) && decide (vs.length < 30) && chkE T c a o && chkEs T c args vs
  | .comp _ elt tg it ifs own, .ListComp e [g] scope _ => decide (g.is_async = 0) && blkC c.N c.sc scope (ownN c own) && pln g.iter && ((tgSl tg).all fun i => own.contains i) && chkIt T c it g.target g.iter && chkTg T (c.blk scope) tg g.target && chkTs T (c.blk scope) ifs g.ifs && chkE T (c.blk scope) elt e
  | .frz a, e => flatT e && chkE T c a e
  | .never, _ => true
  | .comp2 _ elt tg it ifs tg1 it1 ifs1 own own1, .ListComp e [g, g1] scope _ => decide (g.is_async = 0) && decide (g1.is_async = 0) && blkC c.N c.sc scope (ownN c own) && pln g.iter && pln g1.iter && ((tgSl tg).all fun i => own.contains i) && ((tgSl tg1).all fun i => own1.contains i) && (own1.all fun i => own.contains i) &&
      chkIt T c it g.target g.iter && chkTg T (c.blk scope) tg g.target && chkTs T (c.blk scope) ifs g.ifs && chkIt T (c.blk scope) it1 g1.target g1.iter && chkTg T (c.blk scope) tg1 g1.target && chkTs T (c.blk scope) ifs1 g1.ifs && chkE T (c.blk scope) elt e
  | .lenset a, .Call (.Name x _) [.Call (.Name y _) [z] [] _] [] _ => decide (x = "len") && decide (y = "set") && T.bis.contains x && T.bis.contains y && glB c x && glB c y && pln z && chkE T c a z
  | .lrng _ a, .Call (.Name x _) [.Call (.Name y _) [z] [] _] [] _ => decide (x = "list") && decide (y = "range") && T.bis.contains x && T.bis.contains y && glB c x && glB c y && pln z && chkE T c a z
  | _, _ => false
def chkBs (T : Tab) (c : Ck) : Es → List Expr → Bool
  | .cons a .nil, [x] => chkE T c a x
  | .cons a r, x :: y :: xs => chkE T c a x && chkBs T c r (y :: xs)
  | _, _ => false
def chkPt (T : Tab) (c : Ck) : Pt → Option Expr → Bool
  | .no, none => true
  | .e a, some x => chkE T c a x
  | _, _ => false
def chkEs (T : Tab) (c : Ck) : Es → List Expr → Bool
  | .nil, [] => true
  | .cons a r, x :: xs => pln x && chkE T c a x && chkEs T c r xs
  | _, _ => false
def chkKv (T : Tab) (c : Ck) : Kvs → List (Option Expr) → List Expr → Bool
  | .nil, [], [] => true
  | .cons a b r, some x :: xs, y :: ys => chkE T c a x && chkE T c b y && chkKv T c r xs ys
  | _, _, _ => false
def chkTs (T : Tab) (c : Ck) : Es → List Expr → Bool
  | .nil, [] => true
  | .cons a .nil, [x] => chkE T c a x
  | _, _ => false
def chkIt (T : Tab) (c : Ck) : It → Expr → Expr → Bool
  | .e a, _, x => chkE T c a x
  | .rng as, _, .Call (.Name x _) vs [] _ => decide (x = "range") && T.bis.contains x && glB c x && chkEs T c as vs && (decide (vs.length = 1) || decide (vs.length = 2) || decide (vs.length = 3))
  | .enum as, tg, .Call (.Name x _) vs [] _ => decide (x = "enumerate") && T.bis.contains x && glB c x && chkEs T c as vs && isTup tg && decide (vs.length = 1)
  | .zip as, tg, .Call (.Name x _) vs [] _ => decide (x = "zip") && T.bis.contains x && glB c x && chkEs T c as vs && isTup tg && decide (vs.length = 2)
  | _, _, _ => false
def chkTg (T : Tab) (c : Ck) : Tg → Expr → Bool
  | .name i, .Name x _ => decide (c.N[i]? = some x) && storeB c x
  | .tup ts, .Tuple vs _ _ => chkTgs T c ts vs
  | .sub a i, .Subscript x y _ => pln y && chkE T c a x && chkE T c i y
  | _, _ => false
def chkTgs (T : Tab) (c : Ck) : Tgs → List Expr → Bool
  | .nil, [] => true
  | .cons t r, x :: xs => pln x && chkTg T c t x && chkTgs T c r xs
  | _, _ => false
end
end G
set_option Elab.async false
set_option linter.all false
set_option maxRecDepth 100000
set_option maxHeartbeats 1000000
/-! GO: the check of expressions is sound -/
namespace G
open PySem PySem.Spec PyProof.Rows L2
section
variable {Nv : Env'} {T : Tab} {X : Cx} {W : WX} {c : Ck} {e : Expr}
def GB (X : Cx) (W : WX) (e : Expr) (f : Rho → Store → R Val) : Prop := GE X W e f ∧ GT X W e (tr' f)
theorem gb_flat {f : Rho → Store → R Val} (h : flatT e = true) (g : GE X W e f) : GB X W e f := ⟨g, gt_of g h⟩
abbrev SndE (T : Tab) (Nv : Env') (t : E) : Prop := ∀ (X : Cx) (W : WX) (c : Ck) (e : Expr), Fit T Nv X W c → chkE T c t e = true → GB X W e (ev Nv t)
theorem and3 {a b d : Bool} (h : (a && b && d) = true) : a = true ∧ b = true ∧ d = true := by simp only [Bool.and_eq_true] at h; exact ⟨h.1.1, h.1.2, h.2⟩
theorem sn_var (i : Nat) : SndE T Nv (.var i) := fun X W c e F h => by
  have ee : ev Nv (.var i) = fun ρ st => match ρ[i]? with | some (some v) => .ok v st | _ => .no := by funext ρ st; first | (rw [ev]; done) | (rw [ev]; rfl)
  rw [ee]
  cases e <;> first | (cases h; done) | skip
  rename_i x p
  have h : (decide (c.N[i]? = some x) && visB c x && okN x) = true := h
  obtain ⟨h1, h2, h3⟩ := and3 h
  obtain ⟨d1, d2, _⟩ := okN_d h3
  exact gb_flat rfl (ge_var (by rw [F.n]; exact of_decide_eq_true h1) (F.vis h2) d1 d2)
theorem sn_cst (d : PyData) : SndE T Nv (.cst d) := fun X W c e F h => by
  have ee : ev Nv (.cst d) = fun _ st => .ok (.d d) st := by funext ρ st; first | (rw [ev]; done) | (rw [ev]; rfl)
  rw [ee]
  cases e <;> first | (cases h; done) | skip
  exact gb_flat rfl (ge_cst h)
theorem sn_glob (n : Nat) : SndE T Nv (.glob n) := fun X W c e F h => by
  cases e <;> first | (cases h; done) | skip
  rename_i x p
  have h : (decide (T.globs[n]? = some (x, false)) && glB c x && okN x) = true := h
  obtain ⟨h1, h2, h3⟩ := and3 h
  obtain ⟨d1, d2, _⟩ := okN_d h3
  obtain ⟨d, u, v, hd, m1, r1, r2⟩ := F.glob n x false (of_decide_eq_true h1)
  have ee : ev Nv (.glob n) = fun _ st => .ok (.d d) st := by funext ρ st; rw [ev, hd]
  rw [ee]
  exact gb_flat rfl (ge_glob (F.gl h2) m1 r1 d1 r2)
theorem sn_inG (neg : Bool) (a : E) (g : Nat) (ha : SndE T Nv a) : SndE T Nv (.inG neg a g) := fun X W c e F h => by
  cases e <;> first | (cases h; done) | skip
  rename_i x ops ys p
  match ops, ys, h with
  | [op], [.Name y p2], h =>
    have h : (decide (op = if neg then .NotIn else .In) && decide (T.globs[g]? = some (y, true)) && glB c y && okN y && chkE T c a x) = true := h
    simp only [Bool.and_eq_true] at h
    obtain ⟨⟨⟨⟨h1, h2⟩, h3⟩, h4⟩, h5⟩ := h
    obtain ⟨kvs, hd, hw⟩ := F.glob g y true (of_decide_eq_true h2)
    have ee : ev Nv (.inG neg a g) = mInG neg kvs (ev Nv a) := by
      funext ρ st
      rw [ev]
      unfold mInG
      congr 1
      funext v st1
      rw [hd]
      cases v with
      | d d => cases d <;> rfl
      | loc _ => rfl
      | scr _ => rfl
    rw [ee, of_decide_eq_true h1]
    exact inG_all (F.gl h3) (okN_d h4).1 hw (ha X W c _ F h5).1
theorem sn_ixG (g : Nat) (a : E) (ha : SndE T Nv a) : SndE T Nv (.ixG g a) := fun X W c e F h => by
  cases e <;> first | (cases h; done) | skip
  rename_i x y p
  cases x <;> first | (cases h; done) | skip
  rename_i z pz
  have h : (decide (T.globs[g]? = some (z, true)) && glB c z && okN z && pln y && chkE T c a y) = true := h
  simp only [Bool.and_eq_true] at h
  obtain ⟨⟨⟨⟨h2, h3⟩, h4⟩, h4'⟩, h5⟩ := h
  obtain ⟨kvs, hd, hw⟩ := F.glob g z true (of_decide_eq_true h2)
  have ee : ev Nv (.ixG g a) = fun ρ st => (ev Nv a ρ st).bind fun v st1 => match v with
    | .d (.str x) => match findD kvs x with
      | some d => .ok (.d d) st1
      | none => .no
    | _ => .no := by
    funext ρ st
    rw [ev]
    congr 1
    funext v st1
    rw [hd]
    cases v with
    | d d => cases d <;> rfl
    | loc _ => rfl
    | scr _ => rfl
  rw [ee]
  exact gb_flat rfl (ge_ixG (F.gl h3) (okN_d h4).1 hw h4' (ha X W c _ F h5).1)
abbrev SndPt (T : Tab) (Nv : Env') (t : Pt) : Prop := ∀ (X : Cx) (W : WX) (c : Ck) (o : Option Expr), Fit T Nv X W c → chkPt T c t o = true → GOp X W o (evPart Nv t)
theorem sp_no : SndPt T Nv .no := fun X W c o F h => by
  have ee : evPart Nv .no = fun _ st => .ok none st := by funext ρ st; rw [evPart]
  rw [ee]
  cases o with
  | none => exact go_none
  | some _ => cases h
theorem sp_e (a : E) (ha : SndE T Nv a) : SndPt T Nv (.e a) := fun X W c o F h => by
  have ee : evPart Nv (.e a) = fun ρ st => (ev Nv a ρ st).bind fun v st1 => match v with | .d (.int i) => .ok (some i) st1 | _ => .no := by funext ρ st; first | (rw [evPart]; done) | (rw [evPart]; rfl)
  rw [ee]
  cases o with
  | none => cases h
  | some x => exact go_some (ha X W c _ F h).1
theorem sn_slice (a : E) (lo hi : Pt) (ha : SndE T Nv a) (h1 : SndPt T Nv lo) (h2 : SndPt T Nv hi) : SndE T Nv (.slice a lo hi) := fun X W c e F h => by
  have ee : ev Nv (.slice a lo hi) = fun ρ st => (ev Nv a ρ st).bind fun x st1 => (evPart Nv lo ρ st1).bind fun l st2 => (evPart Nv hi ρ st2).bind fun u st3 => R.ofO (oSlice x l u st3) := by funext ρ st; rw [ev]
  rw [ee]
  cases e <;> first | (cases h; done) | skip
  rename_i x y p
  cases y <;> first | (cases h; done) | skip
  rename_i l u s p2
  cases s <;> first | (cases h; done) | skip
  have h : (chkE T c a x && chkPt T c lo l && chkPt T c hi u) = true := h
  obtain ⟨k1, k2, k3⟩ := and3 h
  exact gb_flat rfl (ge_slice (ha X W c _ F k1).1 (h1 X W c _ F k2) (h2 X W c _ F k3))
theorem sn_rev (a : E) (ha : SndE T Nv a) : SndE T Nv (.rev a) := fun X W c e F h => by
  have ee : ev Nv (.rev a) = mRev (ev Nv a) := by funext ρ st; rw [ev]; rfl
  rw [ee]
  cases e <;> first | (cases h; done) | skip
  rename_i x y p
  have h : (isRev y && chkE T c a x) = true := h
  rw [Bool.and_eq_true] at h
  obtain ⟨k, p1, p2, p3, rfl⟩ := isRev_is h.1
  exact gb_flat rfl (ge_rev (ha X W c _ F h.2).1)
theorem sn_bin (o : Bop) (a b : E) (ha : SndE T Nv a) (hb : SndE T Nv b) : SndE T Nv (.bin o a b) := fun X W c e F h => by
  have ee : ev Nv (.bin o a b) = mBin (binO o) (ev Nv a) (ev Nv b) := by funext ρ st; first | (rw [ev]; done) | (rw [ev]; rfl)
  rw [ee]
  cases e <;> first | (cases h; done) | skip
  rename_i x op y p
  have h : (decide (op = bopOp o) && chkE T c a x && chkE T c b y) = true := h
  obtain ⟨h1, h2, h3⟩ := and3 h
  rw [of_decide_eq_true h1]
  exact gb_flat rfl (pe_bin (so_bin o) (ha X W c _ F h2).1 (hb X W c _ F h3).1)
theorem sn_neg (a : E) (ha : SndE T Nv a) : SndE T Nv (.neg a) := fun X W c e F h => by
  have ee : ev Nv (.neg a) = fun ρ st => (ev Nv a ρ st).bind fun v st1 => match v with | .d (.int i) => .ok (.d (.int (-i))) st1 | _ => .no := by funext ρ st; first | (rw [ev]; done) | (rw [ev]; rfl)
  rw [ee]
  cases e <;> first | (cases h; done) | skip
  rename_i op x p
  cases op <;> first | (cases h; done) | skip
  exact gb_flat rfl (ge_neg (ha X W c _ F h).1)
theorem sn_cmp (o : Cop) (a b : E) (ha : SndE T Nv a) (hb : SndE T Nv b) : SndE T Nv (.cmp o a b) := fun X W c e F h => by
  have ee : ev Nv (.cmp o a b) = mBin (cmpO o) (ev Nv a) (ev Nv b) := by funext ρ st; first | (rw [ev]; done) | (rw [ev]; rfl)
  rw [ee]
  cases e <;> first | (cases h; done) | skip
  rename_i x ops ys p
  match ops, ys, h with
  | [op], [y], h =>
    have h : (decide (op = copOp o) && pln y && chkE T c a x && chkE T c b y) = true := h
    simp only [Bool.and_eq_true] at h
    obtain ⟨⟨⟨h1, h2⟩, h3⟩, h4⟩ := h
    rw [of_decide_eq_true h1]
    exact ⟨ge_cmp (so_cmp F.cok o) (ha X W c _ F h3).1 (hb X W c _ F h4).1 h2, gt_cmp (cmp_bool o) (so_cmp F.cok o) (ha X W c _ F h3).1 (hb X W c _ F h4).1 h2⟩
  | [], _, h => cases h
  | [_], [], h => cases h
  | [_], _ :: _ :: _, h => cases h
  | _ :: _ :: _, _, h => cases h
theorem sn_chain (o o' : Cop) (a b d : E) (ha : SndE T Nv a) (hb : SndE T Nv b) (hd : SndE T Nv d) : SndE T Nv (.chain o o' a b d) := fun X W c e F h => by
  have ee : ev Nv (.chain o o' a b d) = mChain (cmpO o) (cmpO o') (ev Nv a) (ev Nv b) (ev Nv d) := by funext ρ st; first | (rw [ev]; done) | (rw [ev]; rfl)
  rw [ee]
  cases e <;> first | (cases h; done) | skip
  rename_i x ops ys p
  match ops, ys, h with
  | [op, op'], [y, z], h =>
    have h : (decide (op = copOp o) && decide (op' = copOp o') && pln z && chkE T c a x && chkE T c b y && chkE T c d z) = true := h
    simp only [Bool.and_eq_true] at h
    obtain ⟨⟨⟨⟨⟨h1, h1'⟩, h2⟩, h3⟩, h4⟩, h5⟩ := h
    rw [of_decide_eq_true h1, of_decide_eq_true h1']
    exact ⟨ge_chain (so_cmp F.cok o) (so_cmp F.cok o') (ha X W c _ F h3).1 (hb X W c _ F h4).1 (hd X W c _ F h5).1 h2, gt_chain (cmp_bool o') (so_cmp F.cok o) (so_cmp F.cok o') (ha X W c _ F h3).1 (hb X W c _ F h4).1 (hd X W c _ F h5).1 h2⟩
  | [], _, h => cases h
  | [_], _, h => cases h
  | [_, _], [], h => cases h
  | [_, _], [_], h => cases h
  | [_, _], _ :: _ :: _ :: _, h => cases h
  | _ :: _ :: _ :: _, _, h => cases h
theorem sn_not (a : E) (ha : SndE T Nv a) : SndE T Nv (.not a) := fun X W c e F h => by
  have ee : ev Nv (.not a) = fun ρ st => (ev Nv a ρ st).bind fun v st1 => (truthR v st1).bind fun b st2 => .ok (.d (.bool (!b))) st2 := by funext ρ st; first | (rw [ev]; done) | (rw [ev]; rfl)
  rw [ee]
  cases e <;> first | (cases h; done) | skip
  rename_i op x p
  cases op <;> first | (cases h; done) | skip
  exact ⟨ge_not (ha X W c _ F h).1, gt_not (ha X W c _ F h).2⟩
theorem sn_ite (t a b : E) (ht : SndE T Nv t) (ha : SndE T Nv a) (hb : SndE T Nv b) : SndE T Nv (.ite t a b) := fun X W c e F h => by
  have ee : ev Nv (.ite t a b) = fun ρ st => (ev Nv t ρ st).bind fun v st1 => (truthR v st1).bind fun k st2 => if k then ev Nv a ρ st2 else ev Nv b ρ st2 := by funext ρ st; first | (rw [ev]; done) | (rw [ev]; rfl)
  rw [ee]
  cases e <;> first | (cases h; done) | skip
  rename_i x y z p
  have h : (chkE T c t x && chkE T c a y && chkE T c b z) = true := h
  obtain ⟨h1, h2, h3⟩ := and3 h
  exact ⟨ge_ite (ht X W c _ F h1).2 (ha X W c _ F h2).1 (hb X W c _ F h3).1, gt_ite (ht X W c _ F h1).2 (ha X W c _ F h2).2 (hb X W c _ F h3).2⟩
theorem sn_ix (a b : E) (ha : SndE T Nv a) (hb : SndE T Nv b) : SndE T Nv (.ix a b) := fun X W c e F h => by
  have ee : ev Nv (.ix a b) = mBin oIx (ev Nv a) (ev Nv b) := by funext ρ st; first | (rw [ev]; done) | (rw [ev]; rfl)
  rw [ee]
  cases e <;> first | (cases h; done) | skip
  rename_i x y p
  have h : (pln y && chkE T c a x && chkE T c b y) = true := h
  obtain ⟨h1, h2, h3⟩ := and3 h
  exact gb_flat rfl (ge_ix F.cok h1 (ha X W c _ F h2).1 (hb X W c _ F h3).1)
/-! lists of them -/
abbrev SndEs (T : Tab) (Nv : Env') (t : Es) : Prop := ∀ (X : Cx) (W : WX) (c : Ck) (es : List Expr), Fit T Nv X W c → chkEs T c t es = true → GAs X W es (evs Nv t) ∧ (∀ y ∈ es, pln y = true) ∧ (∀ ρ st vs st1, evs Nv t ρ st = .ok vs st1 → vs.length = es.length) ∧ (es = [] → evs Nv t = fun _ st => .ok [] st)
theorem sn_nil : SndEs T Nv .nil := fun X W c es F h => by
  have ee : evs Nv .nil = fun _ st => .ok [] st := by funext ρ st; rw [evs]
  cases es with
  | nil =>
    rw [ee]
    refine ⟨ga_nil, fun y hy => ?_, fun ρ st vs st1 q => ?_, fun _ => rfl⟩
    · cases hy
    · have q : R.ok ([] : List Val) st = .ok vs st1 := q
      cases q; rfl
  | cons _ _ => cases h
theorem sn_cons (a : E) (r : Es) (ha : SndE T Nv a) (hr : SndEs T Nv r) : SndEs T Nv (.cons a r) := fun X W c es F h => by
  have ee : evs Nv (.cons a r) = fun ρ st => (ev Nv a ρ st).bind fun v st1 => (evs Nv r ρ st1).bind fun vs st2 => .ok (v :: vs) st2 := by funext ρ st; rw [evs]
  cases es with
  | nil => cases h
  | cons x xs =>
    have h : (pln x && chkE T c a x && chkEs T c r xs) = true := h
    obtain ⟨h1, h2, h3⟩ := and3 h
    obtain ⟨q1, q2, q3, _⟩ := hr X W c xs F h3
    rw [ee]
    refine ⟨ga_cons h1 (ha X W c _ F h2).1 q1, fun y hy => ?_, fun ρ st vs st1 e => ?_, fun z => nomatch z⟩
    · rcases List.mem_cons.mp hy with z | z
      · rw [z]; exact h1
      · exact q2 y z
    · obtain ⟨v, s1, e1, e2⟩ := R.bind_ok e
      obtain ⟨us, s2, e3, e4⟩ := R.bind_ok e2
      cases e4
      rw [List.length_cons, List.length_cons, q3 _ _ _ _ e3]
abbrev SndBs (T : Tab) (Nv : Env') (t : Es) : Prop := ∀ (X : Cx) (W : WX) (c : Ck) (es : List Expr) (p : Pos), Fit T Nv X W c → chkBs T c t es = true →
  (GE X W (.BoolOp .And es p) (evAnd Nv t) ∧ GTw X W (.BoolOp .And es p) (tr' (evAnd Nv t))) ∧ (GE X W (.BoolOp .Or es p) (evOr Nv t) ∧ GTw X W (.BoolOp .Or es p) (tr' (evOr Nv t)))
theorem sb_nil : SndBs T Nv .nil := fun X W c es p F h => by cases es <;> cases h
theorem sb_cons (a : E) (r : Es) (ha : SndE T Nv a) (hr : SndBs T Nv r) : SndBs T Nv (.cons a r) := fun X W c es p F h => by
  cases r with
  | nil =>
    have e1 : evAnd Nv (.cons a .nil) = ev Nv a := by funext ρ st; rw [evAnd]
    have e2 : evOr Nv (.cons a .nil) = ev Nv a := by funext ρ st; rw [evOr]
    match es, h with
    | [x], h =>
      obtain ⟨q1, q2⟩ := ha X W c x F h
      rw [e1, e2]
      exact ⟨⟨ge_one q1, gw_and1 q2⟩, ⟨ge_one q1, gw_or1 q2⟩⟩
    | [], h => cases h
    | x :: y :: xs, h =>
      have h : (chkE T c a x && chkBs T c .nil (y :: xs)) = true := h
      rw [Bool.and_eq_true] at h
      cases h.2
  | cons b r =>
    have e1 : evAnd Nv (.cons a (.cons b r)) = mAnd (ev Nv a) (evAnd Nv (.cons b r)) := by funext ρ st; rw [evAnd] <;> first | rfl | (intro z; cases z)
    have e2 : evOr Nv (.cons a (.cons b r)) = mOr (ev Nv a) (evOr Nv (.cons b r)) := by funext ρ st; rw [evOr] <;> first | rfl | (intro z; cases z)
    match es, h with
    | [], h => cases h
    | [x], h => cases h
    | x :: y :: xs, h =>
      have h : (chkE T c a x && chkBs T c (.cons b r) (y :: xs)) = true := h
      rw [Bool.and_eq_true] at h
      obtain ⟨q1, q2⟩ := ha X W c x F h.1
      obtain ⟨⟨r1, r2⟩, ⟨r3, r4⟩⟩ := hr X W c (y :: xs) p F h.2
      rw [e1, e2]
      exact ⟨⟨ge_and q1 r1, gw_and q2 r2⟩, ⟨ge_or q1 r3, gw_or q2 r4⟩⟩
theorem sn_and (es : Es) (h : SndBs T Nv es) : SndE T Nv (.and es) := fun X W c e F hk => by
  have ee : ev Nv (.and es) = evAnd Nv es := by funext ρ st; first | (rw [ev]; done) | (rw [ev]; rfl)
  rw [ee]
  cases e <;> first | (cases hk; done) | skip
  rename_i op vs p
  cases op <;> first | (cases hk; done) | skip
  obtain ⟨⟨q1, q2⟩, _⟩ := h X W c vs p F hk
  exact ⟨q1, gt_w q2⟩
theorem sn_or (es : Es) (h : SndBs T Nv es) : SndE T Nv (.or es) := fun X W c e F hk => by
  have ee : ev Nv (.or es) = evOr Nv es := by funext ρ st; first | (rw [ev]; done) | (rw [ev]; rfl)
  rw [ee]
  cases e <;> first | (cases hk; done) | skip
  rename_i op vs p
  cases op <;> first | (cases hk; done) | skip
  obtain ⟨_, ⟨q1, q2⟩⟩ := h X W c vs p F hk
  exact ⟨q1, gt_w q2⟩
theorem sn_tup (es : Es) (h : SndEs T Nv es) : SndE T Nv (.tup es) := fun X W c e F hk => by
  have ee : ev Nv (.tup es) = fun ρ st => (evs Nv es ρ st).bind fun vs st1 => match datas vs with
    | some ds => if ds.length ≤ sizeLine then .ok (.d (.tuple ds)) st1 else .no
    | none => .no := by funext ρ st; first | (rw [ev]; done) | (rw [ev]; rfl)
  rw [ee]
  cases e <;> first | (cases hk; done) | skip
  rename_i vs k p
  exact gb_flat rfl (ge_tup (h X W c vs F hk).1)
theorem sn_lst (mu : Bool) (es : Es) (h : SndEs T Nv es) : SndE T Nv (.lst mu es) := fun X W c e F hk => by
  have ee : ev Nv (.lst mu es) = fun ρ st => (evs Nv es ρ st).bind fun vs st1 => mkList mu vs st1 := by funext ρ st; first | (rw [ev]; done) | (rw [ev]; rfl)
  rw [ee]
  cases e <;> first | (cases hk; done) | skip
  rename_i vs p
  exact gb_flat rfl (ge_lst (h X W c vs F hk).1)
theorem sn_call (f : Nat) (es : Es) (h : SndEs T Nv es) : SndE T Nv (.call f es) := fun X W c e F hk => by
  have ee : ev Nv (.call f es) = fun ρ st => (evs Nv es ρ st).bind fun vs st1 => Nv.fns f vs st1 := by funext ρ st; first | (rw [ev]; done) | (rw [ev]; rfl)
  rw [ee]
  cases e <;> first | (cases hk; done) | skip
  rename_i fe vs ks p
  cases fe <;> first | (cases hk; done) | skip
  rename_i x px
  cases ks <;> first | (cases hk; done) | skip
  have hk : (decide (T.fns[f]? = some x) && glB c x && okN x && chkEs T c es vs) = true := hk
  simp only [Bool.and_eq_true] at hk
  obtain ⟨⟨⟨h1, h2⟩, h3⟩, h5⟩ := hk
  obtain ⟨q1, q2, q3, q4⟩ := h X W c vs F h5
  obtain ⟨fa, fd, ps, k, m1, m2, m3, m4, m5, m6⟩ := F.call f x (of_decide_eq_true h1)
  cases vs with
  | nil =>
    rw [q4 rfl]
    exact gb_flat rfl (ge_call0 F.cok F.tk m4 m6 m5 (F.gl h2) m1 m2 m3 (okN_d h3).1)
  | cons v vs => exact gb_flat rfl (ge_call F.cok F.tk m4 m6 m5 (F.gl h2) m1 m2 m3 (okN_d h3).1 q2 q1)
theorem sn_bi (b : Bi) (es : Es) (h : SndEs T Nv es) : SndE T Nv (.bi b es) := fun X W c e F hk => by
  have ee : ev Nv (.bi b es) = fun ρ st => (evs Nv es ρ st).bind fun vs st1 => R.ofO (biO b vs st1) := by funext ρ st; first | (rw [ev]; done) | (rw [ev]; rfl)
  rw [ee]
  cases e <;> first | (cases hk; done) | skip
  rename_i fe vs ks p
  cases fe <;> first | (cases hk; done) | skip
  rename_i x px
  cases ks <;> first | (cases hk; done) | skip
  have hk : (decide (biName b = some x) && T.bis.contains x && glB c x && okN x && !vs.isEmpty && chkEs T c es vs) = true := hk
  simp only [Bool.and_eq_true] at hk
  obtain ⟨⟨⟨⟨⟨h1, h2⟩, h3⟩, h4⟩, h5⟩, h6⟩ := hk
  obtain ⟨q1, q2, q3, _⟩ := h X W c vs F h6
  cases vs with
  | nil => cases h5
  | cons v vs => exact gb_flat rfl (ge_bi F.cok (of_decide_eq_true h1) (F.gl h3) (F.bi x h2) h4 q2 q1)
theorem sn_me (m : Me) (a : E) (es : Es) (ha : SndE T Nv a) (h : SndEs T Nv es) : SndE T Nv (.me m a es) := fun X W c e F hk => by
  have ee : ev Nv (.me m a es) = fun ρ st => (ev Nv a ρ st).bind fun x st1 => if recv m st1 x = true then (evs Nv es ρ st1).bind fun vs st2 => R.ofO (meO m x vs st2) else .no := by funext ρ st; first | (rw [ev]; done) | (rw [ev]; rfl)
  rw [ee]
  cases e <;> first | (cases hk; done) | skip
  rename_i fe vs ks p
  cases fe <;> first | (cases hk; done) | skip
  rename_i o nm apos
  cases ks <;> first | (cases hk; done) | skip
  have hk : (decide (meName m = some nm) && nbase o && (apos.endLine == p.line) && decide (vs.length < 30) && chkE T c a o && chkEs T c es vs) = true := hk
  simp only [Bool.and_eq_true] at hk
  obtain ⟨⟨⟨⟨⟨h1, h2⟩, h3⟩, h4⟩, h5⟩, h6⟩ := hk
  obtain ⟨q1, q2, q3, q4⟩ := h X W c vs F h6
  exact gb_flat rfl (ge_meth (of_decide_eq_true h1) q2 h2 (of_decide_eq_true h4) h3 (ha X W c _ F h5).1 q1 q4)
theorem sn_isi (a : E) (ts : List Ty) (ha : SndE T Nv a) : SndE T Nv (.isi a ts) := fun X W c e F hk => by
  cases ts with
  | nil => cases e <;> cases hk
  | cons t ts =>
  cases ts with
  | cons _ _ => cases e <;> cases hk
  | nil =>
  have ee : ev Nv (.isi a [t]) = fun ρ st => (ev Nv a ρ st).bind fun v st1 => R.ofO ((isiO st1 v [t]).bind fun k => bl st1 k) := by funext ρ st; first | (rw [ev]; done) | (rw [ev]; rfl)
  rw [ee]
  cases e <;> first | (cases hk; done) | skip
  rename_i fe vs ks p
  cases fe <;> first | (cases hk; done) | skip
  rename_i x px
  match vs, ks, hk with
  | [y, .Name z pz], [], hk =>
    have hk : (decide (x = "isinstance") && T.bis.contains x && glB c x && decide (z = tyS t) && T.bis.contains z && glB c z && okN x && okN z && pln y && chkE T c a y) = true := hk
    simp only [Bool.and_eq_true] at hk
    obtain ⟨⟨⟨⟨⟨⟨⟨⟨⟨h1, h2⟩, h3⟩, h4⟩, h5⟩, h6⟩, h7⟩, h8⟩, h9⟩, h10⟩ := hk
    have ex := of_decide_eq_true h1
    have ez := of_decide_eq_true h4
    obtain ⟨d1, _, d3⟩ := okN_d h7
    obtain ⟨d4, _, d6⟩ := okN_d h8
    exact gb_flat rfl (ge_isi1 (F.gl h3) (F.bi x h2) (by rw [ex]; exact bt_isinstance) d3 d1 (F.gl h6) (F.bi z h5) (by rw [ez]; exact bt_ty t) d6 d4 h9 (ha X W c _ F h10).1)
theorem sn_frz (a : E) (ha : SndE T Nv a) : SndE T Nv (.frz a) := fun X W c e F hk => by
  have ee : ev Nv (.frz a) = mFrz (ev Nv a) := by funext ρ st; first | (rw [ev]; done) | (rw [ev]; rfl)
  rw [ee]
  have hk : (flatT e && chkE T c a e) = true := by cases e <;> exact hk
  rw [Bool.and_eq_true] at hk
  exact gb_flat hk.1 (ge_frz (ha X W c _ F hk.2).1)
abbrev SndKv (T : Tab) (Nv : Env') (t : Kvs) : Prop := ∀ (X : Cx) (W : WX) (c : Ck) (p : Pos) (ks : List (Option Expr)) (vs : List Expr), Fit T Nv X W c → chkKv T c t ks vs = true → GPs X W p ks vs (evKv Nv t) ∧ (ks = [] → vs = [] ∧ evKv Nv t = fun _ st => .ok ([], []) st)
theorem sk_nil : SndKv T Nv .nil := fun X W c p ks vs F h => by
  have ee : evKv Nv .nil = fun _ st => .ok ([], []) st := by funext ρ st; rw [evKv]
  rw [ee]
  match ks, vs, h with
  | [], [], _ => exact ⟨gp_nil, fun _ => ⟨rfl, rfl⟩⟩
  | [], _ :: _, h => cases h
  | _ :: _, _, h => cases h
theorem sk_cons (a b : E) (r : Kvs) (ha : SndE T Nv a) (hb : SndE T Nv b) (hr : SndKv T Nv r) : SndKv T Nv (.cons a b r) := fun X W c p ks vs F h => by
  have ee : evKv Nv (.cons a b r) = fun ρ st => (ev Nv a ρ st).bind fun x st1 => (ev Nv b ρ st1).bind fun y st2 => (evKv Nv r ρ st2).bind fun p st3 => .ok (x :: p.1, y :: p.2) st3 := by funext ρ st; rw [evKv]
  rw [ee]
  match ks, vs, h with
  | some x :: xs, y :: ys, h =>
    have h : (chkE T c a x && chkE T c b y && chkKv T c r xs ys) = true := h
    obtain ⟨h1, h2, h3⟩ := and3 h
    exact ⟨gp_cons (ha X W c _ F h1).1 (hb X W c _ F h2).1 (hr X W c p xs ys F h3).1, fun z => nomatch z⟩
  | [], _, h => cases h
  | none :: _, _, h => cases h
  | some _ :: _, [], h => cases h
theorem sn_dct (mu : Bool) (kvs : Kvs) (hk : SndKv T Nv kvs) : SndE T Nv (.dct mu kvs) := fun X W c e F h => by
  have ee : ev Nv (.dct mu kvs) = fun ρ st => (evKv Nv kvs ρ st).bind fun p st1 => mkDict mu p.1 p.2 st1 := by funext ρ st; rw [ev]
  rw [ee]
  cases e <;> first | (cases h; done) | skip
  rename_i ks vs p
  have h : (chkKv T c kvs ks vs && decide (ks.length ≤ 15)) = true := h
  rw [Bool.and_eq_true] at h
  obtain ⟨q1, q2⟩ := hk X W c p ks vs F h.1
  cases ks with
  | nil =>
    obtain ⟨rfl, e2⟩ := q2 rfl
    rw [e2]
    exact gb_flat rfl ge_dct0
  | cons k ks => exact gb_flat rfl (ge_dct q1 (by simp) (of_decide_eq_true h.2))
/-! targets -/
abbrev SndTg (T : Tab) (Nv : Env') (t : Tg) : Prop := (∀ (X : Cx) (W : WX) (c : Ck) (e : Expr), Fit T Nv X W c → chkTg T c t e = true → PG X e (DG (gx X) (tgSl t) (asg Nv t))) ∧ ∀ x ρ st ρ1 st1, asg Nv t x ρ st = .ok ρ1 st1 → ρ1.length = ρ.length
abbrev SndTgs (T : Tab) (Nv : Env') (t : Tgs) : Prop := (∀ (X : Cx) (W : WX) (c : Ck) (es : List Expr), Fit T Nv X W c → chkTgs T c t es = true → PGs X es (DGs (gx X) (tgsSl t) (asgs Nv t)) ∧ (∀ y ∈ es, pln y = true) ∧ ∀ xs ρ st ρ1 st1, asgs Nv t xs ρ st = .ok ρ1 st1 → xs.length = es.length) ∧
  ∀ x ρ st ρ1 st1, asgs Nv t x ρ st = .ok ρ1 st1 → ρ1.length = ρ.length
theorem st_name (i : Nat) : SndTg T Nv (.name i) := by
  have ee : asg Nv (.name i) = fun v ρ st => if i < ρ.length then .ok (ρ.set i (some v)) st else .no := by funext v ρ st; rw [asg]
  refine ⟨fun X W c e F h => ?_, fun x ρ st ρ1 st1 h => ?_⟩
  · rw [ee]
    cases e <;> first | (cases h; done) | skip
    rename_i x p
    have h : (decide (c.N[i]? = some x) && storeB c x) = true := h
    rw [Bool.and_eq_true] at h
    obtain ⟨h1, h2⟩ := F.st h.2
    exact gg_name F.cok (by rw [F.n]; exact of_decide_eq_true h.1) h1 h2
  · rw [ee] at h
    dsimp only at h
    split at h
    · cases h; simp
    · cases h
theorem st_tup (ts : Tgs) (ht : SndTgs T Nv ts) : SndTg T Nv (.tup ts) := by
  have ee : asg Nv (.tup ts) = fun v ρ st => match v with | .d (.tuple xs) => asgs Nv ts (xs.map Val.d) ρ st | _ => .no := by
    funext v ρ st
    cases v with
    | d d => cases d <;> rfl
    | loc _ => rfl
    | scr _ => rfl
  refine ⟨fun X W c e F h => ?_, fun x ρ st ρ1 st1 h => ?_⟩
  · rw [ee]
    cases e <;> first | (cases h; done) | skip
    rename_i vs k p
    obtain ⟨q1, q2, q3⟩ := ht.1 X W c vs F h
    exact gg_tup F.cok q2 q1 q3
  · rw [ee] at h
    dsimp only at h
    split at h
    · exact ht.2 _ _ _ _ _ h
    · cases h
theorem st_sub (a b : E) (ha : SndE T Nv a) (hb : SndE T Nv b) : SndTg T Nv (.sub a b) := by
  have ee : asg Nv (.sub a b) = fun v ρ st => (ev Nv a ρ st).bind fun o st1 => (ev Nv b ρ st1).bind fun k st2 => match setO o k v st2 with
    | some st3 => .ok ρ st3
    | none => .no := by funext v ρ st; first | (rw [asg]; done) | (rw [asg]; rfl)
  refine ⟨fun X W c e F h => ?_, fun x ρ st ρ1 st1 h => ?_⟩
  · rw [ee]
    cases e <;> first | (cases h; done) | skip
    rename_i x y p
    have h : (pln y && chkE T c a x && chkE T c b y) = true := h
    obtain ⟨h1, h2, h3⟩ := and3 h
    exact gg_sub F.cok h1 (ha X W c _ F h2).1 (hb X W c _ F h3).1
  · rw [ee] at h
    obtain ⟨v1, s1, _, h⟩ := R.bind_ok h
    obtain ⟨v2, s2, _, h⟩ := R.bind_ok h
    try dsimp only at h
    split at h
    · cases h; rfl
    · cases h
theorem sg_nil : SndTgs T Nv .nil := by
  have ee : asgs Nv .nil = fun vs ρ st => match vs with | [] => .ok ρ st | _ => .no := by
    funext vs ρ st
    cases vs <;> rfl
  refine ⟨fun X W c es F h => ?_, fun x ρ st ρ1 st1 h => ?_⟩
  · cases es with
    | cons _ _ => cases h
    | nil =>
      rw [ee]
      refine ⟨gs_nil, fun y hy => ?_, fun xs ρ st ρ1 st1 h => ?_⟩
      · cases hy
      · try dsimp only at h
        split at h
        · rfl
        · cases h
  · rw [ee] at h
    try dsimp only at h
    split at h
    · cases h; rfl
    · cases h
theorem sg_cons (t : Tg) (r : Tgs) (ht : SndTg T Nv t) (hr : SndTgs T Nv r) : SndTgs T Nv (.cons t r) := by
  have ee : asgs Nv (.cons t r) = fun vs ρ st => match vs with | v :: vs => (asg Nv t v ρ st).bind fun ρ1 st1 => asgs Nv r vs ρ1 st1 | [] => .no := by
    funext vs ρ st
    cases vs <;> rfl
  refine ⟨fun X W c es F h => ?_, fun x ρ st ρ1 st1 h => ?_⟩
  · cases es with
    | nil => cases h
    | cons x xs =>
      have h : (pln x && chkTg T c t x && chkTgs T c r xs) = true := h
      obtain ⟨h1, h2, h3⟩ := and3 h
      obtain ⟨q1, q2, q3⟩ := hr.1 X W c xs F h3
      rw [ee]
      refine ⟨gs_cons h1 (ht.1 X W c x F h2) q1, fun y hy => ?_, fun vs ρ st ρ1 st1 h => ?_⟩
      · rcases List.mem_cons.mp hy with z | z
        · rw [z]; exact h1
        · exact q2 y z
      · try dsimp only at h
        split at h
        · obtain ⟨ρ2, s2, _, e2⟩ := R.bind_ok h
          rw [List.length_cons, List.length_cons, q3 _ _ _ _ _ e2]
        · cases h
  · rw [ee] at h
    try dsimp only at h
    split at h
    · obtain ⟨ρ2, s2, e1, e2⟩ := R.bind_ok h
      exact (hr.2 _ _ _ _ _ e2).trans (ht.2 _ _ _ _ _ e1)
    · cases h
/-! what is walked over; tests -/
abbrev SndIt (T : Tab) (Nv : Env') (t : It) : Prop := ∀ (X : Cx) (W : WX) (c : Ck) (tg e : Expr), Fit T Nv X W c → chkIt T c t tg e = true → GIt X W tg e (evIt Nv t)
theorem si_e (a : E) (ha : SndE T Nv a) : SndIt T Nv (.e a) := fun X W c tg e F h => by
  have ee : evIt Nv (.e a) = fun ρ st => (ev Nv a ρ st).bind fun v st1 => ofOpt (seqItems v st1) st1 := by funext ρ st; rw [evIt]
  rw [ee]
  have h : chkE T c a e = true := h
  exact gi_seq (ha X W c _ F h).1
theorem si_rng (es : Es) (hs : SndEs T Nv es) : SndIt T Nv (.rng es) := fun X W c tg e F h => by
  have ee : evIt Nv (.rng es) = fun ρ st => (evs Nv es ρ st).bind fun vs st1 => ofOpt (rngO vs) st1 := by funext ρ st; rw [evIt]
  rw [ee]
  cases e <;> first | (cases h; done) | skip
  rename_i fe vs ks p
  cases fe <;> first | (cases h; done) | skip
  rename_i x px
  cases ks <;> first | (cases h; done) | skip
  have h : (decide (x = "range") && T.bis.contains x && glB c x && chkEs T c es vs && (decide (vs.length = 1) || decide (vs.length = 2) || decide (vs.length = 3))) = true := h
  simp only [Bool.and_eq_true, Bool.or_eq_true, decide_eq_true_eq] at h
  obtain ⟨⟨⟨⟨rfl, h2⟩, h3⟩, h4⟩, h5⟩ := h
  obtain ⟨q1, q2, q3, _⟩ := hs X W c vs F h4
  exact gi_rng (F.gl h3) (F.bi _ h2) q2 (by rcases h5 with (h5 | h5) | h5 <;> simp [h5]) q1 q3
theorem si_enum (es : Es) (hs : SndEs T Nv es) : SndIt T Nv (.enum es) := fun X W c tg e F h => by
  have ee : evIt Nv (.enum es) = fun ρ st => (evs Nv es ρ st).bind fun vs st1 => ofOpt (enumO vs st1) st1 := by funext ρ st; rw [evIt]
  rw [ee]
  cases e <;> first | (cases h; done) | skip
  rename_i fe vs ks p
  cases fe <;> first | (cases h; done) | skip
  rename_i x px
  cases ks <;> first | (cases h; done) | skip
  have h : (decide (x = "enumerate") && T.bis.contains x && glB c x && chkEs T c es vs && isTup tg && decide (vs.length = 1)) = true := h
  simp only [Bool.and_eq_true, decide_eq_true_eq] at h
  obtain ⟨⟨⟨⟨⟨rfl, h2⟩, h3⟩, h4⟩, h5⟩, h6⟩ := h
  obtain ⟨q1, q2, q3, _⟩ := hs X W c vs F h4
  obtain ⟨ts, k, pt, rfl⟩ := isTup_is h5
  match vs, h6, q1, q2 with
  | [v], _, q1, q2 => exact gi_enum (F.gl h3) (F.bi _ h2) (q2 v (by simp)) q1
theorem si_zip (es : Es) (hs : SndEs T Nv es) : SndIt T Nv (.zip es) := fun X W c tg e F h => by
  have ee : evIt Nv (.zip es) = fun ρ st => (evs Nv es ρ st).bind fun vs st1 => ofOpt (zipO vs st1) st1 := by funext ρ st; rw [evIt]
  rw [ee]
  cases e <;> first | (cases h; done) | skip
  rename_i fe vs ks p
  cases fe <;> first | (cases h; done) | skip
  rename_i x px
  cases ks <;> first | (cases h; done) | skip
  have h : (decide (x = "zip") && T.bis.contains x && glB c x && chkEs T c es vs && isTup tg && decide (vs.length = 2)) = true := h
  simp only [Bool.and_eq_true, decide_eq_true_eq] at h
  obtain ⟨⟨⟨⟨⟨rfl, h2⟩, h3⟩, h4⟩, h5⟩, h6⟩ := h
  obtain ⟨q1, q2, q3, _⟩ := hs X W c vs F h4
  obtain ⟨ts, k, pt, rfl⟩ := isTup_is h5
  match vs, h6, q1, q2 with
  | [v, u], _, q1, q2 => exact gi_zip (F.gl h3) (F.bi _ h2) (q2 v (by simp)) (q2 u (by simp)) q1
abbrev SndTs (T : Tab) (Nv : Env') (t : Es) : Prop := ∀ (X : Cx) (W : WX) (c : Ck) (es : List Expr), Fit T Nv X W c → chkTs T c t es = true → PTs X es (DT (gx X) W (evTests Nv t))
theorem sts_nil : SndTs T Nv .nil := fun X W c es F h => by
  have ee : evTests Nv .nil = fun _ st => .ok true st := by funext ρ st; rw [evTests]
  cases es with
  | nil => rw [ee]; exact gts_nil
  | cons _ _ => cases h
theorem sts_one (a : E) (ha : SndE T Nv a) : SndTs T Nv (.cons a .nil) := fun X W c es F h => by
  have ee : evTests Nv (.cons a .nil) = tr' (ev Nv a) := by funext ρ st; rw [evTests]; rfl
  match es, h with
  | [x], h => rw [ee]; exact gts_one (ha X W c _ F h).2
  | [], h => cases h
  | _ :: _ :: _, h => cases h
theorem sts_two (a b : E) (r : Es) : SndTs T Nv (.cons a (.cons b r)) := fun X W c es F h => by
  match es, h with
  | [x], h => cases h
  | [], h => cases h
  | _ :: _ :: _, h => cases h
theorem own_ix {c : Ck} {scope : Scope} {own : List Nat} (h : blkC c.N c.sc scope (ownN c own) = true) : (ownN c own).map (·.2) = own := by
  unfold ownN
  rw [List.map_map]
  conv => rhs; rw [← List.map_id own]
  rfl
theorem sn_comp (mu : Bool) (elt : E) (tg : Tg) (it : It) (ifs : Es) (own : List Nat) (h1 : SndE T Nv elt) (h2 : SndTg T Nv tg) (h3 : SndIt T Nv it) (h4 : SndTs T Nv ifs) : SndE T Nv (.comp mu elt tg it ifs own) := fun X W c e F h => by
  have ee : ev Nv (.comp mu elt tg it ifs own) = mComp mu (evIt Nv it) (asg Nv tg) (evTests Nv ifs) (ev Nv elt) own := by funext ρ st; rw [ev]; rfl
  rw [ee]
  cases e <;> first | (cases h; done) | skip
  rename_i x gs scope p
  cases gs with
  | nil => cases h
  | cons g gs =>
  cases gs with
  | cons _ _ => cases h
  | nil =>
  obtain ⟨tg', iter, ifs', n⟩ := g
  have h : (decide (n = 0) && blkC c.N c.sc scope (ownN c own) && pln iter && ((tgSl tg).all fun i => own.contains i) && chkIt T c it tg' iter && chkTg T (c.blk scope) tg tg' && chkTs T (c.blk scope) ifs ifs' && chkE T (c.blk scope) elt x) = true := h
  simp only [Bool.and_eq_true, decide_eq_true_eq] at h
  obtain ⟨⟨⟨⟨⟨⟨⟨rfl, k1⟩, k2⟩, k3⟩, k4⟩, k5⟩, k6⟩, k7⟩ := h
  have ok := blkOk_by k1
  rw [← F.n, ← F.sc] at ok
  have hx := own_ix k1
  have g := ge_comp (mu := mu) (W := W) (W' := fun _ _ _ _ => False) (pos := p) F.cok k2 (h3 X W c tg' iter F k4) ok (fun s H C cl fp => h2.1 _ _ _ tg' (F.blk scope s H C cl fp) k5) (fun s H C cl fp => h4 _ _ _ ifs' (F.blk scope s H C cl fp) k6) (fun s H C cl fp => (h1 _ _ _ x (F.blk scope s H C cl fp) k7).1)
    (fun i hi => by
      rw [hx]
      have := List.all_eq_true.mp k3 i hi
      simpa using this) h2.2
  rw [hx] at g
  exact gb_flat rfl g
theorem sn_never : SndE T Nv .never := fun X W c e F h => by
  have ee : ev Nv .never = fun _ _ => .no := by funext ρ st; rw [ev]
  rw [ee]
  exact ⟨ge_never, gt_never⟩
theorem sn_comp2 (mu : Bool) (elt : E) (tg : Tg) (it : It) (ifs : Es) (tg1 : Tg) (it1 : It) (ifs1 : Es) (own own1 : List Nat) (h1 : SndE T Nv elt) (h2 : SndTg T Nv tg) (h3 : SndIt T Nv it) (h4 : SndTs T Nv ifs) (h5 : SndTg T Nv tg1) (h6 : SndIt T Nv it1) (h7 : SndTs T Nv ifs1) :
    SndE T Nv (.comp2 mu elt tg it ifs tg1 it1 ifs1 own own1) := fun X W c e F h => by
  have ee : ev Nv (.comp2 mu elt tg it ifs tg1 it1 ifs1 own own1) = mComp2 mu (evIt Nv it) (asg Nv tg) (evTests Nv ifs) (evIt Nv it1) (asg Nv tg1) (evTests Nv ifs1) (ev Nv elt) own own1 := by funext ρ st; rw [ev]; rfl
  rw [ee]
  cases e <;> first | (cases h; done) | skip
  rename_i x gs scope p
  match gs, h with
  | [], h => cases h
  | [_], h => cases h
  | _ :: _ :: _ :: _, h => cases h
  | [⟨tg', iter, ifs', n⟩, ⟨tg1', iter1, ifs1', n1⟩], h =>
  have h : (decide (n = 0) && decide (n1 = 0) && blkC c.N c.sc scope (ownN c own) && pln iter && pln iter1 && ((tgSl tg).all fun i => own.contains i) && ((tgSl tg1).all fun i => own1.contains i) && (own1.all fun i => own.contains i) &&
      chkIt T c it tg' iter && chkTg T (c.blk scope) tg tg' && chkTs T (c.blk scope) ifs ifs' && chkIt T (c.blk scope) it1 tg1' iter1 && chkTg T (c.blk scope) tg1 tg1' && chkTs T (c.blk scope) ifs1 ifs1' && chkE T (c.blk scope) elt x) = true := h
  simp only [Bool.and_eq_true, decide_eq_true_eq] at h
  obtain ⟨⟨⟨⟨⟨⟨⟨⟨⟨⟨⟨⟨⟨⟨rfl, rfl⟩, k1⟩, k2⟩, k2'⟩, k3⟩, k3'⟩, k3''⟩, k4⟩, k5⟩, k6⟩, k4'⟩, k5'⟩, k6'⟩, k7⟩ := h
  have ok := blkOk_by k1
  rw [← F.n, ← F.sc] at ok
  have hx := own_ix k1
  have sub : ∀ {l : List Nat} {o : List Nat}, (l.all fun i => o.contains i) = true → ∀ i ∈ l, i ∈ o := fun q i hi => by
    have := List.all_eq_true.mp q i hi
    simpa using this
  have g := ge_comp2 (mu := mu) (W := W) (W' := fun _ _ _ _ => False) (pos := p) F.cok k2 k2' (h3 X W c tg' iter F k4) ok (fun i hi => by rw [hx]; exact sub k3'' i hi) (fun s H C cl fp => h2.1 _ _ _ tg' (F.blk scope s H C cl fp) k5) (fun s H C cl fp => h4 _ _ _ ifs' (F.blk scope s H C cl fp) k6)
    (fun s H C cl fp => h6 _ _ _ tg1' iter1 (F.blk scope s H C cl fp) k4') (fun s H C cl fp => h5.1 _ _ _ tg1' (F.blk scope s H C cl fp) k5') (fun s H C cl fp => h7 _ _ _ ifs1' (F.blk scope s H C cl fp) k6') (fun s H C cl fp => (h1 _ _ _ x (F.blk scope s H C cl fp) k7).1)
    (fun i hi => by rw [hx]; exact sub k3 i hi) (fun i hi => sub k3' i hi) h2.2 h5.2
  rw [hx] at g
  exact gb_flat rfl g
theorem sn_lenset (a : E) (ha : SndE T Nv a) : SndE T Nv (.lenset a) := fun X W c e F h => by
  have ee : ev Nv (.lenset a) = mLenset (ev Nv a) := by funext ρ st; rw [ev]; rfl
  rw [ee]
  cases e <;> first | (cases h; done) | skip
  rename_i fe as ks p
  match fe, as, ks, h with
  | .Name x _, [.Call (.Name y _) [z] [] _], [], h =>
    have h : (decide (x = "len") && decide (y = "set") && T.bis.contains x && T.bis.contains y && glB c x && glB c y && pln z && chkE T c a z) = true := h
    simp only [Bool.and_eq_true, decide_eq_true_eq] at h
    obtain ⟨⟨⟨⟨⟨⟨⟨rfl, rfl⟩, k1⟩, k2⟩, k3⟩, k4⟩, k5⟩, k6⟩ := h
    exact gb_flat rfl (ge_lenset F.cok (F.gl k3) (F.bi _ k1) (F.gl k4) (F.bi _ k2) k5 (ha X W c _ F k6).1)
theorem sn_lrng (mu : Bool) (a : E) (ha : SndE T Nv a) : SndE T Nv (.lrng mu a) := fun X W c e F h => by
  have ee : ev Nv (.lrng mu a) = mLrng mu (ev Nv a) := by funext ρ st; rw [ev]; rfl
  rw [ee]
  cases e <;> first | (cases h; done) | skip
  rename_i fe as ks p
  match fe, as, ks, h with
  | .Name x _, [.Call (.Name y _) [z] [] _], [], h =>
    have h : (decide (x = "list") && decide (y = "range") && T.bis.contains x && T.bis.contains y && glB c x && glB c y && pln z && chkE T c a z) = true := h
    simp only [Bool.and_eq_true, decide_eq_true_eq] at h
    obtain ⟨⟨⟨⟨⟨⟨⟨rfl, rfl⟩, k1⟩, k2⟩, k3⟩, k4⟩, k5⟩, k6⟩ := h
    exact gb_flat rfl (ge_lrng F.cok (F.gl k3) (F.bi _ k1) (F.gl k4) (F.bi _ k2) k5 (ha X W c _ F k6).1)
/-! all together -/
theorem sn_none : SndE T Nv .none_ := fun X W c e F h => by cases e <;> cases h
theorem sn_step2 (a : E) (n : Nat) : SndE T Nv (.step2 a n) := fun X W c e F h => by cases e <;> cases h
mutual
theorem sE : ∀ t : E, SndE T Nv t
  | .var i => sn_var i
  | .cst d => sn_cst d
  | .glob n => sn_glob n
  | .bin o a b => sn_bin o a b (sE a) (sE b)
  | .neg a => sn_neg a (sE a)
  | .cmp o a b => sn_cmp o a b (sE a) (sE b)
  | .chain o o' a b d => sn_chain o o' a b d (sE a) (sE b) (sE d)
  | .and es => sn_and es (sBs es)
  | .or es => sn_or es (sBs es)
  | .not a => sn_not a (sE a)
  | .ite t a b => sn_ite t a b (sE t) (sE a) (sE b)
  | .tup es => sn_tup es (sEs es)
  | .lst mu es => sn_lst mu es (sEs es)
  | .dct mu kvs => sn_dct mu kvs (sKv kvs)
  | .ix a i => sn_ix a i (sE a) (sE i)
  | .slice a lo hi => sn_slice a lo hi (sE a) (sPt lo) (sPt hi)
  | .rev a => sn_rev a (sE a)
  | .step2 a n => sn_step2 a n
  | .none_ => sn_none
  | .inG neg a g => sn_inG neg a g (sE a)
  | .ixG g a => sn_ixG g a (sE a)
  | .call f es => sn_call f es (sEs es)
  | .bi b es => sn_bi b es (sEs es)
  | .isi a ts => sn_isi a ts (sE a)
  | .me m a es => sn_me m a es (sE a) (sEs es)
  | .comp mu elt tg it ifs own => sn_comp mu elt tg it ifs own (sE elt) (sTg tg) (sIt it) (sTs ifs)
  | .frz a => sn_frz a (sE a)
  | .never => sn_never
  | .comp2 mu elt tg it ifs tg1 it1 ifs1 own own1 => sn_comp2 mu elt tg it ifs tg1 it1 ifs1 own own1 (sE elt) (sTg tg) (sIt it) (sTs ifs) (sTg tg1) (sIt it1) (sTs ifs1)
  | .lenset a => sn_lenset a (sE a)
  | .lrng mu a => sn_lrng mu a (sE a)
theorem sBs : ∀ t : Es, SndBs T Nv t
  | .nil => sb_nil
  | .cons a r => sb_cons a r (sE a) (sBs r)
theorem sEs : ∀ t : Es, SndEs T Nv t
  | .nil => sn_nil
  | .cons a r => sn_cons a r (sE a) (sEs r)
theorem sTs : ∀ t : Es, SndTs T Nv t
  | .nil => sts_nil
  | .cons a .nil => sts_one a (sE a)
  | .cons a (.cons b r) => sts_two a b r
theorem sPt : ∀ t : Pt, SndPt T Nv t
  | .no => sp_no
  | .e a => sp_e a (sE a)
theorem sKv : ∀ t : Kvs, SndKv T Nv t
  | .nil => sk_nil
  | .cons a b r => sk_cons a b r (sE a) (sE b) (sKv r)
theorem sIt : ∀ t : It, SndIt T Nv t
  | .e a => si_e a (sE a)
  | .rng es => si_rng es (sEs es)
  | .enum es => si_enum es (sEs es)
  | .zip es => si_zip es (sEs es)
  | .items a => fun X W c tg e F h => by cases tg <;> cases e <;> cases h
  | .values a => fun X W c tg e F h => by cases tg <;> cases e <;> cases h
  | .rev a => fun X W c tg e F h => by cases tg <;> cases e <;> cases h
theorem sTg : ∀ t : Tg, SndTg T Nv t
  | .name i => st_name i
  | .tup ts => st_tup ts (sTgs ts)
  | .sub a b => st_sub a b (sE a) (sE b)
theorem sTgs : ∀ t : Tgs, SndTgs T Nv t
  | .nil => sg_nil
  | .cons t r => sg_cons t r (sTg t) (sTgs r)
end
end
end G
set_option Elab.async false
set_option linter.all false
set_option maxRecDepth 100000
set_option maxHeartbeats 1000000
/-! GP: the check of statements and of defs, sound; a program's defs by levels -/
namespace G
open PySem PySem.Spec PyProof.Rows L2
/-! ### stores that are swapped -/
def lcSwap (c : Ck) (x : Str) (px : Pos) : Expr → Bool
  | .ListComp _ _ scope pos => (match c.sc.names.lookup x with | some .local => true | _ => false) && (px.line == pos.line) && !(scope.names.any fun (n, k) => n == x && (k == .local || k == .cell))
  | _ => false
def isLc : Expr → Bool
  | .ListComp .. => true
  | _ => false
theorem isLc_is {e : Expr} (h : isLc e = true) : ∃ x gs sc p, e = .ListComp x gs sc p := by
  cases e <;> first | (cases h; done) | exact ⟨_, _, _, _, rfl⟩
def funB (c : Ck) : Bool := match c.sc.kind with
  | .function => true
  | _ => false
def swNone : Expr → Expr → Bool
  | .Tuple .., .Tuple .. => false
  | .List .., .Tuple .. => false
  | _, _ => true
theorem swNone_ok {t e : Expr} (h : swNone t e = true) (env : Env) : swappedStores [t] e env = pure none := by
  cases t <;> cases e <;> first | (cases h; done) | rfl
theorem lcSwap_off {c : Ck} {x : Str} {px : Pos} {e : Expr} {l : Nat} {env : Env} (hl : isLc e = true) (hs : env.scope = c.sc) (h : lcSwap c x px e = false) : swapsWith e (some (.Name x px)) l env = pure false := by
  cases e <;> first | (cases hl; done) | skip
  rename_i elt gs scope pos
  unfold lcSwap at h
  unfold swapsWith
  have ky : env.kindOf x = c.sc.names.lookup x := by
    show env.scope.names.lookup x = _
    rw [hs]
  simp only [ky, Expr.pos]
  show pure _ = pure false
  congr 1
  cases hk : c.sc.names.lookup x with
  | none => simp
  | some k =>
    rw [hk] at h
    cases k <;> simp_all
theorem lcSwap_on {c : Ck} {x : Str} {px : Pos} {elt : Expr} {gs : List Comprehension} {scope : Scope} {pos : Pos} {l : Nat} {env : Env} (hk : funB c = true) (hs : env.scope = c.sc) (h : lcSwap c x px (.ListComp elt gs scope pos) = true) :
    swapsWith (.ListComp elt gs scope pos) (some (.Name x px)) l env = pure true ∧ env.scope.names.lookup x = some .local := by
  unfold lcSwap at h
  simp only [Bool.and_eq_true, Bool.not_eq_true'] at h
  obtain ⟨⟨h1, h2⟩, h3⟩ := h
  have e1 : c.sc.names.lookup x = some .local := by
    split at h1
    · assumption
    · cases h1
  have e2 : c.sc.kind = .function := by
    unfold funB at hk
    split at hk
    · assumption
    · cases hk
  exact ⟨sw_true (by rw [hs]; exact e2) (by rw [hs]; exact e1) h2 h3, by rw [hs]; exact e1⟩
def parB (c : Ck) (x y : Str) (px py : Pos) (a b : Expr) : Bool :=
  funB c && (match c.sc.names.lookup x with | some .local => true | _ => false) && (match c.sc.names.lookup y with | some .local => true | _ => false) && decide (x ≠ y) && (py.line == px.line) && pln a && pln b && !([a, b].all (foldedForSure 8)) && !([a, b].all (constantsAlone 8))
theorem parB_ok {c : Ck} {x y : Str} {px py pt pt2 : Pos} {kt k2 : Nat} {a b : Expr} {env : Env} (hs : env.scope = c.sc) (h : parB c x y px py a b = true) :
    swappedStores [.Tuple [.Name x px, .Name y py] kt pt] (.Tuple [a, b] k2 pt2) env = pure (some [x, y]) ∧ env.scope.names.lookup x = some .local ∧ env.scope.names.lookup y = some .local ∧ x ≠ y ∧ pln a = true ∧ pln b = true := by
  unfold parB at h
  simp only [Bool.and_eq_true, Bool.not_eq_true', decide_eq_true_eq] at h
  obtain ⟨⟨⟨⟨⟨⟨⟨⟨h1, h2⟩, h3⟩, h4⟩, h5⟩, h6⟩, h7⟩, h8⟩, h9⟩ := h
  have e1 : c.sc.names.lookup x = some .local := by
    split at h2
    · assumption
    · cases h2
  have e2 : c.sc.names.lookup y = some .local := by
    split at h3
    · assumption
    · cases h3
  have e3 : c.sc.kind = .function := by
    unfold funB at h1
    split at h1
    · assumption
    · cases h1
  have kx : env.kindOf x = some .local := by show env.scope.names.lookup x = _; rw [hs]; exact e1
  have ky : env.kindOf y = some .local := by show env.scope.names.lookup y = _; rw [hs]; exact e2
  have bk : env.blockKind = .function := by unfold Env.blockKind; rw [hs, e3]; rfl
  refine ⟨?_, by rw [hs]; exact e1, by rw [hs]; exact e2, h4, h6, h7⟩
  have f : ∀ z : Expr, pln z = true → (match z with | .Starred .. => true | _ => false) = false := fun z hz => by cases z <;> first | rfl | (cases hz)
  have fa := f a h6
  have fb := f b h7
  have nd : ([x, y] : List Str).eraseDups = [x, y] := by
    have : (y == x) = false := beq_eq_false_iff_ne.mpr fun z => h4 z.symm
    simp [List.eraseDups_cons, this]
  unfold swappedStores
  simp only [bk, List.length_cons, List.length_nil, List.head?_cons, Option.map_some, Option.getD_some, Expr.pos, List.filterMap_cons, List.filterMap_nil, kx, ky, h5, h8, h9]
  simp
  rw [if_neg (fun z => z.elim (fun q => Bool.noConfusion (fa.symm.trans q)) (fun q => Bool.noConfusion (fb.symm.trans q))), nd]
  rfl
def parC (T : Tab) (c : Ck) (i j : Nat) (a b : E) (tg e : Expr) : Bool := match tg, e with
  | .Tuple [.Name x px, .Name y py] _ _, .Tuple [u, v] _ _ => decide (c.N[i]? = some x) && decide (c.N[j]? = some y) && parB c x y px py u v && chkE T c a u && chkE T c b v
  | _, _ => false
def namesC (c : Ck) (line : Nat) (ts : List Expr) : List Str := ts.filterMap fun
  | .Name id pos => if c.sc.names.lookup id == some .local && pos.line == line then some id else none
  | _ => none
/-- a tuple is made and taken apart -/
def swN (c : Ck) (ts vs : List Expr) : Bool := !(ts.length == 2 || ts.length == 3) || ((vs.all pln) && decide ((namesC c ((ts.head?.map (·.pos.line)).getD 0) ts).length ≠ ts.length)) || ((vs.all pln) && vs.all (foldedForSure 8))
theorem star_no {vs : List Expr} (h : vs.all pln = true) : (vs.any fun | .Starred .. => true | _ => false) = false := by
  rw [List.any_eq_false]
  intro x hx
  have := List.all_eq_true.mp h x hx
  cases x <;> first | (cases this; done) | simp
theorem swN_ok {c : Ck} {ts vs : List Expr} {k k2 : Nat} {p p2 : Pos} {env : Env} (hs : env.scope = c.sc) (h : swN c ts vs = true) : swappedStores [.Tuple ts k p] (.Tuple vs k2 p2) env = pure none := by
  have hn : namesC c ((ts.head?.map (·.pos.line)).getD 0) ts = ts.filterMap fun
    | .Name id pos => if env.kindOf id == some .local && pos.line == (ts.head?.map (·.pos.line)).getD 0 then some id else none
    | _ => none := by
    unfold namesC
    congr 1
    funext x
    cases x <;> first | rfl | skip
    rename_i id pos
    show (if c.sc.names.lookup id == some .local && _ then _ else _) = (if env.scope.names.lookup id == some .local && _ then _ else _)
    rw [hs]
  unfold swN at h
  unfold swappedStores
  simp only
  by_cases h0 : (!(ts.length == 2 || ts.length == 3) || vs.length != ts.length || env.blockKind != .function) = true
  · rw [if_pos h0]
  rw [if_neg h0]
  have h1 : (!(ts.length == 2 || ts.length == 3)) = false := by
    cases e : (!(ts.length == 2 || ts.length == 3)) with
    | false => rfl
    | true => rw [e] at h0; simp at h0
  rw [h1, Bool.false_or, Bool.or_eq_true] at h
  rw [hn] at h
  rcases h with h | h
  · rw [Bool.and_eq_true, decide_eq_true_eq] at h
    refine (if_neg fun z => absurd ((star_no h.1).symm.trans z) Bool.false_ne_true).trans ?_
    exact if_pos ((Bool.or_eq_true _ _).mpr (.inl (bne_iff_ne.mpr h.2)))
  · rw [Bool.and_eq_true] at h
    refine (if_neg fun z => absurd ((star_no h.1).symm.trans z) Bool.false_ne_true).trans ?_
    split
    · rfl
    · exact if_pos h.2
def par3B (c : Ck) (x y z : Str) (px py pz : Pos) (vs : List Expr) : Bool :=
  funB c && (match c.sc.names.lookup x with | some .local => true | _ => false) && (match c.sc.names.lookup y with | some .local => true | _ => false) && (match c.sc.names.lookup z with | some .local => true | _ => false) && decide (x ≠ y) && decide (x ≠ z) && decide (y ≠ z) && (py.line == px.line) && (pz.line == px.line) && vs.all pln && !(vs.all (foldedForSure 8)) && !(vs.all (constantsAlone 8))
theorem par3B_ok {c : Ck} {x y z : Str} {px py pz pt pt2 : Pos} {kt k2 : Nat} {a b d : Expr} {env : Env} (hs : env.scope = c.sc) (h : par3B c x y z px py pz [a, b, d] = true) :
    swappedStores [.Tuple [.Name x px, .Name y py, .Name z pz] kt pt] (.Tuple [a, b, d] k2 pt2) env = pure (some [x, y, z]) ∧ env.scope.names.lookup x = some .local ∧ env.scope.names.lookup y = some .local ∧ env.scope.names.lookup z = some .local ∧ x ≠ y ∧ x ≠ z ∧ y ≠ z ∧ pln a = true ∧ pln b = true ∧ pln d = true := by
  unfold par3B at h
  simp only [Bool.and_eq_true, Bool.not_eq_true', decide_eq_true_eq] at h
  obtain ⟨⟨⟨⟨⟨⟨⟨⟨⟨⟨⟨h1, h2⟩, h3⟩, h3'⟩, h4⟩, h4'⟩, h4''⟩, h5⟩, h5'⟩, h6⟩, h8⟩, h9⟩ := h
  have loc : ∀ {x : Str}, (match c.sc.names.lookup x with | some .local => true | _ => false) = true → c.sc.names.lookup x = some .local := fun {x} h => by
    split at h
    · assumption
    · cases h
  have e1 := loc h2
  have e2 := loc h3
  have e4 := loc h3'
  have e3 : c.sc.kind = .function := by
    unfold funB at h1
    split at h1
    · assumption
    · cases h1
  have kx : env.kindOf x = some .local := by show env.scope.names.lookup x = _; rw [hs]; exact e1
  have ky : env.kindOf y = some .local := by show env.scope.names.lookup y = _; rw [hs]; exact e2
  have kz : env.kindOf z = some .local := by show env.scope.names.lookup z = _; rw [hs]; exact e4
  have bk : env.blockKind = .function := by unfold Env.blockKind; rw [hs, e3]; rfl
  have st := star_no h6
  simp only [List.all_cons, List.all_nil, Bool.and_true, Bool.and_eq_true] at h6
  obtain ⟨h61, h62, h63⟩ := h6
  refine ⟨?_, by rw [hs]; exact e1, by rw [hs]; exact e2, by rw [hs]; exact e4, h4, h4', h4'', h61, h62, h63⟩
  have nd : ([x, y, z] : List Str).eraseDups = [x, y, z] := by
    have q1 : (y == x) = false := beq_eq_false_iff_ne.mpr fun z => h4 z.symm
    have q2 : (z == x) = false := beq_eq_false_iff_ne.mpr fun z => h4' z.symm
    have q3 : (z == y) = false := beq_eq_false_iff_ne.mpr fun z => h4'' z.symm
    simp [List.eraseDups_cons, q1, q2, q3]
  unfold swappedStores
  simp only [bk, List.length_cons, List.length_nil, List.head?_cons, Option.map_some, Option.getD_some, Expr.pos, List.filterMap_cons, List.filterMap_nil, kx, ky, kz, h5, h5', h8, h9]
  have f : ∀ z : Expr, pln z = true → (match z with | .Starred .. => true | _ => false) = false := fun z hz => by cases z <;> first | rfl | (cases hz)
  simp
  rw [if_neg (fun z => z.elim (fun q => Bool.noConfusion ((f a h61).symm.trans q)) fun z => z.elim (fun q => Bool.noConfusion ((f b h62).symm.trans q)) fun q => Bool.noConfusion ((f d h63).symm.trans q)), nd]
  rfl
def par3C (T : Tab) (c : Ck) (i j l : Nat) (a b d : E) (tg e : Expr) : Bool := match tg, e with
  | .Tuple [.Name x px, .Name y py, .Name z pz] _ _, .Tuple [u, v, w] _ _ => decide (c.N[i]? = some x) && decide (c.N[j]? = some y) && decide (c.N[l]? = some z) && par3B c x y z px py pz [u, v, w] && chkE T c a u && chkE T c b v && chkE T c d w
  | _, _ => false
def parnC (T : Tab) (c : Ck) (ts : Tgs) (es : Es) (tg e : Expr) : Bool := match tg, e with
  | .Tuple xs _ _, .Tuple vs _ _ => swN c xs vs && chkTgs T c ts xs && chkEs T c es vs
  | _, _ => false
/-! ### statements -/
mutual
def chkS (T : Tab) (c : Ck) : S → Stmt → Bool
  | .expr a, .Expr e _ => swOk e && chkE T c a e
  | .asg t a, .Assign [tg] e _ => match t, tg with
    | .name i, .Name x px => funB c && decide (c.N[i]? = some x) && storeB c x && (swOk e || isLc e) && chkE T c a e && (!(lcSwap c x px e) || isComp a)
    | t, tg => pln tg && nName tg && swNone tg e && chkTg T c t tg && chkE T c a e
  | .par i j a b, .Assign [tg] e _ => parC T c i j a b tg e
  | .par3 i j l a b d, .Assign [tg] e _ => par3C T c i j l a b d tg e
  | .parn ts es, .Assign [tg] e _ => parnC T c ts es tg e
  | .never, _ => true
  | .aug i .add a, .AugAssign (.Name x _) .Add e _ => decide (c.N[i]? = some x) && storeB c x && chkE T c a e
  | .aug i .sub a, .AugAssign (.Name x _) .Sub e _ => decide (c.N[i]? = some x) && storeB c x && chkE T c a e
  | .ret a, .Return (some e) _ => chkE T c a e
  | .retn, .Return none _ => true
  | .ite t a b, .If e x y _ => chkE T c t e && chkSs T c a x && chkSs T c b y
  | .for_ t it b, .For tg iter body [] _ => pln iter && chkIt T c it tg iter && chkTg T c t tg && chkSs T c b body
  | .while_ t b, .While e body [] _ => chkE T c t e && chkSs T c b body
  | .brk, .Break _ => true
  | .cont, .Continue _ => true
  | .pass, .Pass _ => true
  | _, _ => false
def chkSs (T : Tab) (c : Ck) : Ss → List Stmt → Bool
  | .nil, [] => true
  | .cons s r, x :: xs => chkS T c s x && chkSs T c r xs
  | _, _ => false
def isComp : E → Bool
  | .comp .. => true
  | _ => false
end
section
variable {Nv : Env'} {T : Tab}
abbrev SndS (T : Tab) (Nv : Env') (t : S) : Prop := ∀ (X : Cx) (W : WX) (c : Ck) (s : Stmt), Fit T Nv X W c → PassesOwn (model X.prog X.w) X.A X.env X.xe → chkS T c t s = true → GS X W s (ex Nv t)
abbrev SndSs (T : Tab) (Nv : Env') (t : Ss) : Prop := ∀ (X : Cx) (W : WX) (c : Ck) (s : List Stmt), Fit T Nv X W c → PassesOwn (model X.prog X.w) X.A X.env X.xe → chkSs T c t s = true → GSs X W s (exs Nv t)
theorem ss_nil : SndSs T Nv .nil := fun X W c s F hp h => by
  have ee : exs Nv .nil = fun ρ st => .ok (.next ρ) st := by funext ρ st; rw [exs]
  cases s with
  | nil => rw [ee]; exact gss_nil
  | cons _ _ => cases h
theorem ss_cons (a : S) (r : Ss) (ha : SndS T Nv a) (hr : SndSs T Nv r) : SndSs T Nv (.cons a r) := fun X W c s F hp h => by
  have ee : exs Nv (.cons a r) = fun ρ st => (ex Nv a ρ st).noX.bind fun fl st1 => match fl with
    | .next ρ1 => exs Nv r ρ1 st1
    | fl => .ok fl st1 := by funext ρ st; first | (rw [exs]; done) | (rw [exs]; rfl)
  cases s with
  | nil => cases h
  | cons x xs =>
    have h : (chkS T c a x && chkSs T c r xs) = true := h
    rw [Bool.and_eq_true] at h
    rw [ee]
    exact gss_cons (ha X W c x F hp h.1) (hr X W c xs F hp h.2)
theorem s_expr (a : E) : SndS T Nv (.expr a) := fun X W c s F hp h => by
  have ee : ex Nv (.expr a) = fun ρ st => (ev Nv a ρ st).cat ρ fun _ st1 => .ok (.next ρ) st1 := by funext ρ st; rw [ex]
  rw [ee]
  cases s <;> first | (cases h; done) | skip
  rename_i e p
  have h : (swOk e && chkE T c a e) = true := h
  rw [Bool.and_eq_true] at h
  exact gs_expr (sE a X W c e F h.2).1 (sw_off h.1 _ _ _)
theorem s_asg (t : Tg) (a : E) : SndS T Nv (.asg t a) := fun X W c s F hp h => by
  have ee : ex Nv (.asg t a) = fun ρ st => (ev Nv a ρ st).cat ρ fun v st1 => (asg Nv t v ρ st1).noExc.bind fun ρ1 st2 => .ok (.next ρ1) st2 := by funext ρ st; rw [ex]
  cases s <;> first | (cases h; done) | skip
  rename_i tgs e p
  cases tgs with
  | nil => cases h
  | cons tg tgs =>
  cases tgs with
  | cons _ _ => cases h
  | nil =>
  have other : (pln tg && nName tg && swNone tg e && chkTg T c t tg && chkE T c a e) = true → GS X W (.Assign [tg] e p) (ex Nv (.asg t a)) := fun h => by
    simp only [Bool.and_eq_true] at h
    obtain ⟨⟨⟨⟨h1, h2⟩, h3⟩, h4⟩, h5⟩ := h
    rw [ee]
    exact gs_asg h1 h2 (sE a X W c e F h5).1 ((sTg t).1 X W c tg F h4) (swNone_ok h3 _)
  cases t with
  | tup ts => exact other (by cases tg <;> exact h)
  | sub x y => exact other (by cases tg <;> exact h)
  | name i =>
  cases tg with
  | Name x px =>
    have ea : asg Nv (.name i) = fun v ρ st => if i < ρ.length then .ok (ρ.set i (some v)) st else .no := by funext v ρ st; rw [asg]
    replace h : (funB c && decide (c.N[i]? = some x) && storeB c x && (swOk e || isLc e) && chkE T c a e && (!(lcSwap c x px e) || isComp a)) = true := h
    rw [ee, ea]
    simp only [Bool.and_eq_true, Bool.or_eq_true, Bool.not_eq_true', decide_eq_true_eq] at h
    obtain ⟨⟨⟨⟨⟨h0, h1⟩, h2⟩, h3⟩, h4⟩, h5⟩ := h
    obtain ⟨q1, q2⟩ := F.st h2
    have hN : X.N[i]? = some x := by rw [F.n]; exact h1
    rcases h3 with h3 | h3
    · exact gs_set F.cok hN q1 q2 (sE a X W c e F h4).1 (sw_off h3 _ _ _)
    · rcases h5 with h5 | h5
      · exact gs_set F.cok hN q1 q2 (sE a X W c e F h4).1 (lcSwap_off h3 F.sc h5)
      · by_cases hsw : lcSwap c x px e = false
        · exact gs_set F.cok hN q1 q2 (sE a X W c e F h4).1 (lcSwap_off h3 F.sc hsw)
        · have hsw : lcSwap c x px e = true := by simpa using hsw
          cases a <;> first | (cases h5; done) | skip
          rename_i mu elt tg it ifs own
          have ec : ev Nv (.comp mu elt tg it ifs own) = mComp mu (evIt Nv it) (asg Nv tg) (evTests Nv ifs) (ev Nv elt) own := by funext ρ st; rw [ev]; rfl
          obtain ⟨x1, gs, scope, p1, rfl⟩ := isLc_is h3
          cases gs with
          | nil => cases h4
          | cons g gs =>
          cases gs with
          | cons _ _ => cases h4
          | nil =>
          obtain ⟨tg', iter, ifs', n⟩ := g
          have h4 : (decide (n = 0) && blkC c.N c.sc scope (ownN c own) && pln iter && ((tgSl tg).all fun i => own.contains i) && chkIt T c it tg' iter && chkTg T (c.blk scope) tg tg' && chkTs T (c.blk scope) ifs ifs' && chkE T (c.blk scope) elt x1) = true := h4
          simp only [Bool.and_eq_true, decide_eq_true_eq] at h4
          obtain ⟨⟨⟨⟨⟨⟨⟨rfl, k1⟩, k2⟩, k3⟩, k4⟩, k5⟩, k6⟩, k7⟩ := h4
          obtain ⟨w1, w2⟩ := lcSwap_on (l := p.line) h0 F.sc hsw
          have ok := blkOk_by k1
          rw [← F.n, ← F.sc] at ok
          have hx := own_ix k1
          have g := gs_setLc (mu := mu) (W := W) (W' := fun _ _ _ _ => False) (pos := p1) (spos := p) (py := px) F.cok hN w2 w1 k2 (sIt it X W c tg' iter F k4) ok (fun s H C cl fp => (sTg tg).1 _ _ _ tg' (F.blk scope s H C cl fp) k5) (fun s H C cl fp => sTs ifs _ _ _ ifs' (F.blk scope s H C cl fp) k6) (fun s H C cl fp => (sE elt _ _ _ x1 (F.blk scope s H C cl fp) k7).1)
            (fun i hi => by
              rw [hx]
              have := List.all_eq_true.mp k3 i hi
              simpa using this) (sTg (T := T) tg).2
          rw [hx] at g
          rw [ec]
          exact g
  | _ => exact other h
theorem s_par (i j : Nat) (a b : E) : SndS T Nv (.par i j a b) := fun X W c s F hp h => by
  have ee : ex Nv (.par i j a b) = fun ρ st => (ev Nv a ρ st).cat ρ fun v st1 => (ev Nv b ρ st1).cat ρ fun u st2 => if i < ρ.length ∧ j < ρ.length then .ok (.next ((ρ.set i (some v)).set j (some u))) st2 else .no := by funext ρ st; rw [ex]
  rw [ee]
  cases s <;> first | (cases h; done) | skip
  rename_i tgs e p
  cases tgs with
  | nil => cases h
  | cons tg tgs =>
  cases tgs with
  | cons _ _ => cases h
  | nil =>
  replace h : parC T c i j a b tg e = true := h
  unfold parC at h
  split at h
  · simp only [Bool.and_eq_true, decide_eq_true_eq] at h
    obtain ⟨⟨⟨⟨h1, h2⟩, h3⟩, h4⟩, h5⟩ := h
    obtain ⟨q1, q2, q3, q4, q5, q6⟩ := parB_ok F.sc h3
    refine gs_par F.cok (by rw [F.n]; exact h1) (by rw [F.n]; exact h2) (fun z => ?_) q2 q3 q5 q6 (sE a X W c _ F h4).1 (sE b X W c _ F h5).1 q1
    rw [z, h2] at h1
    exact q4 (Option.some.inj h1).symm
  · cases h
theorem s_never : SndS T Nv .never := fun X W c s F hp h => by
  have ee : ex Nv .never = fun _ _ => .no := by funext ρ st; rw [ex]
  rw [ee]
  exact gs_never
theorem s_par3 (i j l : Nat) (a b d : E) : SndS T Nv (.par3 i j l a b d) := fun X W c s F hp h => by
  have ee : ex Nv (.par3 i j l a b d) = fun ρ st => (ev Nv a ρ st).cat ρ fun v st1 => (ev Nv b ρ st1).cat ρ fun u st2 => (ev Nv d ρ st2).cat ρ fun w st3 => if i < ρ.length ∧ j < ρ.length ∧ l < ρ.length then .ok (.next (((ρ.set i (some v)).set j (some u)).set l (some w))) st3 else .no := by funext ρ st; rw [ex]
  rw [ee]
  cases s <;> first | (cases h; done) | skip
  rename_i tgs e p
  match tgs, h with
  | [], h => cases h
  | _ :: _ :: _, h => cases h
  | [tg], h =>
  replace h : par3C T c i j l a b d tg e = true := h
  unfold par3C at h
  split at h
  · simp only [Bool.and_eq_true, decide_eq_true_eq] at h
    obtain ⟨⟨⟨⟨⟨⟨h1, h2⟩, h2'⟩, h3⟩, h4⟩, h5⟩, h6⟩ := h
    obtain ⟨q1, q2, q3, q4, q5, q6, q7, q8, q9, q10⟩ := par3B_ok F.sc h3
    have ne : ∀ {m n : Nat} {u v : Str}, c.N[m]? = some u → c.N[n]? = some v → u ≠ v → m ≠ n := fun e1 e2 n z => n (by rw [z, e2] at e1; exact (Option.some.inj e1).symm)
    exact gs_par3 F.cok (by rw [F.n]; exact h1) (by rw [F.n]; exact h2) (by rw [F.n]; exact h2') (ne h1 h2 q5) (ne h1 h2' q6) (ne h2 h2' q7) q2 q3 q4 q8 q9 q10 (sE a X W c _ F h4).1 (sE b X W c _ F h5).1 (sE d X W c _ F h6).1 q1
  · cases h
theorem s_parn (ts : Tgs) (es : Es) : SndS T Nv (.parn ts es) := fun X W c s F hp h => by
  have ee : ex Nv (.parn ts es) = fun ρ st => (evs Nv es ρ st).cat ρ fun vs st1 => if vs.length ≤ sizeLine then (asgs Nv ts vs ρ st1).noExc.bind fun ρ1 st2 => .ok (.next ρ1) st2 else .no := by funext ρ st; rw [ex]
  rw [ee]
  cases s <;> first | (cases h; done) | skip
  rename_i tgs e p
  match tgs, h with
  | [], h => cases h
  | _ :: _ :: _, h => cases h
  | [tg], h =>
  replace h : parnC T c ts es tg e = true := h
  unfold parnC at h
  split at h
  · obtain ⟨h1, h2, h3⟩ := and3 h
    obtain ⟨q1, q2, q3⟩ := (sTgs ts).1 X W c _ F h2
    exact gs_parn F.cok q2 q1 (sEs es X W c _ F h3).1 q3 (swN_ok F.sc h1)
  · cases h
theorem s_aug (i : Nat) (o : Bop) (a : E) : SndS T Nv (.aug i o a) := fun X W c s F hp h => by
  have ee : ex Nv (.aug i o a) = fun ρ st => match ρ[i]? with
    | some (some v) => (ev Nv a ρ st).cat ρ fun u st1 => match v, u with
      | .d (.int _), .d (.int _) => (R.ofO (binO o v u st1)).cat ρ fun z st2 => .ok (.next (ρ.set i (some z))) st2
      | _, _ => .no
    | _ => .no := by funext ρ st; first | (rw [ex]; done) | (rw [ex]; rfl)
  rw [ee]
  cases s <;> first | (cases o <;> cases h; done) | skip
  rename_i tg op e p
  cases tg <;> first | (cases o <;> cases h; done) | skip
  rename_i x px
  cases o <;> first | (cases h; done) | skip
  · cases op <;> first | (cases h; done) | skip
    have h : (decide (c.N[i]? = some x) && storeB c x && chkE T c a e) = true := h
    obtain ⟨h1, h2, h3⟩ := and3 h
    obtain ⟨q1, q2⟩ := F.st h2
    exact gs_aug F.cok (by rw [F.n]; exact of_decide_eq_true h1) q1 q2 (sE a X W c e F h3).1 ip_add fun p q st => rfl
  · cases op <;> first | (cases h; done) | skip
    have h : (decide (c.N[i]? = some x) && storeB c x && chkE T c a e) = true := h
    obtain ⟨h1, h2, h3⟩ := and3 h
    obtain ⟨q1, q2⟩ := F.st h2
    exact gs_aug F.cok (by rw [F.n]; exact of_decide_eq_true h1) q1 q2 (sE a X W c e F h3).1 ip_sub fun p q st => rfl
theorem s_ret (a : E) : SndS T Nv (.ret a) := fun X W c s F hp h => by
  have ee : ex Nv (.ret a) = fun ρ st => (ev Nv a ρ st).cat ρ fun v st1 => .ok (.ret v) st1 := by funext ρ st; rw [ex]
  rw [ee]
  cases s <;> first | (cases h; done) | skip
  rename_i o p
  cases o <;> first | (cases h; done) | skip
  exact gs_ret (sE a X W c _ F h).1
theorem s_retn : SndS T Nv .retn := fun X W c s F hp h => by
  have ee : ex Nv .retn = fun _ st => .ok (.ret (.d .none)) st := by funext ρ st; rw [ex]
  rw [ee]
  cases s <;> first | (cases h; done) | skip
  rename_i o p
  cases o <;> first | (cases h; done) | skip
  exact gs_retn
theorem s_brk : SndS T Nv .brk := fun X W c s F hp h => by
  have ee : ex Nv .brk = fun ρ st => .ok (.brk ρ) st := by funext ρ st; rw [ex]
  rw [ee]
  cases s <;> first | (cases h; done) | skip
  exact gs_brk
theorem s_cont : SndS T Nv .cont := fun X W c s F hp h => by
  have ee : ex Nv .cont = fun ρ st => .ok (.cont ρ) st := by funext ρ st; rw [ex]
  rw [ee]
  cases s <;> first | (cases h; done) | skip
  exact gs_cont
theorem s_pass : SndS T Nv .pass := fun X W c s F hp h => by
  have ee : ex Nv .pass = fun ρ st => .ok (.next ρ) st := by funext ρ st; rw [ex]
  rw [ee]
  cases s <;> first | (cases h; done) | skip
  exact gs_pass
theorem s_ite (t : E) (a b : Ss) (ha : SndSs T Nv a) (hb : SndSs T Nv b) : SndS T Nv (.ite t a b) := fun X W c s F hp h => by
  have ee : ex Nv (.ite t a b) = fun ρ st => (tr' (ev Nv t) ρ st).cat ρ fun k st1 => if k then exs Nv a ρ st1 else exs Nv b ρ st1 := by funext ρ st; rw [ex]; rfl
  rw [ee]
  cases s <;> first | (cases h; done) | skip
  rename_i e x y p
  have h : (chkE T c t e && chkSs T c a x && chkSs T c b y) = true := h
  obtain ⟨h1, h2, h3⟩ := and3 h
  exact gs_if (sE t X W c e F h1).2 (ha X W c x F hp h2) (hb X W c y F hp h3)
theorem s_while (t : E) (b : Ss) (hb : SndSs T Nv b) : SndS T Nv (.while_ t b) := fun X W c s F hp h => by
  have ee : ex Nv (.while_ t b) = fun ρ st => whL (tr' (ev Nv t)) (exs Nv b) fuelW ρ st := by funext ρ st; rw [ex]; rfl
  rw [ee]
  cases s <;> first | (cases h; done) | skip
  rename_i e x y p
  cases y with
  | cons _ _ => cases h
  | nil =>
    have h : (chkE T c t e && chkSs T c b x) = true := h
    rw [Bool.and_eq_true] at h
    exact gs_while hp (sE t X W c e F h.1).2 (hb X W c x F hp h.2)
theorem s_for (t : Tg) (it : It) (b : Ss) (hb : SndSs T Nv b) : SndS T Nv (.for_ t it b) := fun X W c s F hp h => by
  have ee : ex Nv (.for_ t it b) = fun ρ st => (evIt Nv it ρ st).cat ρ fun p st1 => forL (fun x ρ1 st2 => (asg Nv t x ρ1 st2).noExc.bind fun ρ2 st3 => exs Nv b ρ2 st3) p.2 p.1 ρ st1 := by funext ρ st; rw [ex]
  rw [ee]
  cases s <;> first | (cases h; done) | skip
  rename_i tg iter body orelse p
  cases orelse with
  | cons _ _ => cases h
  | nil =>
    have h : (pln iter && chkIt T c it tg iter && chkTg T c t tg && chkSs T c b body) = true := h
    simp only [Bool.and_eq_true] at h
    obtain ⟨⟨⟨h1, h2⟩, h3⟩, h4⟩ := h
    exact gs_for F.cok hp h1 (sIt it X W c tg iter F h2) ((sTg t).1 X W c tg F h3) (hb X W c body F hp h4)
mutual
theorem sS : ∀ t : S, SndS T Nv t
  | .expr a => s_expr a
  | .asg t a => s_asg t a
  | .par i j a b => s_par i j a b
  | .par3 i j l a b d => s_par3 i j l a b d
  | .parn ts es => s_parn ts es
  | .never => s_never
  | .aug i o a => s_aug i o a
  | .ret a => s_ret a
  | .retn => s_retn
  | .ite t a b => s_ite t a b (sSs a) (sSs b)
  | .for_ t it b => s_for t it b (sSs b)
  | .while_ t b => s_while t b (sSs b)
  | .brk => s_brk
  | .cont => s_cont
  | .pass => s_pass
theorem sSs : ∀ t : Ss, SndSs T Nv t
  | .nil => ss_nil
  | .cons a r => ss_cons a r (sS a) (sSs r)
end
end
end G
set_option Elab.async false
set_option linter.all false
set_option maxRecDepth 100000
set_option maxHeartbeats 1000000
/-! GQ: a program's defs, level by level; the law's call -/
namespace G
open PySem PySem.Spec PyProof.Rows L2
structure Dfn where
  name : Str
  stm : Stmt
  N : List Str
  fn : Fn
def Dfn.ps (d : Dfn) : List Str := d.N.take d.fn.np
def scB (N P : List Str) (sc : Scope) : Bool :=
  (match sc.kind with | .function => true | _ => false) && !sc.isCoroutine && !sc.isGenerator && decide N.Nodup && (P.all fun x => match sc.names.lookup x with | some .local => true | some .cell => true | _ => false) && (sc.names.all fun y => match y.2 with | .free => false | _ => true)
theorem scB_ok {N : List Str} {n : Nat} {sc : Scope} (h : scB N (N.take n) sc = true) : FnScope N (N.take n) sc := by
  unfold scB at h
  simp only [Bool.and_eq_true, List.all_eq_true, decide_eq_true_eq, Bool.not_eq_true'] at h
  obtain ⟨⟨⟨⟨⟨h1, h2⟩, h3⟩, h4⟩, h5⟩, h6⟩ := h
  refine ⟨?_, h2, h3, h4, ?_, fun x hx => ?_, fun y hy e => ?_⟩
  · split at h1
    · assumption
    · cases h1
  · rw [List.length_take]
    by_cases hn : n ≤ N.length
    · rw [Nat.min_eq_left hn]
    · rw [Nat.min_eq_right (by omega), List.take_length, List.take_of_length_le (by omega)]
  · have := h5 x hx
    split at this
    · exact .inl ‹_›
    · exact .inr ‹_›
    · cases this
  · have := h6 y hy
    rw [e] at this; cases this
/-- the parameters are plain -/
def argB (ps : List Str) (a : Arguments) : Bool := a.posonlyargs.isEmpty && decide (a.args.map (·.arg) = ps) && a.vararg.isNone && a.kwonlyargs.isEmpty && a.kw_defaults.isEmpty && a.kwarg.isNone && a.defaults.isEmpty
def chkD (T : Tab) (d : Dfn) : Bool := decide (d.fn.np ≤ d.N.length) && decide (d.fn.ns = d.N.length) && scB d.N d.ps (defScope d.stm) && chkSs T ⟨d.N, defScope d.stm, fun _ => true⟩ d.fn.body (defBody d.stm)
structure Facts (w : World) (K : PySem.W.Frag) (mg : Str → Option Value) (T : Tab) (Pr : Prg) (defs : List Dfn) : Prop where
  fns : ∀ (i : Nat) (d : Dfn), defs[i]? = some d → ∃ fa fd, Fun K d.name d.name d.stm fa fd ∧ mg d.name = some (.ref fa) ∧ Binds K fd d.ps []
  glob : ∀ (X : Cx), X.K = K → X.mg = mg → X.w = w → ∀ (n : Nat) (x : Str) (b : Bool), T.globs[n]? = some (x, b) → GlAt X Pr.glob[n]? x b
  bi : ∀ x, T.bis.contains x = true → mg x = none
theorem phi_len {Pr : Prg} {f : Nat} {fn : Fn} (h : Pr.fns[f]? = some fn) (k : Nat) (vs : List Val) (st : Store) : phi Pr k f vs st = .no ∨ vs.length = fn.np := by
  cases k with
  | zero => exact .inl rfl
  | succ k =>
    unfold phi
    rw [h]
    dsimp only
    unfold runFn
    by_cases hl : vs.length = fn.np
    · exact .inr hl
    · rw [if_neg hl]; exact .inl rfl
section
variable {P : Program} {w : World} {K : PySem.W.Frag} {mg : Str → Option Value} {base : Heap} {T : Tab} {Pr : Prg} {defs : List Dfn}
theorem all_defs (A : Facts w K mg T Pr defs) (sm : ∃ o, base.get? sysModules = some o) (hT : T.fns = defs.map (·.name)) (hP : Pr.fns = defs.map (·.fn)) (hc : defs.all (chkD T) = true) (k : Nat) :
    ∀ (i : Nat) (d : Dfn), defs[i]? = some d → ∀ fa fd, Fun K d.name d.name d.stm fa fd → GFn P w K mg base k fa fd d.ps (spG ⟨K, mg⟩ d.ps.length (phi Pr k i)) := by
  induction k with
  | zero =>
    intro i d hd fa fd F
    refine ⟨fun _ _ _ _ h => h.1, fun A outer s H args us vs Q E hr hg e0 hb r h => ?_⟩
    obtain ⟨_, m, st, xs, _, _, o⟩ := h
    exact o.elim
  | succ k ih =>
    intro i d hd fa fd F
    have hck := List.all_eq_true.mp hc d (List.mem_of_getElem? hd)
    unfold chkD at hck
    simp only [Bool.and_eq_true, decide_eq_true_eq] at hck
    obtain ⟨⟨⟨h1, h2⟩, h3⟩, h4⟩ := hck
    have hps : d.ps.length = d.fn.np := by unfold Dfn.ps; rw [List.length_take]; omega
    have g := gfn_of (P := P) (w := w) (mg := mg) (base := base) (k := k) (Nv := Pr.env k) (fn := d.fn) F (scB_ok h3) hps.symm h2 fun X W B => by
      refine sSs d.fn.body X W ⟨d.N, defScope d.stm, fun _ => true⟩ (defBody d.stm) ?_ B.po h4
      have hu : X.A.units + 200 < cLine := by have := B.room.un; omega
      refine ⟨B.N, B.sc, fun x _ => B.fn x, ⟨B.calm, by rw [B.N]; exact (scB_ok h3).nd, hu, B.gd, by rw [B.base]; exact sm⟩, fun f x hf => ?_, A.glob X B.K B.mg B.w, fun x hx => by rw [B.mg]; exact A.bi x hx, B.tk⟩
      rw [hT, List.getElem?_map] at hf
      cases hd' : defs[f]? with
      | none => rw [hd'] at hf; cases hf
      | some d' =>
        rw [hd'] at hf
        cases hf
        obtain ⟨fa', fd', F', m1, m2⟩ := A.fns f d' hd'
        have hck' := List.all_eq_true.mp hc d' (List.mem_of_getElem? hd')
        unfold chkD at hck'
        simp only [Bool.and_eq_true, decide_eq_true_eq] at hck'
        have hps' : d'.ps.length = d'.fn.np := by unfold Dfn.ps; rw [List.length_take]; omega
        have hg := ih f d' hd' fa' fd' F'
        refine ⟨fa', fd', d'.ps, k, by rw [B.mg]; exact m1, by rw [B.K]; exact F'.kp, by rw [B.K]; exact m2, ?_, B.room, fun vs st => ?_⟩
        · have ex : gx X = ⟨K, mg⟩ := by unfold gx; rw [B.K, B.mg]
          rw [ex, B.prog, B.w, B.K, B.mg, B.base]
          exact hg
        · rw [hps']
          exact phi_len (by rw [hP, List.getElem?_map, hd']; rfl) k vs st
    have e : (fun vs st => phi Pr (k + 1) i vs st) = runFn (Pr.env k) d.fn := by
      funext vs st
      show (match Pr.fns[i]? with | some fn => runFn _ fn vs st | none => .no) = _
      rw [hP, List.getElem?_map, hd]; rfl
    show GFn P w K mg base (k + 1) fa fd d.ps (spG ⟨K, mg⟩ d.ps.length (fun vs st => phi Pr (k + 1) i vs st))
    rw [e]
    exact g
end
end G
set_option Elab.async false
set_option linter.all false
set_option maxRecDepth 100000
set_option maxHeartbeats 1000000
/-! GR: what the top has written; the law's end -/
namespace G
open PySem PySem.Spec PyProof.Rows L2
/-! ### written data -/
mutual
def repK (K : PySem.W.Frag) : PyData → Value → Bool
  | .none, .none => true
  | .bool b, .bool c => b == c
  | .int i, .int j _ => i == j
  | .str x, .str y _ => decide (x = y)
  | .tuple ds, .ref a => match K.lookup a with
    | some ⟨.type c, _, .seq its _, _⟩ => decide (c = "tuple") && decide (its.size ≤ sizeLine) && repKs K ds its.toList
    | _ => false
  | _, _ => false
def repKs (K : PySem.W.Frag) : List PyData → List Value → Bool
  | [], [] => true
  | d :: ds, u :: us => repK K d u && repKs K ds us
  | _, _ => false
end
mutual
theorem repK_ok {K : PySem.W.Frag} : ∀ (d : PyData) (u : Value), repK K d u = true → ∃ v, RelV v u ∧ ∀ H m, RepD K H m v d
  | .none, u, h => by cases u <;> first | (cases h; done) | exact ⟨.non, rfl, fun _ _ => .non⟩
  | .bool b, u, h => by
    cases u <;> first | (cases h; done) | skip
    rename_i c
    have h : (b == c) = true := h
    obtain rfl := eq_of_beq h
    exact ⟨.bl b, rfl, fun _ _ => .bl b⟩
  | .int b, u, h => by
    cases u <;> first | (cases h; done) | skip
    rename_i c t
    have h : (b == c) = true := h
    obtain rfl := eq_of_beq h
    exact ⟨.int b, ⟨t, rfl⟩, fun _ _ => .int b⟩
  | .str b, u, h => by
    cases u <;> first | (cases h; done) | skip
    rename_i c t
    have h : decide (b = c) = true := h
    obtain rfl := of_decide_eq_true h
    exact ⟨.str b, ⟨t, rfl⟩, fun _ _ => .str b⟩
  | .tuple ds, u, h => by
    cases u <;> first | (cases h; done) | skip
    rename_i a
    unfold repK at h
    split at h
    · rename_i c od its n sl hl
      simp only [Bool.and_eq_true, decide_eq_true_eq] at h
      obtain ⟨⟨rfl, h2⟩, h3⟩ := h
      obtain ⟨vs, r1, r2⟩ := repKs_ok ds _ h3
      exact ⟨.ref a, rfl, fun H m => .tup (.inr ⟨_, its, n, hl, rfl, rfl, h2, r1⟩) (r2 H m)⟩
    · cases h
  | .list _, u, h => by cases u <;> cases h
  | .dict _, u, h => by cases u <;> cases h
theorem repKs_ok {K : PySem.W.Frag} : ∀ (ds : List PyData) (us : List Value), repKs K ds us = true → ∃ vs, Vals vs us ∧ ∀ H m, RepDs K H m vs ds
  | [], [], h => ⟨[], .nil, fun _ _ => .nil⟩
  | [], _ :: _, h => by cases h
  | _ :: _, [], h => by cases h
  | d :: ds, u :: us, h => by
    have h : (repK K d u && repKs K ds us) = true := h
    rw [Bool.and_eq_true] at h
    obtain ⟨v, r1, r2⟩ := repK_ok d u h.1
    obtain ⟨vs, r3, r4⟩ := repKs_ok ds us h.2
    exact ⟨v :: vs, .cons r1 r3, fun H m => .cons (r2 H m) (r4 H m)⟩
end
theorem gl_plain {X : Cx} {x : Str} {u : Value} {d : PyData} {o : Option PyData} (ho : o = some d) (hm : X.mg x = some u) (h : repK X.K d u = true) : GlAt X o x false := by
  obtain ⟨v, r1, r2⟩ := repK_ok d u h
  exact ⟨d, u, v, ho, hm, r1, r2⟩
def keysOf : List (PyData × PyData) → List Str
  | [] => []
  | (.str x, _) :: r => x :: keysOf r
  | _ :: r => keysOf r
def strKeys : List (PyData × PyData) → Bool
  | [] => true
  | (.str _, _) :: r => strKeys r
  | _ => false
def valsW (K : PySem.W.Frag) (a : Addr) : List Value := match K.lookup a with
  | some ⟨_, _, .dict es _, _⟩ => es.toList.map (·.val)
  | _ => []
theorem find_at {K : PySem.W.Frag} {P : Params} : ∀ {kvs : List (PyData × PyData)} {l : List DictEntry}, strKeys kvs = true → l.map He.keyOf = He.keysIn P (keysOf kvs) → repKs K (kvs.map (·.2)) (l.map (·.val)) = true →
    (l.any (·.refKey) = false) ∧ ∀ z : Str, (findD kvs z = none ∧ l.find? (·.key.isStr z) = none) ∨ ∃ d e v, findD kvs z = some d ∧ l.find? (·.key.isStr z) = some e ∧ RelV v e.val ∧ ∀ H m, RepD K H m v d
  | [], [], _, _, _ => ⟨rfl, fun _ => .inl ⟨rfl, rfl⟩⟩
  | [], _ :: _, _, h, _ => by cases h
  | (.str x, d) :: kvs, [], _, h, _ => by cases h
  | (.str x, d) :: kvs, e :: l, hs, h, hv => by
    have h1 : He.keyOf e :: l.map He.keyOf = some (x, PyData.keyHash P x) :: He.keysIn P (keysOf kvs) := h
    injection h1 with h2 h3
    have hv2 : (repK K d e.val && repKs K (kvs.map (·.2)) (l.map (·.val))) = true := hv
    rw [Bool.and_eq_true] at hv2
    obtain ⟨hv3, hv4⟩ := hv2
    obtain ⟨i1, i2⟩ := find_at (K := K) (P := P) (kvs := kvs) (l := l) hs h3 hv4
    unfold He.keyOf at h2
    split at h2
    · rename_i y t hk
      obtain ⟨rfl, _⟩ := Prod.mk.inj (Option.some.inj h2)
      refine ⟨?_, fun z => ?_⟩
      · rw [List.any_cons, i1, Bool.or_false]
        simp [DictEntry.refKey, hk]
      · rw [List.find?_cons, PySem.W.isStr_of, hk]
        unfold findD
        by_cases hz : y = z
        · subst hz
          have e1 : Value.isStrOf y (.str y t) = true := by simp [Value.isStrOf]
          rw [e1, if_pos rfl]
          obtain ⟨v, r1, r2⟩ := repK_ok d e.val hv3
          exact .inr ⟨d, e, v, rfl, rfl, r1, r2⟩
        · have e1 : Value.isStrOf z (.str y t) = false := by simp [Value.isStrOf, hz]
          rw [e1, if_neg (by simp [hz])]
          exact i2 z
    · cases h2
  | (.none, _) :: _, _, h, _, _ => by cases h
  | (.bool _, _) :: _, _, h, _, _ => by cases h
  | (.int _, _) :: _, _, h, _, _ => by cases h
  | (.list _, _) :: _, _, h, _, _ => by cases h
  | (.tuple _, _) :: _, _, h, _, _ => by cases h
  | (.dict _, _) :: _, _, h, _, _ => by cases h
theorem gl_dict {X : Cx} {x : Str} {a : Addr} {kvs : List (PyData × PyData)} {o : Option PyData} (ho : o = some (.dict kvs)) (hm : X.mg x = some (.ref a)) (hs : strKeys kvs = true) (hk : He.dicW X.K a = some (He.keysIn X.w.params (keysOf kvs))) (hv : repKs X.K (kvs.map (·.2)) (valsW X.K a) = true) : GlAt X o x true := by
  obtain ⟨es, n, D⟩ := He.dicW_ok hk
  refine ⟨kvs, ho, a, es, n, hm, D, ?_⟩
  have hw : valsW X.K a = es.toList.map (·.val) := by unfold valsW; rw [D.at_]
  rw [hw] at hv
  have hk' : es.toList.map He.keyOf = He.keysIn X.w.params (keysOf kvs) := by
    unfold He.dicW at hk
    rw [D.at_] at hk
    dsimp only at hk
    split at hk
    · exact Option.some.inj hk
    · cases hk
  obtain ⟨i1, i2⟩ := find_at (K := X.K) hs hk' hv
  intro z
  rcases i2 z with ⟨h1, h2⟩ | ⟨d, e, v, h1, h2, h3, h4⟩
  · refine .inl ⟨h1, ?_⟩
    unfold PySem.W.nsIn
    rw [D.at_]
    dsimp only
    rw [h2]
    dsimp only
    rw [if_neg (by rw [i1]; exact Bool.false_ne_true)]
  · refine .inr ⟨d, e.val, v, h1, ?_, h3, h4⟩
    unfold PySem.W.nsIn
    rw [D.at_]
    dsimp only
    rw [h2]
/-! ### the law's call -/
theorem law_callG {P : Program} {w : World} {K : PySem.W.Frag} {mg mb : Str → Option Value} {k : Nat} {fa a : Addr} {fd : FuncData} {x : Str} {F : List Val → Store → R Val} {s₁ : Shared} {vs : List Value} {ns : List Int} {mm : Str → Option Value}
    (KX : K.In s₁.heap) (hns : s₁.heap.Ns mainGlobals mg) (hbn : s₁.heap.Ns builtinsNs mb) (hbb : ∀ x : Str, x ≠ "__name__" → mb x = bootBuiltins x) (hlim : s₁.heap.NoLimit) (hsm : s₁.heap.Ns sysModules mm) (hgen : s₁.gens = #[])
    (ha : s₁.heap.get? a = some { cls := .type "list", data := .seq vs.toArray }) (hi : IntsAre vs ns) (hl : ns.length ≤ sizeLine) (hr : Room k callerA)
    (hF : ∀ base : Heap, K.In base → (∃ o, base.get? sysModules = some o) → GFn P w K mg base k fa fd [x] (spG ⟨K, mg⟩ 1 F)) (hbd : Binds K fd [x] [])
    (law : ∃ st, F [.scr ns] [] = .ok (.d (.bool true)) st) :
    codeAny (model P w) callerA (.call (.ref fa) ⟨[.ref a], []⟩) (fun r s' => r = .ok (.ret (.bool true)) ∧ OldK s₁.heap s'.heap ∧ s'.os = s₁.os ∧ AllBare s'.gens) s₁ := by
  have rv := vals_ints hi
  have hlen := hi.length
  have main : ∀ H : Hp, Only H → SqL K H a (ns.map V.int) → HOk P w H s₁.heap → (∀ b, H b ≠ none → b = a) → (H a ≠ none → K.lookup a = none) →
      codeAny (model P w) callerA (.call (.ref fa) ⟨[.ref a], []⟩) (fun r s' => r = .ok (.ret (.bool true)) ∧ OldK s₁.heap s'.heap ∧ s'.os = s₁.os ∧ AllBare s'.gens) s₁ := by
    intro H hO hS hok hA hK
    have plain : ∀ {b : Addr} {o : Obj} {es : Array DictEntry} {ep : Nat}, s₁.heap.get? b = some o → o.data = .dict es ep → H b = none := fun {b o es ep} e d => by
      by_cases q : H b = none
      · exact q
      · obtain rfl := hA b q
        rw [ha] at e
        obtain rfl := Option.some.inj e
        cases (show Data.seq vs.toArray _ = Data.dict es ep from d)
    have hidden : ∀ {b : Addr} {o : Obj}, s₁.heap.get? b = some o → H b = none → (hidT s₁.heap H).get? b = some o := fun e n => hidT_get e n
    have dicts : ∀ {b : Addr} {m : Str → Option Value}, s₁.heap.Ns b m → (hidT s₁.heap H).Ns b m := fun {b m} ⟨o, es, ep, e, d, r⟩ => ⟨o, es, ep, hidden e (plain e d), d, r⟩
    have kb : K.In (hidT s₁.heap H) := fun b o e => hidden (KX b o e) (by
      by_cases q : H b = none
      · exact q
      · obtain rfl := hA b q
        rw [hK q] at e
        cases e)
    have hmod : Mod K mg (hidT s₁.heap H) := ⟨kb, dicts hns, ⟨mb, dicts hbn, hbb⟩, let ⟨mc, h1, h2⟩ := hlim; ⟨mc, dicts h1, h2⟩⟩
    have env0 : Env0 P w K mg (hidT s₁.heap H) callerA [] s₁ H := ⟨rfl, hmod, fun b o e => of_hidT e, Nat.le_of_eq (hidT_size _ _), trivial, fun b hb => absurd (show b ∈ ([] : List Addr) from hb) (by simp), hok, .of_eq hgen⟩
    have sm : ∃ o, (hidT s₁.heap H).get? sysModules = some o := let ⟨o, _, _, e, _⟩ := dicts hsm; ⟨o, e⟩
    have bind := hbd s₁ [.ref a] KX rfl
    rw [List.append_nil] at bind
    have hsp : spG ⟨K, mg⟩ 1 F [.ref a] H (fun v _ => v = .bl true) fun _ _ _ => False := by
      obtain ⟨st, hst⟩ := law
      refine ⟨rfl, ⟨[], fun _ => False⟩, [], [.scr ns], ⟨rfl, fun i j b h => by simp at h, fun n h => by simp at h, fun b h => (by cases h), fun b h => (by cases h), fun b h => h.elim, fun n b c h => by simp at h⟩, .cons (.scr ?_) .nil, ?_⟩
      · rcases hS with hS | hS
        · rcases hS with hS | ⟨o, hS⟩
          · rcases hO a with z | ⟨o, xs, z⟩
            · rw [z] at hS; cases hS
            · rw [z] at hS; cases hS
          · exact .inl ⟨o, hS, fun z => (by cases z), fun z => z⟩
        · exact .inr hS
      · rw [hst]
        exact fun m' H' _ _ x rx => inv_bl rx
    refine codeAny_mono ((hF _ kb sm).run callerA [] s₁ H ⟨[.ref a], []⟩ [.ref a] [.ref a] _ _ hr rfl env0 bind (.cons rfl .nil) hsp) fun r s' h => ?_
    cases r with
    | error e =>
      obtain ⟨_, _, _, _, _, _, _, _, _, _, _, _, z⟩ := h
      exact z.elim
    | ok fl =>
      cases fl with
      | next => exact h.elim
      | brk => exact h.elim
      | cont => exact h.elim
      | ret u =>
        obtain ⟨v, H', os, bare, un, hok', r', q⟩ := h
        obtain rfl : v = .bl true := q
        obtain rfl : u = Value.bool true := r'
        refine ⟨rfl, OldK.of_keep fun b o e => ?_, os, bare⟩
        rcases hO b with z | ⟨ob, xs, z⟩
        · exact un.keep b o e z (fun y => by cases y) (by simp)
        · obtain ⟨e1, _⟩ := hok b _ z
          obtain ⟨e2, _⟩ := hok' b _ (un.frzs b ob _ z)
          rw [e] at e1
          rw [Option.some.inj e1]
          exact e2
  cases hk : K.lookup a with
  | some o =>
    have e := KX a o hk
    rw [ha] at e
    obtain rfl := Option.some.inj e
    exact main (fun _ => none) (fun _ => .inl rfl) (.inr ⟨_, vs.toArray, _, hk, rfl, rfl, rfl, by rw [List.size_toArray, hlen]; exact hl, by simpa using rv⟩) (fun b u z => by cases (show (none : Option HO) = some u from z)) (fun b z => absurd rfl z) fun z => absurd rfl z
  | none =>
    refine main (fun b => if b = a then some (.frz { cls := .type "list", data := .seq vs.toArray } (.lst (ns.map V.int))) else none) (fun b => ?_) (.inl (.inr ⟨{ cls := .type "list", data := .seq vs.toArray }, if_pos rfl⟩)) (fun b u z => ?_) (fun b z => ?_) fun _ => hk
    · by_cases hb : b = a
      · exact .inr ⟨_, _, if_pos hb⟩
      · exact .inl (if_neg hb)
    · by_cases hb : b = a
      · obtain rfl := hb
        cases (if_pos rfl).symm.trans z
        exact ⟨ha, by rw [List.length_map]; exact hl, vs, _, rv, ha⟩
      · cases (if_neg hb).symm.trans z
    · by_cases hb : b = a
      · exact hb
      · exact absurd (if_neg hb) z
theorem walk_G {l : PySem.W.OpenLaw} {n k i : Nat} {q : Program} {loose : List Str} {XP : (Str → Option Value) → Heap → Prop} {YP : World → Heap → Prop} {d : DefRec} {K : Params → PySem.W.Frag} {T : Tab} {Pr : Prg} {defs : List Dfn} {dd : Dfn} {x : Str}
    (hn : l.most = some n) (hn2 : n ≤ sizeLine) (hdf : d.params.defaults = []) (hr : Room k callerA) (hq : importsNone q = true)
    (hY : ∀ (w : World) (h : Heap), YP w h → (K w.params).In h)
    (hT : T.fns = defs.map (·.name)) (hP : Pr.fns = defs.map (·.fn)) (hc : defs.all (chkD T) = true) (hd : defs[i]? = some dd) (hps : dd.ps = [x]) (hnm : dd.name = d.name)
    (law : ∀ ns : List Int, ns.length ≤ n → (∀ z ∈ ns, Builtin.Int.intBits z ≤ 1048576) → ∃ st, phi Pr k i [.scr ns] [] = .ok (.d (.bool true)) st)
    (A : ∀ (w : World) (mg : Str → Option Value) (h : Heap), (K w.params).In h → h.Ns mainGlobals mg → Facts w (K w.params) mg T Pr defs) :
    PySem.W.WalkO q loose XP YP l.row.toRowW d [] (fun f vs => PySem.call f vs) := by
  refine Att.attach_callB hn hdf fun w s₀ s₁ mg mb fa o pm cd doc a vs ns G Y ho hdd hcd hmg hobj hints hlen hbits hg => ?_
  have KX := hY w _ Y
  have F := A w mg _ KX G.T.g
  obtain ⟨fa', fd, hf, hm, hb⟩ := F.fns i dd hd
  rw [hnm, hmg] at hm
  obtain rfl : fa = fa' := Value.ref.inj (Option.some.inj hm)
  obtain ⟨mm, hmm, _⟩ := (G.T.seer hq).mods
  rw [hps] at hb
  refine law_callG KX G.T.g G.T.b G.T.builtins G.T.nolimit hmm hg hobj hints (Nat.le_trans hlen hn2) hr (fun base kb sm => ?_) hb (law ns hlen hbits)
  have g := all_defs (P := l.prog) (base := base) F sm hT hP hc k i dd hd fa fd hf
  rw [hps] at g
  exact g
end G
set_option Elab.async false
set_option linter.all false
set_option maxRecDepth 100000
/-! GS: what the head gives, put together -/
namespace G
open PySem PySem.Spec PyProof.Rows L2
def FnF (K : PySem.W.Frag) (mg : Str → Option Value) (d : Dfn) : Prop := ∃ fa fd, Fun K d.name d.name d.stm fa fd ∧ mg d.name = some (.ref fa) ∧ Binds K fd d.ps []
inductive AllF (K : PySem.W.Frag) (mg : Str → Option Value) : List Dfn → Prop
  | nil : AllF K mg []
  | cons {d : Dfn} {r : List Dfn} : FnF K mg d → AllF K mg r → AllF K mg (d :: r)
theorem AllF.at_ {K : PySem.W.Frag} {mg : Str → Option Value} : ∀ {l : List Dfn}, AllF K mg l → ∀ (i : Nat) (d : Dfn), l[i]? = some d → FnF K mg d
  | _, .nil, i, d, h => by simp at h
  | _, .cons f r, 0, d, h => by
    rw [List.getElem?_cons_zero] at h
    cases h; exact f
  | _, .cons f r, i + 1, d, h => r.at_ i d (by rw [List.getElem?_cons_succ] at h; exact h)
theorem fn_fact {K : PySem.W.Frag} {h : Heap} {mg : Str → Option Value} (X : K.In h) (G : h.Ns mainGlobals mg) {x : Str} {st : Stmt} {N : List Str} {fn : Fn} {f : Addr} {oc : Value} {od an : Option Addr} {osl : Array (Option Value)} {kV doc pm cdv ct : Value}
    (a : PySem.W.nsIn K mainGlobals x = some (some (.ref f))) (l : K.lookup f = some ⟨oc, od, .func (PySem.W.fnOf x x (defArgs st) (defBody st) (defScope st) .none kV doc pm an cdv ct), osl⟩) (c : PySem.W.codeIn K cdv x = true) (k : PySem.W.keepIn K (.ref f) = true)
    (b : ∀ (kV doc pm : Value) (an : Option Addr) (cdv ct : Value) (us : List Value), us.length = (N.take fn.np).length → bindArgs (PySem.W.fnOf x x (defArgs st) (defBody st) (defScope st) .none kV doc pm an cdv ct) ⟨us, []⟩ = pure ((N.take fn.np).zip us)) : FnF K mg ⟨x, st, N, fn⟩ :=
  ⟨f, _, fun_mk l c k, PySem.W.mg_of X G a, (fun_mk l c k).binds b⟩
inductive GF (w : World) (K : PySem.W.Frag) (mg : Str → Option Value) (x : Str) : Bool → PyData → Prop
  | plain {d : PyData} {u : Value} : mg x = some u → repK K d u = true → GF w K mg x false d
  | dict {kvs : List (PyData × PyData)} {a : Addr} : mg x = some (.ref a) → strKeys kvs = true → He.dicW K a = some (He.keysIn w.params (keysOf kvs)) → repKs K (kvs.map (·.2)) (valsW K a) = true → GF w K mg x true (.dict kvs)
inductive AllG (w : World) (K : PySem.W.Frag) (mg : Str → Option Value) : List (Str × Bool) → List PyData → Prop
  | nil : AllG w K mg [] []
  | cons {x : Str} {b : Bool} {d : PyData} {r : List (Str × Bool)} {ds : List PyData} : GF w K mg x b d → AllG w K mg r ds → AllG w K mg ((x, b) :: r) (d :: ds)
theorem AllG.at_ {X : Cx} {w : World} {K : PySem.W.Frag} {mg : Str → Option Value} (hK : X.K = K) (hm : X.mg = mg) (hw : X.w = w) : ∀ {l : List (Str × Bool)} {ds : List PyData}, AllG w K mg l ds → ∀ (n : Nat) (x : Str) (b : Bool), l[n]? = some (x, b) → GlAt X ds[n]? x b
  | _, _, .nil, n, x, b, h => by simp at h
  | _, _, .cons f r, 0, x, b, h => by
    rw [List.getElem?_cons_zero] at h
    cases h
    cases f with
    | plain h1 h2 => exact gl_plain rfl (by rw [hm]; exact h1) (by rw [hK]; exact h2)
    | dict h1 h2 h3 h4 => exact gl_dict rfl (by rw [hm]; exact h1) h2 (by rw [hK, hw]; exact h3) (by rw [hK]; exact h4)
  | _, _, .cons f r, n + 1, x, b, h => by
    rw [List.getElem?_cons_succ] at h ⊢
    exact r.at_ hK hm hw n x b h
theorem gf_plain {w : World} {K : PySem.W.Frag} {h : Heap} {mg : Str → Option Value} (X : K.In h) (G : h.Ns mainGlobals mg) {x : Str} {d : PyData} {u : Value} (a : PySem.W.nsIn K mainGlobals x = some (some u)) (r : repK K d u = true) : GF w K mg x false d := .plain (PySem.W.mg_of X G a) r
theorem gf_dict {w : World} {K : PySem.W.Frag} {h : Heap} {mg : Str → Option Value} (X : K.In h) (G : h.Ns mainGlobals mg) {x : Str} {kvs : List (PyData × PyData)} {u : Addr} (a : PySem.W.nsIn K mainGlobals x = some (some (.ref u))) (s : strKeys kvs = true) (k : He.dicW K u = some (He.keysIn w.params (keysOf kvs))) (r : repKs K (kvs.map (·.2)) (valsW K u) = true) :
    GF w K mg x true (.dict kvs) := .dict (PySem.W.mg_of X G a) s k r
inductive AllB (mg : Str → Option Value) : List Str → Prop
  | nil : AllB mg []
  | cons {x : Str} {r : List Str} : mg x = none → AllB mg r → AllB mg (x :: r)
theorem AllB.at_ {mg : Str → Option Value} : ∀ {l : List Str}, AllB mg l → ∀ x, l.contains x = true → mg x = none
  | _, .nil, x, h => by simp at h
  | _, .cons (x := y) f r, x, h => by
    rw [List.contains_cons, Bool.or_eq_true] at h
    rcases h with h | h
    · rw [eq_of_beq h]; exact f
    · exact r.at_ x h
theorem facts_of {w : World} {K : PySem.W.Frag} {mg : Str → Option Value} {T : Tab} {Pr : Prg} {defs : List Dfn} (f : AllF K mg defs) (g : AllG w K mg T.globs Pr.glob) (b : AllB mg T.bis) : Facts w K mg T Pr defs :=
  ⟨f.at_, fun X hK hm hw => g.at_ hK hm hw, b.at_⟩
end G
set_option Elab.async false
set_option linter.all false
set_option maxRecDepth 100000
/-! GW: tools for plain runs of the small language -/
namespace G
open PySem PySem.Spec PyProof.Rows
/-! ### runs, step by step -/
theorem leave_same (keep ok : Bool) (st : Store) : leaveS keep st ok st = some st := by unfold leaveS; simp
def finR (keep : Bool) (st : Store) : R Fl → R Val
  | .ok (.next _) st1 => match leaveS keep st true st1 with
    | some st2 => .ok (.d .none) st2
    | none => .no
  | .ok (.ret v) st1 => match leaveS keep st (valOk st.length v) st1 with
    | some st2 => .ok v st2
    | none => .no
  | .ok (.exc e _) st1 => match leaveS keep st (e.flds.all fun p => valOk st.length p.2) st1 with
    | some st2 => .exc e st2
    | none => .no
  | _ => .no
theorem phi_at {P : Prg} {k f : Nat} {fn : Fn} (h : P.fns[f]? = some fn) (vs : List Val) (st : Store) (hl : vs.length = fn.np) : phi P (k + 1) f vs st = finR fn.keep st (exs (P.env k) fn.body (startR fn.ns vs) st) := by
  unfold phi
  rw [h]
  dsimp only
  unfold runFn
  rw [if_pos hl]
  cases exs (P.env k) fn.body (startR fn.ns vs) st with
  | ok fl st1 => cases fl <;> rfl
  | exc e st1 => rfl
  | no => rfl
theorem fin_ret {keep : Bool} {st : Store} {v : Val} : finR keep st (.ok (.ret v) st) = .ok v st := by
  show (match leaveS keep st (valOk st.length v) st with | some st2 => R.ok v st2 | none => .no) = _
  rw [leave_same]
theorem fin_next {keep : Bool} {st : Store} {ρ : Rho} : finR keep st (.ok (.next ρ) st) = .ok (.d .none) st := by
  show (match leaveS keep st true st with | some st2 => R.ok (Val.d .none) st2 | none => .no) = _
  rw [leave_same]
theorem bind_okR {α β : Type} (a : α) (st : Store) (f : α → Store → R β) : (R.ok a st).bind f = f a st := rfl
theorem cat_ok {α : Type} (a : α) (st : Store) (ρ : Rho) (f : α → Store → R Fl) : (R.ok a st).cat ρ f = f a st := rfl
theorem noX_ok (fl : Fl) (st : Store) : (R.ok fl st).noX = .ok fl st := rfl
theorem noExc_ok {α : Type} (a : α) (st : Store) : (R.ok a st).noExc = .ok a st := rfl
theorem ofO_some {α : Type} (a : α) (st : Store) : R.ofO (some (a, st)) = .ok a st := rfl
theorem ofOpt_some {α : Type} (a : α) (st : Store) : ofOpt (some a) st = .ok a st := rfl
theorem truth_bl (b : Bool) (st : Store) : truthR (.d (.bool b)) st = .ok b st := rfl
theorem guard_pos {α : Type} {c : Prop} [Decidable c] {x : Option α} (h : c) : guard' c x = x := by unfold guard'; rw [if_pos h]
/-! ### comprehensions -/
theorem foldR_opt {f : Val → Store → R (Option Val)} {g : Val → Option Val} {st : Store} : ∀ {xs : List Val}, (∀ x ∈ xs, f x st = .ok (g x) st) → foldR f none xs st = .ok (xs.filterMap g) st
  | [], _ => rfl
  | x :: r, h => by
    have e : foldR f none (x :: r) st = (f x st).bind fun o st1 => (foldR f none r st1).bind fun ys st2 => .ok (o.toList ++ ys) st2 := rfl
    rw [e, h x List.mem_cons_self, bind_okR, foldR_opt fun y hy => h y (List.mem_cons_of_mem _ hy), bind_okR]
    cases q : g x with
    | none => simp [q]
    | some y => simp [q]
theorem foldR_map {f : Val → Store → R (Option Val)} {g : Val → Val} {st : Store} {xs : List Val} (h : ∀ x ∈ xs, f x st = .ok (some (g x)) st) : foldR f none xs st = .ok (xs.map g) st := by
  rw [foldR_opt (g := fun x => some (g x)) h]
  congr 1
  induction xs with
  | nil => rfl
  | cons x r ih => simp
theorem datas_map (ds : List PyData) : datas (ds.map Val.d) = some ds := by
  induction ds with
  | nil => rfl
  | cons d r ih => show (datas (r.map Val.d)).map (d :: ·) = _; rw [ih]; rfl
theorem boolsOf_map (bs : List Bool) : boolsOf (bs.map PyData.bool) = some bs := by
  induction bs with
  | nil => rfl
  | cons d r ih => show (boolsOf (r.map PyData.bool)).map (d :: ·) = _; rw [ih]; rfl
theorem strsOf_map (bs : List Str) : strsOf (bs.map PyData.str) = some bs := by
  induction bs with
  | nil => rfl
  | cons d r ih => show (strsOf (r.map PyData.str)).map (d :: ·) = _; rw [ih]; rfl
theorem mkList_data {ds : List PyData} {st : Store} (h : ds.length ≤ sizeLine) : mkList false (ds.map Val.d) st = .ok (.d (.list ds)) st := by
  unfold mkList
  rw [if_pos (by simpa using h)]
  simp [datas_map]
/-- a comprehension of data over data, the store as it was -/
theorem ev_comp_data {N : Env'} {elt : E} {tg : Tg} {it : It} {ifs : Es} {own : List Nat} {ρ : Rho} {st : Store} {xs ys : List PyData} (hi : evIt N it ρ st = .ok (xs.map Val.d, none) st)
    {g : PyData → Option PyData} (hf : ∀ x ∈ xs, ((asg N tg (.d x) (wipeR ρ own) st).bind fun ρ1 st3 => (evTests N ifs ρ1 st3).bind fun b st4 => if b then (ev N elt ρ1 st4).bind fun y st5 => .ok (some y) st5 else .ok none st4) = .ok ((g x).map Val.d) st)
    (hy : xs.filterMap g = ys) (hl : ys.length ≤ sizeLine) : ev N (.comp false elt tg it ifs own) ρ st = .ok (.d (.list ys)) st := by
  rw [ev, hi, bind_okR]
  have e : foldR (fun x st2 => (asg N tg x (wipeR ρ own) st2).bind fun ρ1 st3 => (evTests N ifs ρ1 st3).bind fun b st4 => if b then (ev N elt ρ1 st4).bind fun y st5 => .ok (some y) st5 else .ok none st4) none (xs.map Val.d) st = .ok (ys.map Val.d) st := by
    rw [foldR_opt (g := fun v => match v with | .d x => (g x).map Val.d | _ => none)]
    · congr 1
      rw [← hy]
      clear hf hi hy hl
      induction xs with
      | nil => rfl
      | cons x r ih =>
        rw [List.map_cons, List.filterMap_cons, List.filterMap_cons]
        cases q : g x with
        | none => simp [q, ih]
        | some z => simp [q, ih]
    · intro v hv
      obtain ⟨x, hx, rfl⟩ := List.mem_map.mp hv
      exact hf x hx
  dsimp only
  rw [e, noExc_ok, bind_okR, mkList_data hl]
theorem filterMap_some {α β : Type} (g : α → β) (xs : List α) : xs.filterMap (fun x => some (g x)) = xs.map g := by
  induction xs with
  | nil => rfl
  | cons x r ih => simp
/-! ### signs in texts -/
theorem in_one (y : Str) (c : Nat) (st : Store) : isInO (.d (.str ⟨#[c]⟩)) (.d (.str y)) st = some (decide (c ∈ y.cps.toList)) := by
  show some (!(Builtin.Str.occurrences y ⟨#[c]⟩ 0 y.length 1).isEmpty) = _
  rw [PySem.StrLaws.found_one]
/-! ### each kind of node -/
section
variable (N : Env') (ρ : Rho) (st : Store)
@[simp] theorem ev_var (i : Nat) : ev N (.var i) ρ st = match ρ[i]? with | some (some v) => .ok v st | _ => .no := by rw [ev] <;> rfl
@[simp] theorem ev_cst (d : PyData) : ev N (.cst d) ρ st = .ok (.d d) st := by rw [ev]
@[simp] theorem ev_glob (n : Nat) : ev N (.glob n) ρ st = match N.glob n with | some d => .ok (.d d) st | none => .no := by rw [ev] <;> rfl
@[simp] theorem ev_bin (o : Bop) (a b : E) : ev N (.bin o a b) ρ st = (ev N a ρ st).bind fun x st1 => (ev N b ρ st1).bind fun y st2 => R.ofO (binO o x y st2) := by rw [ev]; rfl
@[simp] theorem ev_neg (a : E) : ev N (.neg a) ρ st = (ev N a ρ st).bind fun v st1 => match v with | .d (.int i) => .ok (.d (.int (-i))) st1 | _ => .no := by rw [ev] <;> rfl
@[simp] theorem ev_cmp (o : Cop) (a b : E) : ev N (.cmp o a b) ρ st = (ev N a ρ st).bind fun x st1 => (ev N b ρ st1).bind fun y st2 => R.ofO (cmpO o x y st2) := by rw [ev]; rfl
@[simp] theorem ev_chain (o o' : Cop) (a b c : E) : ev N (.chain o o' a b c) ρ st = (ev N a ρ st).bind fun x st1 => (ev N b ρ st1).bind fun y st2 => (R.ofO (cmpO o x y st2)).bind fun k st3 => match k with
    | .d (.bool true) => (ev N c ρ st3).bind fun z st4 => R.ofO (cmpO o' y z st4)
    | .d (.bool false) => .ok (.d (.bool false)) st3
    | _ => .no := by rw [ev] <;> rfl
@[simp] theorem ev_and (es : Es) : ev N (.and es) ρ st = evAnd N es ρ st := by rw [ev]
@[simp] theorem ev_or (es : Es) : ev N (.or es) ρ st = evOr N es ρ st := by rw [ev]
@[simp] theorem ev_not (a : E) : ev N (.not a) ρ st = (ev N a ρ st).bind fun v st1 => (truthR v st1).bind fun b st2 => .ok (.d (.bool (!b))) st2 := by rw [ev]
@[simp] theorem ev_ite (c a b : E) : ev N (.ite c a b) ρ st = (ev N c ρ st).bind fun v st1 => (truthR v st1).bind fun k st2 => if k then ev N a ρ st2 else ev N b ρ st2 := by rw [ev]
@[simp] theorem ev_tup (es : Es) : ev N (.tup es) ρ st = (evs N es ρ st).bind fun vs st1 => match datas vs with
    | some ds => if ds.length ≤ sizeLine then .ok (.d (.tuple ds)) st1 else .no
    | none => .no := by rw [ev] <;> rfl
@[simp] theorem ev_lst (mu : Bool) (es : Es) : ev N (.lst mu es) ρ st = (evs N es ρ st).bind fun vs st1 => mkList mu vs st1 := by rw [ev]
@[simp] theorem ev_dct (mu : Bool) (kvs : Kvs) : ev N (.dct mu kvs) ρ st = (evKv N kvs ρ st).bind fun p st1 => mkDict mu p.1 p.2 st1 := by rw [ev]
@[simp] theorem ev_ix (a i : E) : ev N (.ix a i) ρ st = (ev N a ρ st).bind fun x st1 => (ev N i ρ st1).bind fun y st2 => R.ofO (oIx x y st2) := by rw [ev]; rfl
@[simp] theorem ev_slice (a : E) (lo hi : Pt) : ev N (.slice a lo hi) ρ st = (ev N a ρ st).bind fun x st1 => (evPart N lo ρ st1).bind fun l st2 => (evPart N hi ρ st2).bind fun u st3 => R.ofO (oSlice x l u st3) := by rw [ev]
@[simp] theorem ev_rev (a : E) : ev N (.rev a) ρ st = (ev N a ρ st).bind fun x st1 => match x with
    | .d (.tuple xs) => .ok (.d (.tuple xs.reverse)) st1
    | x => match lsDat st1 x with
      | some xs => .ok (.d (.list xs.reverse)) st1
      | none => .no := by rw [ev] <;> rfl
@[simp] theorem ev_inG (neg : Bool) (a : E) (g : Nat) : ev N (.inG neg a g) ρ st = (ev N a ρ st).bind fun v st1 => match v, N.glob g with
    | .d (.str x), some (.dict kvs) => .ok (.d (.bool (if neg then !(findD kvs x).isSome else (findD kvs x).isSome))) st1
    | _, _ => .no := by rw [ev] <;> rfl
@[simp] theorem ev_ixG (g : Nat) (a : E) : ev N (.ixG g a) ρ st = (ev N a ρ st).bind fun v st1 => match v, N.glob g with
    | .d (.str x), some (.dict kvs) => match findD kvs x with
      | some d => .ok (.d d) st1
      | none => .no
    | _, _ => .no := by rw [ev] <;> rfl
@[simp] theorem ev_call (f : Nat) (es : Es) : ev N (.call f es) ρ st = (evs N es ρ st).bind fun vs st1 => N.fns f vs st1 := by rw [ev]
@[simp] theorem ev_bi (b : Bi) (es : Es) : ev N (.bi b es) ρ st = (evs N es ρ st).bind fun vs st1 => R.ofO (biO b vs st1) := by rw [ev]
@[simp] theorem ev_isi (a : E) (ts : List Ty) : ev N (.isi a ts) ρ st = (ev N a ρ st).bind fun v st1 => R.ofO ((isiO st1 v ts).bind fun k => bl st1 k) := by rw [ev]
@[simp] theorem ev_me (m : Me) (a : E) (es : Es) : ev N (.me m a es) ρ st = (ev N a ρ st).bind fun x st1 => if recv m st1 x = true then (evs N es ρ st1).bind fun vs st2 => R.ofO (meO m x vs st2) else .no := by rw [ev]
@[simp] theorem ev_frz (a : E) : ev N (.frz a) ρ st = (ev N a ρ st).bind fun v st1 => match v with
    | .loc n => match st1[n]? with
      | some (.lst xs) => match datas xs with
        | some ds => .ok (.d (.list ds)) (st1.set n .dead)
        | none => .no
      | _ => .no
    | v => .ok v st1 := by rw [ev] <;> rfl
@[simp] theorem evs_nil : evs N .nil ρ st = .ok [] st := by rw [evs]
@[simp] theorem evs_cons (e : E) (r : Es) : evs N (.cons e r) ρ st = (ev N e ρ st).bind fun v st1 => (evs N r ρ st1).bind fun vs st2 => .ok (v :: vs) st2 := by rw [evs]
@[simp] theorem evKv_nil : evKv N .nil ρ st = .ok ([], []) st := by rw [evKv]
@[simp] theorem evKv_cons (k v : E) (r : Kvs) : evKv N (.cons k v r) ρ st = (ev N k ρ st).bind fun x st1 => (ev N v ρ st1).bind fun y st2 => (evKv N r ρ st2).bind fun p st3 => .ok (x :: p.1, y :: p.2) st3 := by rw [evKv]
@[simp] theorem evPart_no : evPart N .no ρ st = .ok none st := by rw [evPart]
@[simp] theorem evPart_e (a : E) : evPart N (.e a) ρ st = (ev N a ρ st).bind fun v st1 => match v with | .d (.int i) => .ok (some i) st1 | _ => .no := by rw [evPart] <;> rfl
@[simp] theorem evAnd_one (a : E) : evAnd N (.cons a .nil) ρ st = ev N a ρ st := by rw [evAnd]
@[simp] theorem evAnd_two (a b : E) (r : Es) : evAnd N (.cons a (.cons b r)) ρ st = (ev N a ρ st).bind fun v st1 => (truthR v st1).bind fun k st2 => if k then evAnd N (.cons b r) ρ st2 else .ok v st2 := by rw [evAnd] <;> first | rfl | (intro z; cases z)
@[simp] theorem evOr_one (a : E) : evOr N (.cons a .nil) ρ st = ev N a ρ st := by rw [evOr]
@[simp] theorem evOr_two (a b : E) (r : Es) : evOr N (.cons a (.cons b r)) ρ st = (ev N a ρ st).bind fun v st1 => (truthR v st1).bind fun k st2 => if k then .ok v st2 else evOr N (.cons b r) ρ st2 := by rw [evOr] <;> first | rfl | (intro z; cases z)
@[simp] theorem evTests_nil : evTests N .nil ρ st = .ok true st := by rw [evTests]
@[simp] theorem evTests_one (a : E) : evTests N (.cons a .nil) ρ st = (ev N a ρ st).bind fun v st1 => truthR v st1 := by rw [evTests]
@[simp] theorem evIt_e (a : E) : evIt N (.e a) ρ st = (ev N a ρ st).bind fun v st1 => ofOpt (seqItems v st1) st1 := by rw [evIt]
@[simp] theorem evIt_rng (as : Es) : evIt N (.rng as) ρ st = (evs N as ρ st).bind fun vs st1 => ofOpt (rngO vs) st1 := by rw [evIt]
@[simp] theorem evIt_enum (as : Es) : evIt N (.enum as) ρ st = (evs N as ρ st).bind fun vs st1 => ofOpt (enumO vs st1) st1 := by rw [evIt]
@[simp] theorem evIt_zip (as : Es) : evIt N (.zip as) ρ st = (evs N as ρ st).bind fun vs st1 => ofOpt (zipO vs st1) st1 := by rw [evIt]
@[simp] theorem asg_name (i : Nat) (v : Val) : asg N (.name i) v ρ st = if i < ρ.length then .ok (ρ.set i (some v)) st else .no := by rw [asg]
@[simp] theorem asg_tup (ts : Tgs) (xs : List PyData) : asg N (.tup ts) (.d (.tuple xs)) ρ st = asgs N ts (xs.map Val.d) ρ st := by rw [asg]
@[simp] theorem asg_sub (a i : E) (v : Val) : asg N (.sub a i) v ρ st = (ev N a ρ st).bind fun o st1 => (ev N i ρ st1).bind fun k st2 => match setO o k v st2 with
    | some st3 => .ok ρ st3
    | none => .no := by rw [asg] <;> rfl
@[simp] theorem asgs_nil : asgs N .nil [] ρ st = .ok ρ st := by rw [asgs]
@[simp] theorem asgs_cons (t : Tg) (r : Tgs) (v : Val) (vs : List Val) : asgs N (.cons t r) (v :: vs) ρ st = (asg N t v ρ st).bind fun ρ1 st1 => asgs N r vs ρ1 st1 := by rw [asgs]
@[simp] theorem ex_expr (e : E) : ex N (.expr e) ρ st = (ev N e ρ st).cat ρ fun _ st1 => .ok (.next ρ) st1 := by rw [ex]
@[simp] theorem ex_asg (t : Tg) (e : E) : ex N (.asg t e) ρ st = (ev N e ρ st).cat ρ fun v st1 => (asg N t v ρ st1).noExc.bind fun ρ1 st2 => .ok (.next ρ1) st2 := by rw [ex]
@[simp] theorem ex_par (i j : Nat) (a b : E) : ex N (.par i j a b) ρ st = (ev N a ρ st).cat ρ fun v st1 => (ev N b ρ st1).cat ρ fun u st2 => if i < ρ.length ∧ j < ρ.length then .ok (.next ((ρ.set i (some v)).set j (some u))) st2 else .no := by rw [ex]
@[simp] theorem ex_ret (e : E) : ex N (.ret e) ρ st = (ev N e ρ st).cat ρ fun v st1 => .ok (.ret v) st1 := by rw [ex]
@[simp] theorem ex_retn : ex N .retn ρ st = .ok (.ret (.d .none)) st := by rw [ex]
@[simp] theorem ex_ite (c : E) (a b : Ss) : ex N (.ite c a b) ρ st = ((ev N c ρ st).bind fun v st1 => truthR v st1).cat ρ fun k st1 => if k then exs N a ρ st1 else exs N b ρ st1 := by rw [ex]; rfl
theorem ex_for (t : Tg) (it : It) (b : Ss) : ex N (.for_ t it b) ρ st = (evIt N it ρ st).cat ρ fun p st1 => forL (fun x ρ1 st2 => (asg N t x ρ1 st2).noExc.bind fun ρ2 st3 => exs N b ρ2 st3) p.2 p.1 ρ st1 := by rw [ex]
theorem ex_while (c : E) (b : Ss) : ex N (.while_ c b) ρ st = whL (tst N c) (exs N b) fuelW ρ st := by rw [ex]
@[simp] theorem ex_brk : ex N .brk ρ st = .ok (.brk ρ) st := by rw [ex]
@[simp] theorem ex_cont : ex N .cont ρ st = .ok (.cont ρ) st := by rw [ex]
@[simp] theorem ex_pass : ex N .pass ρ st = .ok (.next ρ) st := by rw [ex]
@[simp] theorem exs_nil : exs N .nil ρ st = .ok (.next ρ) st := by rw [exs]
@[simp] theorem exs_cons (s : S) (r : Ss) : exs N (.cons s r) ρ st = (ex N s ρ st).noX.bind fun fl st1 => match fl with
    | .next ρ1 => exs N r ρ1 st1
    | fl => .ok fl st1 := by rw [exs] <;> rfl
end
@[simp] theorem bind_okS {α β : Type} (a : α) (st : Store) (f : α → Store → R β) : (R.ok a st).bind f = f a st := rfl
@[simp] theorem cat_okS {α : Type} (a : α) (st : Store) (ρ : Rho) (f : α → Store → R Fl) : (R.ok a st).cat ρ f = f a st := rfl
@[simp] theorem noX_okS (fl : Fl) (st : Store) : (R.ok fl st).noX = .ok fl st := rfl
@[simp] theorem noExc_okS {α : Type} (a : α) (st : Store) : (R.ok a st).noExc = .ok a st := rfl
@[simp] theorem ofO_someS {α : Type} (a : α) (st : Store) : R.ofO (some (a, st)) = .ok a st := rfl
@[simp] theorem ofOpt_someS {α : Type} (a : α) (st : Store) : ofOpt (some a) st = .ok a st := rfl
@[simp] theorem truth_blS (b : Bool) (st : Store) : truthR (.d (.bool b)) st = .ok b st := rfl
@[simp] theorem bl_S (b : Bool) (st : Store) : bl st b = some (.d (.bool b), st) := rfl
@[simp] theorem dat_S (d : PyData) (st : Store) : dat st d = some (.d d, st) := rfl
@[simp] theorem binO_add : binO .add = oAdd := rfl
@[simp] theorem binO_sub : binO .sub = oSub := rfl
@[simp] theorem binO_mul : binO .mul = oMul := rfl
@[simp] theorem binO_mod : binO .mod = oMod := rfl
@[simp] theorem binO_fdiv : binO .fdiv = oFdiv := rfl
@[simp] theorem binO_pow : binO .pow = oPow := rfl
@[simp] theorem oAdd_int (i j : Int) (st : Store) : oAdd (.d (.int i)) (.d (.int j)) st = some (.d (.int (i + j)), st) := rfl
@[simp] theorem oSub_int (i j : Int) (st : Store) : oSub (.d (.int i)) (.d (.int j)) st = some (.d (.int (i - j)), st) := rfl
@[simp] theorem cmpO_lt (a b : Val) (st : Store) : cmpO .lt a b st = (ltO a b).bind fun k => bl st k := rfl
@[simp] theorem cmpO_gt (a b : Val) (st : Store) : cmpO .gt a b st = (ltO b a).bind fun k => bl st k := rfl
@[simp] theorem cmpO_le (a b : Val) (st : Store) : cmpO .le a b st = (leO a b).bind fun k => bl st k := rfl
@[simp] theorem cmpO_ge (a b : Val) (st : Store) : cmpO .ge a b st = (leO b a).bind fun k => bl st k := rfl
@[simp] theorem cmpO_eq (a b : Val) (st : Store) : cmpO .eq a b st = (eqV' st a b).bind fun k => bl st k := rfl
@[simp] theorem cmpO_ne (a b : Val) (st : Store) : cmpO .ne a b st = (eqV' st a b).bind fun k => bl st (!k) := rfl
@[simp] theorem cmpO_is (a b : Val) (st : Store) : cmpO .is a b st = (isO a b).bind fun k => bl st k := rfl
@[simp] theorem cmpO_isnot (a b : Val) (st : Store) : cmpO .isnot a b st = (isO a b).bind fun k => bl st (!k) := rfl
@[simp] theorem cmpO_in (a b : Val) (st : Store) : cmpO .isin a b st = (isInO a b st).bind fun k => bl st k := rfl
@[simp] theorem cmpO_notin (a b : Val) (st : Store) : cmpO .notin a b st = (isInO a b st).bind fun k => bl st (!k) := rfl
@[simp] theorem ltO_int (i j : Int) : ltO (.d (.int i)) (.d (.int j)) = some (decide (i < j)) := rfl
@[simp] theorem leO_int (i j : Int) : leO (.d (.int i)) (.d (.int j)) = some (decide (i ≤ j)) := rfl
@[simp] theorem ltO_str (i j : Str) : ltO (.d (.str i)) (.d (.str j)) = some (decide (i.cps.toList < j.cps.toList)) := rfl
@[simp] theorem eqV_d (x y : PyData) (st : Store) : eqV' st (.d x) (.d y) = eqO x y := rfl
@[simp] theorem eqO_int (i j : Int) : eqO (.int i) (.int j) = some (i == j) := by simp [eqO, PyData.plain, PyData.depth, PyData.eqv]
@[simp] theorem eqO_str (i j : Str) : eqO (.str i) (.str j) = some (i == j) := by simp [eqO, PyData.plain, PyData.depth, PyData.eqv]
@[simp] theorem eqO_bool (i j : Bool) : eqO (.bool i) (.bool j) = some (i == j) := by simp [eqO, PyData.plain, PyData.depth, PyData.eqv]
@[simp] theorem isiO_d (x : PyData) (st : Store) (ts : List Ty) : isiO st (.d x) ts = some (ts.any (isT (tyOf st (.d x)))) := rfl
@[simp] theorem in_oneS (y : Str) (c : Nat) (st : Store) : isInO (.d (.str ⟨#[c]⟩)) (.d (.str y)) st = some (decide (c ∈ y.cps.toList)) := in_one y c st
@[simp] theorem env_fns (P : Prg) (k : Nat) : (P.env k).fns = phi P k := rfl
@[simp] theorem env_glob (P : Prg) (k n : Nat) : (P.env k).glob n = P.glob[n]? := rfl
/-! ### what is a tuple, a text .. -/
def isTupD : PyData → Bool
  | .tuple _ => true
  | _ => false
@[simp] theorem lsDat_list (xs : List PyData) (st : Store) : lsDat st (.d (.list xs)) = some xs := by
  unfold lsDat lsOf
  exact datas_map _
@[simp] theorem sqDat_list (xs : List PyData) (st : Store) : sqDat st (.d (.list xs)) = some xs := by
  unfold sqDat sqOf lsOf
  exact datas_map _
@[simp] theorem sqDat_tuple (xs : List PyData) (st : Store) : sqDat st (.d (.tuple xs)) = some xs := by
  unfold sqDat sqOf
  exact datas_map _
/-- the truths p of xs -/
def boolsD (p : PyData → Bool) (xs : List PyData) : List PyData := (xs.map p).map PyData.bool
@[simp] theorem bi_all (p : PyData → Bool) (xs : List PyData) (st : Store) : biO .all [.d (.list (boolsD p xs))] st = some (.d (.bool (xs.all p)), st) := by
  have e : lsDat st (.d (.list (boolsD p xs))) = some ((xs.map p).map PyData.bool) := by
    unfold lsDat lsOf boolsD
    exact datas_map _
  unfold biO
  dsimp only
  rw [e]
  show (boolsOf ((xs.map p).map PyData.bool)).bind _ = _
  rw [boolsOf_map]
  show some (Val.d (.bool ((xs.map p).all id)), st) = _
  rw [List.all_map]; rfl
@[simp] theorem bi_len_str (x : Str) (st : Store) : biO .len [.d (.str x)] st = guard' (x.length ≤ sizeLine) (some (.d (.int x.length), st)) := rfl
@[simp] theorem bi_len_tuple (xs : List PyData) (st : Store) : biO .len [.d (.tuple xs)] st = some (.d (.int xs.length), st) := by
  unfold biO
  simp [sqOf, tyOf]
@[simp] theorem bi_len_list (xs : List PyData) (st : Store) : biO .len [.d (.list xs)] st = some (.d (.int xs.length), st) := by
  unfold biO
  simp [sqOf, lsOf, tyOf]
@[simp] theorem bi_tuple_list (xs : List PyData) (st : Store) : biO .tuple [.d (.list xs)] st = some (.d (.tuple xs), st) := by
  show (sqDat st (.d (.list xs))).bind _ = _
  rw [sqDat_list]; rfl
@[simp] theorem bi_list_tuple (xs : List PyData) (st : Store) : biO .list [.d (.tuple xs)] st = some (.d (.list xs), st) := by
  show (sqDat st (.d (.tuple xs))).bind _ = _
  rw [sqDat_tuple]; rfl
/-- [elt for tg in it], of truths -/
theorem ev_comp_bools {N : Env'} {elt : E} {tg : Tg} {it : It} {own : List Nat} {ρ : Rho} {st : Store} {xs : List PyData} {p : PyData → Bool} (hi : evIt N it ρ st = .ok (xs.map Val.d, none) st)
    (hf : ∀ x ∈ xs, ((asg N tg (.d x) (wipeR ρ own) st).bind fun ρ1 st3 => ev N elt ρ1 st3) = .ok (.d (.bool (p x))) st) (hl : xs.length ≤ sizeLine) :
    ev N (.comp false elt tg it .nil own) ρ st = .ok (.d (.list (boolsD p xs))) st :=
  ev_comp_data (N := N) (elt := elt) (tg := tg) (it := it) (ifs := .nil) (own := own) (ρ := ρ) (st := st) (xs := xs) (ys := (xs.map p).map PyData.bool) hi (g := fun x => some (.bool (p x))) (fun x hx => by
      have q := hf x hx
      cases ea : asg N tg (.d x) (wipeR ρ own) st with
      | no => rw [ea] at q; cases q
      | exc e s => rw [ea] at q; cases q
      | ok ρ1 st3 =>
        rw [ea] at q
        have q : ev N elt ρ1 st3 = .ok (.d (.bool (p x))) st := q
        simp [q]) (by rw [filterMap_some, List.map_map]; rfl) (by simpa using hl)
theorem seq_tuple (xs : List PyData) (st : Store) : seqItems (.d (.tuple xs)) st = some (xs.map Val.d, none) := rfl
theorem seq_list (xs : List PyData) (st : Store) : seqItems (.d (.list xs)) st = some (xs.map Val.d, none) := rfl
/-- a text's signs, each a text -/
def charsD (x : Str) : List PyData := x.cps.toList.map fun c => PyData.str ⟨#[c]⟩
theorem charsD_len (x : Str) : (charsD x).length = x.length := by unfold charsD; rw [List.length_map, Array.length_toList]; rfl
theorem seq_str (x : Str) (st : Store) : seqItems (.d (.str x)) st = some ((charsD x).map Val.d, none) := by
  unfold charsD
  show some (x.cps.toList.map (fun c => Val.d (.str ⟨#[c]⟩)), none) = _
  rw [List.map_map]; rfl
@[simp] theorem wipeR_nil (ρ : Rho) : wipeR ρ [] = ρ := rfl
@[simp] theorem wipeR_cons (ρ : Rho) (v : Nat) (vs : List Nat) : wipeR ρ (v :: vs) = (wipeR ρ vs).set v none := rfl
theorem cut_from1 {α : Type} (xs : List α) : cutL xs (some 1) none = xs.drop 1 := by
  unfold cutL
  cases xs with
  | nil => simp
  | cons x r => simp [HT.sIx]
@[simp] theorem oSlice_list (xs : List PyData) (lo hi : Option Int) (st : Store) : oSlice (.d (.list xs)) lo hi st = some (.d (.list (cutL xs lo hi)), st) := by
  show (lsDat st (.d (.list xs))).bind _ = _
  rw [lsDat_list]; rfl
@[simp] theorem oSlice_tuple (xs : List PyData) (lo hi : Option Int) (st : Store) : oSlice (.d (.tuple xs)) lo hi st = some (.d (.tuple (cutL xs lo hi)), st) := rfl
@[simp] theorem zipO_tuples (xs ys : List PyData) (st : Store) : zipO [.d (.tuple xs), .d (.tuple ys)] st = some (pairs2 xs ys, none) := rfl
@[simp] theorem zipO_lists (xs ys : List PyData) (st : Store) : zipO [.d (.list xs), .d (.list ys)] st = some (pairs2 xs ys, none) := rfl
theorem mem_zipW {α β γ : Type} {f : α → β → γ} : ∀ {xs : List α} {ys : List β} {z : γ}, z ∈ List.zipWith f xs ys → ∃ x y, z = f x y
  | [], _, _, h => by simp at h
  | _ :: _, [], _, h => by simp at h
  | x :: xs, y :: ys, z, h => by
    rcases List.mem_cons.mp (by simpa using h : z ∈ f x y :: List.zipWith f xs ys) with q | q
    · exact ⟨x, y, q⟩
    · exact mem_zipW q
/-- a walk that leaves with v at the first that is not well -/
theorem forL_all {f : Val → Rho → Store → R Fl} {st : Store} {P : Rho → Prop} {ok : PyData → Bool} {v : Val} : ∀ {xs : List PyData} {ρ : Rho}, P ρ →
    (∀ x ∈ xs, ∀ ρ, P ρ → (ok x = true → ∃ ρ', P ρ' ∧ f (.d x) ρ st = .ok (.next ρ') st) ∧ (ok x = false → f (.d x) ρ st = .ok (.ret v) st)) →
    (xs.all ok = true → ∃ ρ', P ρ' ∧ forL f none (xs.map Val.d) ρ st = .ok (.next ρ') st) ∧ (xs.all ok = false → forL f none (xs.map Val.d) ρ st = .ok (.ret v) st)
  | [], ρ, hp, _ => ⟨fun _ => ⟨ρ, hp, rfl⟩, fun h => (by cases h)⟩
  | x :: r, ρ, hp, h => by
    have e : ∀ ρ, forL f none ((x :: r).map Val.d) ρ st = (f (.d x) ρ st).noX.bind fun fl st1 => match fl with
      | .next ρ1 => forL f none (r.map Val.d) ρ1 st1
      | .cont ρ1 => forL f none (r.map Val.d) ρ1 st1
      | .brk ρ1 => .ok (.next ρ1) st1
      | .ret v => .ok (.ret v) st1
      | .exc e ρ1 => .ok (.exc e ρ1) st1 := fun ρ => rfl
    obtain ⟨h1, h2⟩ := h x List.mem_cons_self ρ hp
    rw [e]
    cases q : ok x with
    | false =>
      rw [h2 q]
      exact ⟨fun z => (by rw [List.all_cons, q] at z; cases z), fun _ => rfl⟩
    | true =>
      obtain ⟨ρ', hp', e1⟩ := h1 q
      rw [e1, List.all_cons, q, Bool.true_and]
      exact forL_all hp' fun y hy => h y (List.mem_cons_of_mem _ hy)
theorem plain_strs : ∀ ys : List Str, PyData.plainAll (ys.map PyData.str) = true ∧ PyData.depthAll (ys.map PyData.str) = 0
  | [] => ⟨rfl, rfl⟩
  | y :: ys => by
    obtain ⟨h1, h2⟩ := plain_strs ys
    exact ⟨by simp [PyData.plainAll, PyData.plain, h1], by simp [PyData.depthAll, PyData.depth, h2]⟩
theorem inO_strs (x : Str) (ys : List Str) : inO (.str x) (ys.map PyData.str) = some (ys.any fun z => z == x) := by
  obtain ⟨h1, h2⟩ := plain_strs ys
  unfold inO
  rw [if_pos ⟨rfl, by simp [PyData.depth], h1, by rw [h2]; omega⟩, List.any_map]
  rfl
theorem in_tup_strs (x : Str) (ys : List Str) (st : Store) : isInO (.d (.str x)) (.d (.tuple (ys.map PyData.str))) st = some (ys.any fun z => z == x) := by
  show (sqDat st (.d (.tuple (ys.map PyData.str)))).bind (inO (.str x)) = _
  rw [sqDat_tuple]
  exact inO_strs x ys
theorem in_list_strs (x : Str) (ys : List Str) (st : Store) : isInO (.d (.str x)) (.d (.list (ys.map PyData.str))) st = some (ys.any fun z => z == x) := by
  show (sqDat st (.d (.list (ys.map PyData.str)))).bind (inO (.str x)) = _
  rw [sqDat_list]
  exact inO_strs x ys
@[simp] theorem oIx_tuple (xs : List PyData) (i : Int) (st : Store) : oIx (.d (.tuple xs)) (.d (.int i)) st = (L2.atI xs i).bind fun v => some (.d v, st) := rfl
theorem atI_map {α β : Type} (f : α → β) (xs : List α) (i : Int) : L2.atI (xs.map f) i = (L2.atI xs i).map f := by
  unfold L2.atI
  rw [List.length_map]
  cases L2.ixN xs.length i with
  | none => rfl
  | some j => simp
@[simp] theorem oIx_list (xs : List PyData) (i : Int) (st : Store) : oIx (.d (.list xs)) (.d (.int i)) st = (L2.atI xs i).bind fun v => some (.d v, st) := by
  show (L2.atI (xs.map Val.d) i).bind (fun v => some (v, st)) = _
  rw [atI_map]
  cases L2.atI xs i <;> rfl
@[simp] theorem atI_0 {α : Type} (a : α) (r : List α) : L2.atI (a :: r) 0 = some a := by simp [L2.atI, L2.ixN]
@[simp] theorem atI_1 {α : Type} (a b : α) (r : List α) : L2.atI (a :: b :: r) 1 = some b := by
  have h : ((1 : Int) < (r.length : Int) + 1 + 1) := by omega
  simp [L2.atI, L2.ixN, h]
/-! ### data of small lengths -/
mutual
def fitB : PyData → Bool
  | .str x => decide (x.length ≤ 1000000)
  | .tuple xs => decide (xs.length ≤ 1000000) && fitBs xs
  | .list xs => decide (xs.length ≤ 1000000) && fitBs xs
  | _ => true
def fitBs : List PyData → Bool
  | [] => true
  | d :: r => fitB d && fitBs r
end
theorem fitBs_mem : ∀ {xs : List PyData}, fitBs xs = true → ∀ x ∈ xs, fitB x = true
  | [], _, _, h => by cases h
  | d :: r, hf, x, h => by
    have hf : (fitB d && fitBs r) = true := hf
    rw [Bool.and_eq_true] at hf
    rcases List.mem_cons.mp h with q | q
    · rw [q]; exact hf.1
    · exact fitBs_mem hf.2 x q
theorem fit_tuple {xs : List PyData} (h : fitB (.tuple xs) = true) : xs.length ≤ 1000000 ∧ ∀ x ∈ xs, fitB x = true := by
  have h : (decide (xs.length ≤ 1000000) && fitBs xs) = true := h
  rw [Bool.and_eq_true] at h
  exact ⟨of_decide_eq_true h.1, fitBs_mem h.2⟩
theorem mill : 1000000 ≤ sizeLine := by rw [sizeLine_eq]; omega
end G
set_option Elab.async false
set_option linter.all false
set_option maxRecDepth 100000
/-! GX: how long what is printed may be -/
namespace G
open PySem PySem.Spec PyProof.Rows
mutual
/-- a bound of the printed length -/
def sz : PyData → Nat
  | .none => 5
  | .bool _ => 5
  | .int i => i.natAbs + 2
  | .str x => 10 * x.length + 2
  | .tuple xs => szs xs + 3
  | .list xs => szs xs + 3
  | .dict _ => 2
def szs : List PyData → Nat
  | [] => 0
  | d :: r => sz d + 2 + szs r
end
mutual
/-- texts of plain signs, no dict but the empty one -/
def okB : PyData → Bool
  | .str x => x.cps.toList.all fun c => decide (c < 128)
  | .tuple xs => okBs xs
  | .list xs => okBs xs
  | .dict kvs => kvs.isEmpty
  | _ => true
def okBs : List PyData → Bool
  | [] => true
  | d :: r => okB d && okBs r
end
theorem szs_append : ∀ xs ys : List PyData, szs (xs ++ ys) = szs xs + szs ys
  | [], ys => by simp [szs]
  | d :: r, ys => by simp [szs, szs_append r ys]; omega
theorem okBs_append : ∀ xs ys : List PyData, okBs (xs ++ ys) = (okBs xs && okBs ys)
  | [], ys => by simp [okBs]
  | d :: r, ys => by simp [okBs, okBs_append r ys, Bool.and_assoc]
theorem depthAll_append : ∀ xs ys : List PyData, PyData.depthAll (xs ++ ys) = max (PyData.depthAll xs) (PyData.depthAll ys)
  | [], ys => by simp [PyData.depthAll]
  | d :: r, ys => by simp [PyData.depthAll, depthAll_append r ys]
theorem okBs_mem : ∀ {xs : List PyData}, okBs xs = true → ∀ x ∈ xs, okB x = true
  | d :: r, h, x, hx => by
    have h : (okB d && okBs r) = true := h
    rw [Bool.and_eq_true] at h
    rcases List.mem_cons.mp hx with q | q
    · rw [q]; exact h.1
    · exact okBs_mem h.2 x q
theorem szs_mem : ∀ {xs : List PyData} {x : PyData}, x ∈ xs → sz x + 2 ≤ szs xs
  | d :: r, x, hx => by
    simp only [szs]
    rcases List.mem_cons.mp hx with q | q
    · rw [q]; omega
    · have := szs_mem q; omega
theorem szs_len : ∀ xs : List PyData, 2 * xs.length ≤ szs xs
  | [] => Nat.le_refl _
  | d :: r => by have := szs_len r; simp only [szs, List.length_cons]; omega
theorem depthAll_mem : ∀ {xs : List PyData} {x : PyData}, x ∈ xs → x.depth ≤ PyData.depthAll xs
  | d :: r, x, hx => by
    simp only [PyData.depthAll]
    rcases List.mem_cons.mp hx with q | q
    · rw [q]; omega
    · have := depthAll_mem q; omega
theorem int_shown (i : Int) : (PyData.shown (.int i)).length ≤ i.natAbs + 2 := by
  have h : i.natAbs < 10 ^ (i.natAbs + 1) := Nat.lt_trans (Nat.lt_succ_self _) (Nat.lt_pow_self (by omega))
  have e := int_text_length_le10 (k := i.natAbs + 1) (by omega) h
  show (Str.ofString (toString i)).length ≤ _
  rw [PySem.ofString_length]; omega
mutual
theorem shown_sz : ∀ d : PyData, okB d = true → (PyData.shown d).length ≤ sz d
  | .none, _ => by simp only [PyData.shown, sz]; decide +kernel
  | .bool b, _ => by cases b <;> simp only [PyData.shown, sz] <;> decide +kernel
  | .int i, _ => int_shown i
  | .str x, h => by
    have h : (x.cps.toList.all fun c => decide (c < 128)) = true := by simpa only [okB] using h
    have := StrLaws.reprText_len x fun c hc => Nat.lt_trans (of_decide_eq_true (List.all_eq_true.mp h c hc)) (by decide)
    simpa only [PyData.shown, sz] using this
  | .list xs, h => by
    have h1 := shown_szs xs (by simpa only [okB] using h)
    have h2 := listText_len_le (PyData.shownAll xs)
    rw [PyData.shownAll_length] at h2
    simp only [PyData.shown, sz]
    omega
  | .tuple xs, h => by
    have h1 := shown_szs xs (by simpa only [okB] using h)
    have h2 := tupleText_len_le (PyData.shownAll xs)
    rw [PyData.shownAll_length] at h2
    simp only [PyData.shown, sz]
    omega
  | .dict kvs, h => by
    have h : kvs.isEmpty = true := by simpa only [okB] using h
    cases kvs with
    | nil => simp only [PyData.shown, PyData.shownKv, sz]; decide +kernel
    | cons p r => cases h
theorem shown_szs : ∀ xs : List PyData, okBs xs = true → ((PyData.shownAll xs).map (·.length)).sum + 2 * xs.length ≤ szs xs
  | [], _ => by simp [PyData.shownAll, szs]
  | d :: r, h => by
    have h : okB d = true ∧ okBs r = true := by simpa only [okBs, Bool.and_eq_true] using h
    have h1 := shown_sz d h.1
    have h2 := shown_szs r h.2
    simp only [PyData.shownAll, List.map_cons, List.sum_cons, List.length_cons, szs]
    omega
end
mutual
theorem showable_sz : ∀ d : PyData, okB d = true → sz d ≤ 1000000 → PyData.showable d = true
  | .none, _, _ => by simp only [PyData.showable]
  | .bool b, _, _ => by simp only [PyData.showable]
  | .int i, _, h => by
    simp only [PyData.showable, decide_eq_true_eq]
    simp only [sz] at h
    by_cases h0 : i.natAbs = 0
    · rw [h0]; decide
    · have := (Nat.log2_lt h0 (k := 20)).mpr (by omega)
      omega
  | .str x, _, _ => by simp only [PyData.showable]
  | .list xs, h, hs => by
    simp only [PyData.showable]
    exact showable_szs xs (by simpa only [okB] using h) (by simp only [sz] at hs; omega)
  | .tuple xs, h, hs => by
    simp only [PyData.showable]
    exact showable_szs xs (by simpa only [okB] using h) (by simp only [sz] at hs; omega)
  | .dict kvs, h, _ => by
    have h : kvs.isEmpty = true := by simpa only [okB] using h
    cases kvs with
    | nil => simp only [PyData.showable, PyData.showableKv]
    | cons p r => cases h
theorem showable_szs : ∀ xs : List PyData, okBs xs = true → szs xs ≤ 1000000 → PyData.showableAll xs = true
  | [], _, _ => by simp only [PyData.showableAll]
  | d :: r, h, hs => by
    have h : okB d = true ∧ okBs r = true := by simpa only [okBs, Bool.and_eq_true] using h
    simp only [szs] at hs
    simp only [PyData.showableAll, Bool.and_eq_true]
    exact ⟨showable_sz d h.1 (by omega), showable_szs r h.2 (by omega)⟩
end
mutual
theorem fit_sz : ∀ d : PyData, sz d ≤ 1000000 → fitB d = true
  | .none, _ => by simp only [fitB]
  | .bool b, _ => by simp only [fitB]
  | .int i, _ => by simp only [fitB]
  | .str x, h => by simp only [sz] at h; simp only [fitB, decide_eq_true_eq]; omega
  | .list xs, h => by
    simp only [sz] at h
    have := szs_len xs
    simp only [fitB, Bool.and_eq_true, decide_eq_true_eq]
    exact ⟨by omega, fit_szs xs (by omega)⟩
  | .tuple xs, h => by
    simp only [sz] at h
    have := szs_len xs
    simp only [fitB, Bool.and_eq_true, decide_eq_true_eq]
    exact ⟨by omega, fit_szs xs (by omega)⟩
  | .dict kvs, _ => by simp only [fitB]
theorem fit_szs : ∀ xs : List PyData, szs xs ≤ 1000000 → fitBs xs = true
  | [], _ => by simp only [fitBs]
  | d :: r, hs => by
    simp only [szs] at hs
    simp only [fitBs, Bool.and_eq_true]
    exact ⟨fit_sz d (by omega), fit_szs r (by omega)⟩
end
/-- fit to be printed -/
def Good (s p : Nat) (d : PyData) : Prop := okB d = true ∧ sz d ≤ s ∧ d.depth ≤ p
theorem Good.weaken {s s' p p' : Nat} {d : PyData} (h : Good s p d) (hs : s ≤ s') (hp : p ≤ p') : Good s' p' d := ⟨h.1, Nat.le_trans h.2.1 hs, Nat.le_trans h.2.2 hp⟩
theorem bi_repr {s p : Nat} {d : PyData} (h : Good s p d) (hs : s ≤ 1000000) (hp : p ≤ 64) (st : Store) : biO .repr [.d d] st = some (.d (.str d.shown), st) := by
  have e : biO .repr [.d d] st = guard' (d.showable = true ∧ d.depth ≤ 64 ∧ d.shown.length ≤ sizeLine) (some (.d (.str d.shown), st)) := rfl
  rw [e]
  have h1 := shown_sz d h.1
  have h2 := h.2.1
  have h3 := h.2.2
  have := mill
  rw [guard_pos ⟨showable_sz d h.1 (by omega), by omega, by omega⟩]
theorem bi_repr_bool (b : Bool) (st : Store) : biO .repr [.d (.bool b)] st = some (.d (.str (PyData.shown (.bool b))), st) :=
  bi_repr (s := 5) (p := 64) (d := .bool b) ⟨rfl, by simp only [sz]; omega, by simp only [PyData.depth]; omega⟩ (by decide) (by decide) st
theorem upper_small : ∀ c < 128, ∀ u ∈ Unicode.upperOf c, u < 128 := by decide +kernel
end G
set_option Elab.async false
set_option linter.all false
set_option maxRecDepth 100000
/-! GY: what is printed is of plain signs -/
namespace G
open PySem PySem.Spec PyProof.Rows PySem.Builtin.Str
def Asc (x : Str) : Prop := ∀ c ∈ x.cps.toList, c < 128
theorem Asc.append {x y : Str} (h : Asc x) (h' : Asc y) : Asc (x ++ y) := fun c hc => by
  rcases mem_cps_append.mp hc with q | q
  · exact h c q
  · exact h' c q
theorem Asc.join {sep : Str} {ts : List Str} (h : Asc sep) (ht : ∀ t ∈ ts, Asc t) : Asc (Str.join sep ts) := fun c hc => by
  rcases (mem_join sep c ts).mp hc with ⟨t, q, q'⟩ | q
  · exact ht t q c q'
  · exact h c q.2
theorem asc_sep : Asc ", " ∧ Asc "" ∧ Asc "[" ∧ Asc "]" ∧ Asc "(" ∧ Asc ")" ∧ Asc ",)" ∧ Asc "{}" ∧ Asc "None" ∧ Asc "True" ∧ Asc "False" := by
  have : ∀ x ∈ ([", ", "", "[", "]", "(", ")", ",)", "{}", "None", "True", "False"] : List Str), ∀ c ∈ x.cps.toList, c < 128 := by decide +kernel
  refine ⟨?_, ?_, ?_, ?_, ?_, ?_, ?_, ?_, ?_, ?_, ?_⟩ <;> exact this _ (by simp)
theorem asc_from : ∀ (ts : List Str) (k : Nat) (acc : Str), Asc acc → (∀ t ∈ ts, Asc t) → Asc (textFrom k acc ts)
  | [], _, _, h, _ => h
  | t :: ts, k, acc, h, ht => by
    show Asc (textFrom (k + 1) (acc ++ (if k > 0 then ", " else "" : String) ++ t) ts)
    refine asc_from ts (k + 1) _ ((h.append ?_).append (ht t List.mem_cons_self)) fun y hy => ht y (List.mem_cons_of_mem _ hy)
    by_cases q : k > 0
    · rw [if_pos q]; exact asc_sep.1
    · rw [if_neg q]; exact asc_sep.2.1
theorem asc_char : ∀ c < 128, ∀ u ∈ reprChar 34 c ++ reprChar 39 c, u < 128 := by decide +kernel
theorem asc_fold (q : Nat) (hq : q = 34 ∨ q = 39) : ∀ (cs : List Nat) (acc : Array Nat), (∀ c ∈ acc.toList, c < 128) → (∀ c ∈ cs, c < 128) → ∀ c ∈ (cs.foldl (fun out c => out ++ (reprChar q c).toArray) acc).toList, c < 128
  | [], _, h, _ => h
  | x :: r, acc, h, hx => by
    refine asc_fold q hq r (acc ++ (reprChar q x).toArray) (fun c hc => ?_) fun y hy => hx y (List.mem_cons_of_mem _ hy)
    rw [Array.toList_append] at hc
    rcases List.mem_append.mp hc with q1 | q1
    · exact h c q1
    · have := asc_char x (hx x List.mem_cons_self) c
      rcases hq with rfl | rfl
      · exact this (List.mem_append_left _ (by simpa using q1))
      · exact this (List.mem_append_right _ (by simpa using q1))
theorem asc_repr {x : Str} (h : Asc x) : Asc (reprText x) := fun c hc => by
  have hq : reprQuote x = 34 ∨ reprQuote x = 39 := by
    unfold reprQuote
    split
    · exact .inl rfl
    · exact .inr rfl
  have hc : c ∈ ((x.cps.foldl (fun out c => out ++ (reprChar (reprQuote x) c).toArray) #[reprQuote x]).push (reprQuote x)).toList := hc
  rw [Array.toList_push, ← Array.foldl_toList] at hc
  rcases List.mem_append.mp hc with q | q
  · exact asc_fold _ hq x.cps.toList #[reprQuote x] (fun c hc => by
      have : c = reprQuote x := by simpa using hc
      omega) h c q
  · have : c = reprQuote x := by simpa using q
    omega
mutual
theorem shown_asc : ∀ d : PyData, okB d = true → Asc (PyData.shown d)
  | .none, _ => by simp only [PyData.shown]; exact asc_sep.2.2.2.2.2.2.2.2.1
  | .bool b, _ => by
    cases b <;> simp only [PyData.shown]
    · exact asc_sep.2.2.2.2.2.2.2.2.2.2
    · exact asc_sep.2.2.2.2.2.2.2.2.2.1
  | .int i, _ => fun c hc => Nat.lt_of_not_le fun z => shown_int_free' (k := c) ⟨by omega, .inr (by omega)⟩ i hc
  | .str x, h => by
    have h : (x.cps.toList.all fun c => decide (c < 128)) = true := by simpa only [okB] using h
    simp only [PyData.shown]
    exact asc_repr fun c hc => of_decide_eq_true (List.all_eq_true.mp h c hc)
  | .list xs, h => by
    have h1 := shown_ascs xs (by simpa only [okB] using h)
    simp only [PyData.shown]
    exact (asc_from _ 0 _ asc_sep.2.2.1 h1).append asc_sep.2.2.2.1
  | .tuple xs, h => by
    have h1 := shown_ascs xs (by simpa only [okB] using h)
    simp only [PyData.shown]
    unfold tupleText
    refine (asc_sep.2.2.2.2.1.append (asc_sep.1.join h1)).append ?_
    split
    · exact asc_sep.2.2.2.2.2.2.1
    · exact asc_sep.2.2.2.2.2.1
  | .dict kvs, h => by
    have h : kvs.isEmpty = true := by simpa only [okB] using h
    cases kvs with
    | nil =>
      have : PyData.shown (.dict []) = "{}" := by simp only [PyData.shown, PyData.shownKv]; decide +kernel
      rw [this]; exact asc_sep.2.2.2.2.2.2.2.1
    | cons p r => cases h
theorem shown_ascs : ∀ xs : List PyData, okBs xs = true → ∀ t ∈ PyData.shownAll xs, Asc t
  | [], _, t, h => by simp [PyData.shownAll] at h
  | d :: r, h, t, ht => by
    have h : okB d = true ∧ okBs r = true := by simpa only [okBs, Bool.and_eq_true] using h
    rcases List.mem_cons.mp (by simpa only [PyData.shownAll] using ht) with q | q
    · rw [q]; exact shown_asc d h.1
    · exact shown_ascs r h.2 t q
end
end G
set_option Elab.async false
set_option linter.all false
set_option maxRecDepth 100000
/-! GHd: the hand that draws: what _law_hand, _law_pick, _law_of do, whatever their numbers in a program -/
namespace G
open PySem PySem.Spec PyProof.Rows
def bPick : Ss := (.cons (.while_ (.and (.cons (.cmp .ne (.ix (.var 0) (.cst (.int 0))) (.lst false .nil)) (.cons (.cmp .eq (.ix (.ix (.var 0) (.cst (.int 0))) (.cst (.int 0))) (.cst (.int 0))) .nil))) (.cons (.expr (.me .popat (.ix (.var 0) (.cst (.int 0))) (.cons (.cst (.int 0)) .nil))) .nil)) (.cons (.ite (.cmp .ne (.ix (.var 0) (.cst (.int 0))) (.lst false .nil)) (.cons (.asg (.name 2) (.bin .mod (.ix (.ix (.var 0) (.cst (.int 0))) (.cst (.int 0))) (.var 1))) (.cons (.asg (.sub (.ix (.var 0) (.cst (.int 0))) (.cst (.int 0))) (.bin .fdiv (.ix (.ix (.var 0) (.cst (.int 0))) (.cst (.int 0))) (.var 1))) (.cons (.ret (.var 2)) .nil))) .nil) (.cons (.asg (.sub (.var 0) (.cst (.int 1))) (.bin .mod (.bin .add (.bin .mul (.ix (.var 0) (.cst (.int 1))) (.cst (.int 3935559000370003))) (.cst (.int 2691343689449507))) (.cst (.int 2305843009213693951)))) (.cons (.asg (.name 3) (.bin .fdiv (.ix (.var 0) (.cst (.int 1))) (.cst (.int 65537)))) (.cons (.ret (.bin .mod (.bin .fdiv (.bin .mod (.bin .mul (.var 3) (.bin .add (.bin .mod (.var 3) (.cst (.int 8191))) (.cst (.int 3)))) (.cst (.int 2305843009213693921))) (.cst (.int 4099))) (.var 1))) .nil)))))
def fPick : Fn := ⟨2, 4, false, bPick⟩
def bOf (fi : Nat) : Ss := (.cons (.ret (.ix (.var 1) (.call fi (.cons (.var 0) (.cons (.bi .len (.cons (.var 1) .nil)) .nil))))) .nil)
def fOf (fi : Nat) : Fn := ⟨2, 2, false, bOf fi⟩
def bHand : Ss := (.cons (.asg (.name 1) (.cst (.int 23))) (.cons (.for_ (.name 2) (.e (.slice (.var 0) .no (.e (.cst (.int 63))))) (.cons (.asg (.name 1) (.bin .mod (.bin .add (.bin .add (.bin .mul (.var 1) (.cst (.int 6364136223846793))) (.bin .mod (.var 2) (.cst (.int 2305843009213693951)))) (.cst (.int 31))) (.cst (.int 2305843009213693951)))) .nil)) (.cons (.ret (.lst true (.cons (.comp true (.var 2) (.name 2) (.e (.slice (.var 0) .no (.e (.cst (.int 63))))) (.cons (.cmp .ge (.var 2) (.bin .pow (.cst (.int 10)) (.cst (.int 18)))) .nil) [2]) (.cons (.var 1) .nil)))) .nil)))
def fHand : Fn := ⟨1, 3, true, bHand⟩
theorem cut_to' {α : Type} (xs : List α) (i : Int) (h0 : 0 ≤ i) : cutL xs none (some i) = xs.take i.toNat := by
  unfold cutL
  have : HT.sIx xs.length xs.length (some i) = min i.toNat xs.length := by
    simp [HT.sIx, show ¬ i < 0 by omega]
  have h2 : HT.sIx xs.length 0 none = 0 := by simp [HT.sIx]
  rw [this, h2]; simp [List.take_eq_take_iff]
theorem s3 : (3 : Nat) ≤ sizeLine ∧ (2 : Nat) ≤ sizeLine ∧ (1 : Nat) ≤ sizeLine := by rw [sizeLine_eq]; omega
/-! ### the drawing hand: its two cells first in the store -/
def hs (ns : List Int) (seed : Int) (rest : Store) : Store := .lst (ns.map fun i => Val.d (.int i)) :: .lst [.loc 0, .d (.int seed)] :: rest
section
variable (ns : List Int) (n m seed : Int) (rest : Store)
theorem h_ix0 : oIx (.loc 1) (.d (.int 0)) (hs ns seed rest) = some (.loc 0, hs ns seed rest) := by simp [oIx, tyOf, lsOf, hs]
theorem h_ix1 : oIx (.loc 1) (.d (.int 1)) (hs ns seed rest) = some (.d (.int seed), hs ns seed rest) := by
  simp [oIx, tyOf, lsOf, hs, L2.atI, L2.ixN]
theorem h_ixc : oIx (.loc 0) (.d (.int 0)) (hs (n :: ns) seed rest) = some (.d (.int n), hs (n :: ns) seed rest) := by simp [oIx, tyOf, lsOf, hs]
theorem datas_ints : ∀ ns : List Int, datas (ns.map fun i => Val.d (.int i)) = some (ns.map PyData.int)
  | [] => rfl
  | n :: r => by
    show (datas (r.map fun i => Val.d (.int i))).map (PyData.int n :: ·) = _
    rw [datas_ints r]; rfl
theorem plain_ints : ∀ ns : List Int, PyData.plainAll (ns.map PyData.int) = true ∧ PyData.depthAll (ns.map PyData.int) = 0
  | [] => ⟨rfl, rfl⟩
  | y :: ys => by
    obtain ⟨h1, h2⟩ := plain_ints ys
    exact ⟨by simp [PyData.plainAll, PyData.plain, h1], by simp [PyData.depthAll, PyData.depth, h2]⟩
theorem h_empty : eqV' (hs ns seed rest) (.loc 0) (.d (.list [])) = some ns.isEmpty := by
  have e : datOf (hs ns seed rest) (.loc 0) = some (.list (ns.map PyData.int)) := by
    show (datas (ns.map fun i => Val.d (.int i))).map PyData.list = _
    rw [datas_ints]; rfl
  obtain ⟨h1, h2⟩ := plain_ints ns
  unfold eqV'
  rw [e]
  show eqO (.list (ns.map PyData.int)) (.list []) = _
  unfold eqO
  rw [if_pos ⟨h1, rfl, by simp [PyData.depth, h2], by simp [PyData.depth, PyData.depthAll]⟩]
  cases ns <;> simp [PyData.eqv, PyData.eqvAll]
theorem h_pop : meO .popat (.loc 0) [.d (.int 0)] (hs (n :: ns) seed rest) = some (.d (.int n), hs ns seed rest) := by
  simp [meO, hs, guard', seqIndex?, setC]
theorem h_set0 : setO (.loc 0) (.d (.int 0)) (.d (.int m)) (hs (n :: ns) seed rest) = some (hs (m :: ns) seed rest) := by
  simp [setO, hs, setC, L2.ixN]
theorem h_set1 : setO (.loc 1) (.d (.int 1)) (.d (.int m)) (hs ns seed rest) = some (hs ns m rest) := by
  simp [setO, hs, setC, L2.ixN]
theorem h_recv : recv .popat (hs ns seed rest) (.loc 0) = true := rfl
theorem mkl_nil (st : Store) : mkList false [] st = .ok (.d (.list [])) st := rfl
end
abbrev pickT : E := .and (.cons (.cmp .ne (.ix (.var 0) (.cst (.int 0))) (.lst false .nil)) (.cons (.cmp .eq (.ix (.ix (.var 0) (.cst (.int 0))) (.cst (.int 0))) (.cst (.int 0))) .nil))
abbrev pickB : Ss := .cons (.expr (.me .popat (.ix (.var 0) (.cst (.int 0))) (.cons (.cst (.int 0)) .nil))) .nil
theorem pick_while (N : Env') (many seed : Int) (rest : Store) (x y : Option Val) : ∀ (ns : List Int) (f : Nat), ns.length < f →
    whL (tst N pickT) (exs N pickB) f [some (.loc 1), some (.d (.int many)), x, y] (hs ns seed rest) = .ok (.next [some (.loc 1), some (.d (.int many)), x, y]) (hs (ns.dropWhile (· == 0)) seed rest)
  | [], f + 1, _ => by
    have h1 : tst N pickT [some (.loc 1), some (.d (.int many)), x, y] (hs [] seed rest) = .ok false (hs [] seed rest) := by
      simp [tst, h_ix0, mkl_nil, h_empty]
    unfold whL
    rw [h1]
    simp
  | n :: ns, f + 1, hf => by
    cases hn : (n == 0) with
    | false =>
      have h1 : tst N pickT [some (.loc 1), some (.d (.int many)), x, y] (hs (n :: ns) seed rest) = .ok false (hs (n :: ns) seed rest) := by
        simp [tst, h_ix0, mkl_nil, h_empty, h_ixc, hn]
      unfold whL
      rw [h1]
      simp [List.dropWhile, hn]
    | true =>
      have h1 : tst N pickT [some (.loc 1), some (.d (.int many)), x, y] (hs (n :: ns) seed rest) = .ok true (hs (n :: ns) seed rest) := by
        simp [tst, h_ix0, mkl_nil, h_empty, h_ixc, hn]
      have h2 : exs N pickB [some (.loc 1), some (.d (.int many)), x, y] (hs (n :: ns) seed rest) = .ok (.next [some (.loc 1), some (.d (.int many)), x, y]) (hs ns seed rest) := by
        simp [h_ix0, h_recv, h_pop]
      unfold whL
      rw [h1]
      simp only [cat_okS, if_true, h2, noX_okS, bind_okS]
      rw [pick_while N many seed rest x y ns f (by simp at hf; omega)]
      simp [List.dropWhile, hn]
theorem mod_pos (i j : Int) (st : Store) (h : 0 < j) : oMod (.d (.int i)) (.d (.int j)) st = some (.d (.int (i % j)), st) := by
  show guard' (0 < j) _ = _
  rw [guard_pos h]; rfl
theorem fdiv_pos (i j : Int) (st : Store) (h : 0 < j) (h2 : j < 2 ^ 64) : oFdiv (.d (.int i)) (.d (.int j)) st = some (.d (.int (i / j)), st) := by
  show guard' (0 < j ∧ j.natAbs.log2 < 9000) _ = _
  have : j.natAbs.log2 < 9000 := by
    by_cases h0 : j.natAbs = 0
    · rw [h0]; decide
    · have := (Nat.log2_lt h0 (k := 64)).mpr (by omega)
      omega
  rw [guard_pos ⟨h, this⟩]; rfl
theorem mul_small (i j : Int) (st : Store) (h : 0 ≤ i) (h1 : i < 2 ^ 64) (h2 : 0 ≤ j) (h3 : j < 2 ^ 64) : oMul (.d (.int i)) (.d (.int j)) st = some (.d (.int (i * j)), st) := by
  show guard' (i.natAbs.log2 + j.natAbs.log2 < 1000000) _ = _
  have key : ∀ i : Int, 0 ≤ i → i < 2 ^ 64 → i.natAbs.log2 < 64 := fun i h h1 => by
    by_cases h0 : i.natAbs = 0
    · rw [h0]; decide
    · exact (Nat.log2_lt h0 (k := 64)).mpr (by omega)
  have := key i h h1
  have := key j h2 h3
  rw [guard_pos (by omega)]; rfl
/-- what is drawn: a number below many; the hand's cells change, nothing else -/
theorem pick {P : Prg} {pi : Nat} (hP : P.fns[pi]? = some fPick) (k : Nat) (many : Int) (hm : 0 < many) (hm2 : many < 2 ^ 60) (ns : List Int) (hl : ns.length ≤ 63) (seed : Int) (h0 : 0 ≤ seed) (h1 : seed < 2305843009213693951) (rest : Store) :
    ∃ r ns' seed', phi P (k + 1) pi [.loc 1, .d (.int many)] (hs ns seed rest) = .ok (.d (.int r)) (hs ns' seed' rest) ∧ 0 ≤ r ∧ r < many ∧ ns'.length ≤ 63 ∧ 0 ≤ seed' ∧ seed' < 2305843009213693951 := by
  rw [phi_at hP _ _ rfl]
  have e0 : startR fPick.ns [.loc 1, .d (.int many)] = [some (.loc 1), some (.d (.int many)), none, none] := rfl
  have hw := pick_while (P.env k) many seed rest none none ns fuelW (by unfold fuelW; omega)
  have hx := ex_while (P.env k) [some (.loc 1), some (.d (.int many)), none, none] (hs ns seed rest) pickT pickB
  rw [hw] at hx
  have hdl : (ns.dropWhile (· == 0)).length ≤ 63 := Nat.le_trans (List.dropWhile_sublist _).length_le hl
  rw [e0]
  generalize ns.dropWhile (· == 0) = ms at hx hdl
  have fin : ∀ (v : Val) (a b : List Int) (c d : Int), finR false (hs a c rest) (.ok (.ret v) (hs b d rest)) = .ok v (hs b d rest) := fun v a b c d => by
    show (match leaveS false (hs a c rest) (valOk (hs a c rest).length v) (hs b d rest) with | some st2 => R.ok v st2 | none => .no) = _
    have : leaveS false (hs a c rest) (valOk (hs a c rest).length v) (hs b d rest) = some (hs b d rest) := by
      unfold leaveS
      rw [if_pos (.inr (by simp [hs]))]
    rw [this]
  cases ms with
  | cons n r =>
    refine ⟨n % many, (n / many) :: r, seed, ?_, Int.emod_nonneg _ (by omega), Int.emod_lt_of_pos _ hm, by simpa using hdl, h0, h1⟩
    have e : exs (P.env k) fPick.body [some (.loc 1), some (.d (.int many)), none, none] (hs ns seed rest) = .ok (.ret (.d (.int (n % many)))) (hs ((n / many) :: r) seed rest) := by
      simp [fPick, bPick, hx, h_ix0, mkl_nil, h_empty, h_ixc, mod_pos _ _ _ hm, fdiv_pos _ _ _ hm (by omega), h_set0]
    rw [e]
    exact fin _ _ _ _ _
  | nil =>
    have q : 0 ≤ (seed * 3935559000370003 + 2691343689449507) % 2305843009213693951 ∧ (seed * 3935559000370003 + 2691343689449507) % 2305843009213693951 < 2305843009213693951 := ⟨Int.emod_nonneg _ (by omega), Int.emod_lt_of_pos _ (by omega)⟩
    have q1 := mul_small seed 3935559000370003 (hs [] seed rest) h0 (by omega) (by omega) (by omega)
    generalize hs2 : (seed * 3935559000370003 + 2691343689449507) % 2305843009213693951 = s2 at q
    have d1 : 0 ≤ s2 / 65537 ∧ s2 / 65537 < 2 ^ 60 := ⟨Int.ediv_nonneg q.1 (by omega), by omega⟩
    generalize hmx : s2 / 65537 = mx at d1
    have d2 : 0 ≤ mx % 8191 + 3 ∧ mx % 8191 + 3 < 2 ^ 60 := by omega
    have q2 := mul_small mx (mx % 8191 + 3) (hs [] s2 rest) d1.1 (by omega) d2.1 (by omega)
    refine ⟨mx * (mx % 8191 + 3) % 2305843009213693921 / 4099 % many, [], s2, ?_, Int.emod_nonneg _ (by omega), Int.emod_lt_of_pos _ hm, by simp, q.1, q.2⟩
    have e : exs (P.env k) fPick.body [some (.loc 1), some (.d (.int many)), none, none] (hs ns seed rest) = .ok (.ret (.d (.int (mx * (mx % 8191 + 3) % 2305843009213693921 / 4099 % many)))) (hs [] s2 rest) := by
      simp [fPick, bPick, hx, h_ix0, h_ix1, mkl_nil, h_empty, q1, hs2, mod_pos, fdiv_pos, h_set1, hmx, q2, hm]
    rw [e]
    exact fin _ _ _ _ _
def HandOk (ns : List Int) (seed : Int) : Prop := ns.length ≤ 63 ∧ 0 ≤ seed ∧ seed < 2305843009213693951
/-- from any hand, with any cells behind it, a run that changes the hand alone and gives data of which P holds -/
def Drawn (run : Store → R Val) (P : PyData → Prop) : Prop := ∀ ns seed rest, HandOk ns seed → ∃ d ns' seed', run (hs ns seed rest) = .ok (.d d) (hs ns' seed' rest) ∧ HandOk ns' seed' ∧ P d
theorem pickD {P : Prg} {pi : Nat} (hP : P.fns[pi]? = some fPick) (k : Nat) (many : Int) (hm : 0 < many) (hm2 : many < 2 ^ 60) : Drawn (phi P (k + 1) pi [.loc 1, .d (.int many)]) fun d => ∃ r, d = .int r ∧ 0 ≤ r ∧ r < many := fun ns seed rest h => by
  obtain ⟨r, ns', seed', e, h1, h2, h3, h4, h5⟩ := pick hP k many hm hm2 ns h.1 seed h.2.1 h.2.2 rest
  exact ⟨_, ns', seed', e, ⟨h3, h4, h5⟩, r, rfl, h1, h2⟩
theorem fin_hs (v : Val) (a b : List Int) (c d : Int) (rest : Store) : finR false (hs a c rest) (.ok (.ret v) (hs b d rest)) = .ok v (hs b d rest) := by
  show (match leaveS false (hs a c rest) (valOk (hs a c rest).length v) (hs b d rest) with | some st2 => R.ok v st2 | none => .no) = _
  have : leaveS false (hs a c rest) (valOk (hs a c rest).length v) (hs b d rest) = some (hs b d rest) := by
    unfold leaveS
    rw [if_pos (.inr (by simp [hs]))]
  rw [this]
/-- one of some -/
theorem ofD {P : Prg} {pi oi : Nat} (hP : P.fns[pi]? = some fPick) (hO : P.fns[oi]? = some (fOf pi)) (k : Nat) (ds : List PyData) (h0 : ds ≠ []) (hl : ds.length ≤ 1000000) : Drawn (phi P (k + 2) oi [.loc 1, .d (.list ds)]) fun d => d ∈ ds := fun ns seed rest h => by
  have hp : 0 < ds.length := List.length_pos_iff.mpr h0
  obtain ⟨d, ns', seed', e, h1, r, rfl, h2, h3⟩ := pickD hP k (ds.length : Int) (by omega) (by omega) ns seed rest h
  have hr : r.toNat < ds.length := by omega
  refine ⟨ds[r.toNat], ns', seed', ?_, h1, List.getElem_mem hr⟩
  rw [phi_at hO _ _ rfl]
  have e0 : startR (fOf pi).ns [.loc 1, .d (.list ds)] = [some (.loc 1), some (.d (.list ds))] := rfl
  have ea : L2.atI ds r = some ds[r.toNat] := by
    unfold L2.atI L2.ixN
    rw [if_pos h2, if_pos (by omega)]
    simp [hr]
  have ex : exs (P.env (k + 1)) (fOf pi).body [some (.loc 1), some (.d (.list ds))] (hs ns seed rest) = .ok (.ret (.d ds[r.toNat])) (hs ns' seed' rest) := by
    simp [fOf, bOf, e, ea]
  rw [e0, ex]
  exact fin_hs _ _ _ _ _ _
/-- what is chosen of xs, each turned by Q -/
inductive Chosen (Q : PyData → PyData → Prop) : List PyData → List PyData → Prop
  | nil : Chosen Q [] []
  | skip {x : PyData} {xs ys : List PyData} : Chosen Q xs ys → Chosen Q (x :: xs) ys
  | take {x y : PyData} {xs ys : List PyData} : Q x y → Chosen Q xs ys → Chosen Q (x :: xs) (y :: ys)
theorem Chosen.len {Q : PyData → PyData → Prop} {xs ys : List PyData} (h : Chosen Q xs ys) : ys.length ≤ xs.length := by
  induction h with
  | nil => exact Nat.le_refl _
  | skip _ ih => exact Nat.le_succ_of_le ih
  | take _ _ ih => exact Nat.succ_le_succ ih
theorem foldR_hand {f : Val → Store → R (Option Val)} {Q : PyData → PyData → Prop} : ∀ {xs : List PyData}, (∀ x ∈ xs, ∀ ns seed rest, HandOk ns seed → ∃ (o : Option PyData) (ns' : List Int) (seed' : Int), f (.d x) (hs ns seed rest) = .ok (o.map Val.d) (hs ns' seed' rest) ∧ HandOk ns' seed' ∧ ∀ y, o = some y → Q x y) →
    ∀ ns seed rest, HandOk ns seed → ∃ (ys : List PyData) (ns' : List Int) (seed' : Int), foldR f none (xs.map Val.d) (hs ns seed rest) = .ok (ys.map Val.d) (hs ns' seed' rest) ∧ HandOk ns' seed' ∧ Chosen Q xs ys
  | [], _, ns, seed, rest, h => ⟨[], ns, seed, rfl, h, .nil⟩
  | x :: xs, hf, ns, seed, rest, h => by
    obtain ⟨o, n1, s1, e1, h1, q1⟩ := hf x List.mem_cons_self ns seed rest h
    obtain ⟨ys, n2, s2, e2, h2, q2⟩ := foldR_hand (xs := xs) (fun y hy => hf y (List.mem_cons_of_mem _ hy)) n1 s1 rest h1
    have e : foldR f none ((x :: xs).map Val.d) (hs ns seed rest) = (f (.d x) (hs ns seed rest)).bind fun o st1 => (foldR f none (xs.map Val.d) st1).bind fun ys st2 => .ok (o.toList ++ ys) st2 := rfl
    rw [e, e1, bind_okS, e2, bind_okS]
    cases o with
    | none => exact ⟨ys, n2, s2, rfl, h2, .skip q2⟩
    | some y => exact ⟨y :: ys, n2, s2, rfl, h2, .take (q1 y rfl) q2⟩
/-- a comprehension that draws -/
theorem comp_hand {N : Env'} {elt : E} {tg : Tg} {it : It} {ifs : Es} {own : List Nat} {ρ : Rho} {xs : List PyData} {Q : PyData → PyData → Prop} (hl : xs.length ≤ 1000000)
    (hf : ∀ x ∈ xs, ∀ ns seed rest, HandOk ns seed → ∃ (o : Option PyData) (ns' : List Int) (seed' : Int), ((asg N tg (.d x) (wipeR ρ own) (hs ns seed rest)).bind fun ρ1 st3 => (evTests N ifs ρ1 st3).bind fun b st4 => if b then (ev N elt ρ1 st4).bind fun y st5 => .ok (some y) st5 else .ok none st4) = .ok (o.map Val.d) (hs ns' seed' rest) ∧ HandOk ns' seed' ∧ ∀ y, o = some y → Q x y)
    (ns : List Int) (seed : Int) (rest : Store) (h : HandOk ns seed) (hi : evIt N it ρ (hs ns seed rest) = .ok (xs.map Val.d, none) (hs ns seed rest)) :
    ∃ (ys : List PyData) (ns' : List Int) (seed' : Int), ev N (.comp false elt tg it ifs own) ρ (hs ns seed rest) = .ok (.d (.list ys)) (hs ns' seed' rest) ∧ HandOk ns' seed' ∧ Chosen Q xs ys := by
  obtain ⟨ys, n1, s1, e1, h1, q1⟩ := foldR_hand (f := fun x st2 => (asg N tg x (wipeR ρ own) st2).bind fun ρ1 st3 => (evTests N ifs ρ1 st3).bind fun b st4 => if b then (ev N elt ρ1 st4).bind fun y st5 => .ok (some y) st5 else .ok none st4) (Q := Q) (xs := xs) hf ns seed rest h
  refine ⟨ys, n1, s1, ?_, h1, q1⟩
  rw [ev, hi, bind_okS]
  dsimp only
  rw [e1, noExc_okS, bind_okS, mkList_data (by have := q1.len; have := mill; omega)]
abbrev big61 : Int := 2305843009213693951
abbrev handB : Ss := .cons (.asg (.name 1) (.bin .mod (.bin .add (.bin .add (.bin .mul (.var 1) (.cst (.int 6364136223846793))) (.bin .mod (.var 2) (.cst (.int 2305843009213693951)))) (.cst (.int 31))) (.cst (.int 2305843009213693951)))) .nil
theorem hand_for (N : Env') (v : Option Val) : ∀ (ns : List Int) (seed : Int) (w : Option Val), 0 ≤ seed → seed < big61 → ∃ seed' w', forL (fun x ρ1 st2 => (asg N (.name 2) x ρ1 st2).noExc.bind fun ρ2 st3 => exs N handB ρ2 st3) none ((ns.map PyData.int).map Val.d) [v, some (.d (.int seed)), w] [] = .ok (.next [v, some (.d (.int seed')), w']) [] ∧ 0 ≤ seed' ∧ seed' < big61
  | [], seed, w, h0, h1 => ⟨seed, w, rfl, h0, h1⟩
  | n :: ns, seed, w, h0, h1 => by
    have q : 0 ≤ (seed * 6364136223846793 + n % 2305843009213693951 + 31) % 2305843009213693951 ∧ (seed * 6364136223846793 + n % 2305843009213693951 + 31) % 2305843009213693951 < big61 := ⟨Int.emod_nonneg _ (by omega), Int.emod_lt_of_pos _ (by omega)⟩
    have q1 := mul_small seed 6364136223846793 [] h0 (by simp only [big61] at h1; omega) (by omega) (by omega)
    generalize hs2 : (seed * 6364136223846793 + n % 2305843009213693951 + 31) % 2305843009213693951 = s2 at q
    obtain ⟨s', w', e, h2, h3⟩ := hand_for N v ns s2 (some (.d (.int n))) q.1 q.2
    refine ⟨s', w', ?_, h2, h3⟩
    have e1 : ∀ f : Val → Rho → Store → R Fl, ∀ ρ, forL f none (((n :: ns).map PyData.int).map Val.d) ρ [] = (f (.d (.int n)) ρ []).noX.bind fun fl st1 => match fl with
      | .next ρ1 => forL f none ((ns.map PyData.int).map Val.d) ρ1 st1
      | .cont ρ1 => forL f none ((ns.map PyData.int).map Val.d) ρ1 st1
      | .brk ρ1 => .ok (.next ρ1) st1
      | .ret v => .ok (.ret v) st1
      | .exc e ρ1 => .ok (.exc e ρ1) st1 := fun f ρ => rfl
    rw [e1]
    have e2 : ((asg N (.name 2) (.d (.int n)) [v, some (.d (.int seed)), w] []).noExc.bind fun ρ2 st3 => exs N handB ρ2 st3) = .ok (.next [v, some (.d (.int s2)), some (.d (.int n))]) [] := by
      simp [q1, mod_pos, hs2]
    rw [e2]
    exact e
theorem pow18 (st : Store) : oPow (.d (.int 10)) (.d (.int 18)) st = some (.d (.int 1000000000000000000), st) := by
  unfold oPow
  dsimp only
  rw [guard_pos (by decide)]
  rfl
theorem fm18 : ∀ ns : List Int, ((ns.map PyData.int).map Val.d).filterMap (fun v => match v with | .d (.int i) => if 1000000000000000000 ≤ i then some (Val.d (.int i)) else none | _ => none) = (ns.filter fun n => decide (1000000000000000000 ≤ n)).map fun i => Val.d (.int i)
  | [] => rfl
  | n :: r => by
    have ih := fm18 r
    by_cases q : 1000000000000000000 ≤ n
    · simp [q] at ih ⊢; exact ih
    · simp [q] at ih ⊢; exact ih
theorem handD {P : Prg} {hi : Nat} (hH : P.fns[hi]? = some fHand) (k : Nat) (ns : List Int) (h : ns.length ≤ 63) : ∃ ns' seed', phi P (k + 1) hi [.scr ns] [] = .ok (.loc 1) (hs ns' seed' []) ∧ HandOk ns' seed' := by
  rw [phi_at hH _ _ rfl]
  have e0 : startR fHand.ns [.scr ns] = [some (.scr ns), none, none] := rfl
  obtain ⟨s', w', e1, h1, h2⟩ := hand_for (P.env k) (some (.scr ns)) ns 23 none (by decide) (by decide)
  have c1 : cutL ns none (some 63) = ns := by
    rw [cut_to' ns 63 (by decide)]
    exact List.take_of_length_le (by omega)
  have sl : oSlice (.scr ns) none (some 63) [] = some (.d (.list (ns.map PyData.int)), []) := by
    show some _ = _
    rw [c1]
  have hit : evIt (P.env k) (.e (.slice (.var 0) .no (.e (.cst (.int 63))))) [some (.scr ns), some (.d (.int 23)), none] [] = .ok ((ns.map PyData.int).map Val.d, none) [] := by
    simp [sl, seq_list]
  have hf := ex_for (P.env k) [some (.scr ns), some (.d (.int 23)), none] [] (.name 2) (.e (.slice (.var 0) .no (.e (.cst (.int 63))))) handB
  rw [hit, cat_okS] at hf
  rw [e1] at hf
  have hc : ev (P.env k) (.comp true (.var 2) (.name 2) (.e (.slice (.var 0) .no (.e (.cst (.int 63))))) (.cons (.cmp .ge (.var 2) (.bin .pow (.cst (.int 10)) (.cst (.int 18)))) .nil) [2]) [some (.scr ns), some (.d (.int s')), w'] [] = .ok (.loc 0) [.lst ((ns.filter fun n => decide (1000000000000000000 ≤ n)).map fun i => Val.d (.int i))] := by
    rw [ev]
    have hi2 : evIt (P.env k) (.e (.slice (.var 0) .no (.e (.cst (.int 63))))) [some (.scr ns), some (.d (.int s')), w'] [] = .ok ((ns.map PyData.int).map Val.d, none) [] := by
      simp [sl, seq_list]
    rw [hi2, bind_okS]
    dsimp only
    rw [foldR_opt (g := fun v => match v with | .d (.int i) => if 1000000000000000000 ≤ i then some (.d (.int i)) else none | _ => none)]
    · rw [fm18, noExc_okS, bind_okS]
      have hl := List.length_filter_le (fun n => decide (1000000000000000000 ≤ n)) ns
      unfold mkList
      rw [if_pos (by have := mill; simp; omega)]
      rfl
    · intro x hx
      rw [List.map_map] at hx
      obtain ⟨n, hn, rfl⟩ := List.mem_map.mp hx
      by_cases q : 1000000000000000000 ≤ n
      · simp [pow18, q]
      · simp [pow18, q]
  refine ⟨ns.filter fun n => decide (1000000000000000000 ≤ n), s', ?_, ⟨Nat.le_trans (List.length_filter_le _ _) h, h1, h2⟩⟩
  rw [e0]
  have e : exs (P.env k) fHand.body [some (.scr ns), none, none] [] = .ok (.ret (.loc 1)) (hs (ns.filter fun n => decide (1000000000000000000 ≤ n)) s' []) := by
    have hmk : mkList true [.loc 0, .d (.int s')] [.lst ((ns.filter fun n => decide (1000000000000000000 ≤ n)).map fun i => Val.d (.int i))] = .ok (.loc 1) (hs (ns.filter fun n => decide (1000000000000000000 ≤ n)) s' []) := by
      unfold mkList
      rw [if_pos (by have := s3.2.1; simpa using this)]
      rfl
    simp [fHand, bHand, hf, hc, hmk]
  rw [e]
  rfl

/-- one sign of a text -/
theorem ofS {P : Prg} {pi oi : Nat} (hP : P.fns[pi]? = some fPick) (hO : P.fns[oi]? = some (fOf pi)) (k : Nat) (x : Str) (h0 : 0 < x.length) (hl : x.length ≤ 1000000) : Drawn (phi P (k + 2) oi [.loc 1, .d (.str x)]) fun d => ∃ c ∈ x.cps.toList, d = .str ⟨#[c]⟩ := fun ns seed rest h => by
  obtain ⟨d, ns', seed', e, h1, r, rfl, h2, h3⟩ := pickD hP k (x.length : Int) (by omega) (by omega) ns seed rest h
  have hx : x.cps.toList.length = x.length := Array.length_toList
  have hr : r.toNat < x.cps.toList.length := by omega
  refine ⟨.str ⟨#[x.cps.toList[r.toNat]]⟩, ns', seed', ?_, h1, _, List.getElem_mem hr, rfl⟩
  rw [phi_at hO _ _ rfl]
  have e0 : startR (fOf pi).ns [.loc 1, .d (.str x)] = [some (.loc 1), some (.d (.str x))] := rfl
  have hs' : x.length ≤ sizeLine := Nat.le_trans hl mill
  have ea : L2.atI x.cps.toList r = some x.cps.toList[r.toNat] := by
    unfold L2.atI L2.ixN
    rw [if_pos h2, if_pos (by rw [hx]; exact h3)]
    rw [Option.bind_some]
    exact List.getElem?_eq_getElem hr
  have ei : oIx (.d (.str x)) (.d (.int r)) (hs ns' seed' rest) = some (.d (.str ⟨#[x.cps.toList[r.toNat]]⟩), hs ns' seed' rest) := by
    show (if x.length ≤ sizeLine then (L2.atI x.cps.toList r).bind _ else none) = _
    rw [if_pos hs', ea]; rfl
  have ex : exs (P.env (k + 1)) (fOf pi).body [some (.loc 1), some (.d (.str x))] (hs ns seed rest) = .ok (.ret (.d (.str ⟨#[x.cps.toList[r.toNat]]⟩))) (hs ns' seed' rest) := by
    simp [fOf, bOf, guard_pos hs', e, ei]
  rw [e0, ex]
  exact fin_hs _ _ _ _ _ _
/-! ### walks, by what they keep true -/
theorem forL_cons (f : Val → Rho → Store → R Fl) (g : Grd) (x : Val) (xs : List Val) (ρ : Rho) (st : Store) (hg : g.ok st) : forL f g (x :: xs) ρ st = (f x ρ st).noX.bind fun fl st1 => match fl with
    | .next ρ1 => forL f g xs ρ1 st1
    | .cont ρ1 => forL f g xs ρ1 st1
    | .brk ρ1 => .ok (.next ρ1) st1
    | .ret v => .ok (.ret v) st1
    | .exc e ρ1 => .ok (.exc e ρ1) st1 := by
  show (if g.ok st then _ else _) = _
  rw [if_pos hg] <;> rfl
/-- what each turn keeps; i: the turn -/
theorem forL_inv {f : Val → Rho → Store → R Fl} {g : Grd} {I : Nat → Rho → Store → Prop} : ∀ {xs : List Val} (n : Nat) {ρ : Rho} {st : Store}, I n ρ st → (∀ i ρ st, I i ρ st → g.ok st) →
    (∀ i x ρ st, xs[i]? = some x → I (n + i) ρ st → ∃ ρ' st', (f x ρ st = .ok (.next ρ') st' ∨ f x ρ st = .ok (.cont ρ') st') ∧ I (n + i + 1) ρ' st') → ∃ ρ' st', forL f g xs ρ st = .ok (.next ρ') st' ∧ I (n + xs.length) ρ' st'
  | [], n, ρ, st, h, hg, _ => ⟨ρ, st, by show (if g.ok st then _ else _) = _; rw [if_pos (hg _ _ _ h)], h⟩
  | x :: xs, n, ρ, st, h, hg, hf => by
    obtain ⟨ρ1, st1, e, h1⟩ := hf 0 x ρ st rfl h
    obtain ⟨ρ2, st2, e2, h2⟩ := forL_inv (f := f) (g := g) (I := I) (xs := xs) (n + 1) h1 hg fun i y ρ st hy hi => by
      have := hf (i + 1) y ρ st (by simpa using hy) (by rw [show n + (i + 1) = n + 1 + i by omega]; exact hi)
      rwa [show n + (i + 1) + 1 = n + 1 + i + 1 by omega] at this
    refine ⟨ρ2, st2, ?_, by rw [List.length_cons, show n + (xs.length + 1) = n + 1 + xs.length by omega]; exact h2⟩
    rw [forL_cons _ _ _ _ _ _ (hg _ _ _ h)]
    rcases e with e | e
    · rw [e]; exact e2
    · rw [e]; exact e2
/-- statements, one behind the other -/
theorem exs_next {N : Env'} {s : S} {r : Ss} {ρ ρ1 : Rho} {st st1 : Store} (h : ex N s ρ st = .ok (.next ρ1) st1) : exs N (.cons s r) ρ st = exs N r ρ1 st1 := by
  rw [exs_cons, h, noX_okS, bind_okS]
theorem exs_ret {N : Env'} {s : S} {r : Ss} {ρ : Rho} {v : Val} {st st1 : Store} (h : ex N s ρ st = .ok (.ret v) st1) : exs N (.cons s r) ρ st = .ok (.ret v) st1 := by
  rw [exs_cons, h, noX_okS, bind_okS]
@[simp] theorem ev_never (N : Env') (ρ : Rho) (st : Store) : ev N .never ρ st = .no := by rw [ev]
@[simp] theorem ev_lenset (N : Env') (ρ : Rho) (st : Store) (a : E) : ev N (.lenset a) ρ st = (ev N a ρ st).bind fun v st1 => match lsDat st1 v with
    | some ds => match strsOf ds with
      | some xs => if xs.length < 4000 then .ok (.d (.int ((distinct [] xs).length : Nat))) st1 else .no
      | none => .no
    | none => .no := by rw [ev] <;> rfl
@[simp] theorem ev_lrng (N : Env') (ρ : Rho) (st : Store) (mu : Bool) (a : E) : ev N (.lrng mu a) ρ st = (ev N a ρ st).bind fun v st1 => match v with
    | .d (.int n) => if -(2 ^ 62) ≤ n ∧ n ≤ 16777216 then mkList mu (rng 0 n.toNat 1) st1 else .no
    | _ => .no := by rw [ev] <;> rfl
@[simp] theorem ex_never (N : Env') (ρ : Rho) (st : Store) : ex N .never ρ st = .no := by rw [ex]
@[simp] theorem ex_par3 (N : Env') (ρ : Rho) (st : Store) (i j l : Nat) (a b c : E) : ex N (.par3 i j l a b c) ρ st = (ev N a ρ st).cat ρ fun v st1 => (ev N b ρ st1).cat ρ fun u st2 => (ev N c ρ st2).cat ρ fun w st3 => if i < ρ.length ∧ j < ρ.length ∧ l < ρ.length then .ok (.next (((ρ.set i (some v)).set j (some u)).set l (some w))) st3 else .no := by rw [ex]
@[simp] theorem ex_parn (N : Env') (ρ : Rho) (st : Store) (ts : Tgs) (es : Es) : ex N (.parn ts es) ρ st = (evs N es ρ st).cat ρ fun vs st1 => if vs.length ≤ sizeLine then (asgs N ts vs ρ st1).noExc.bind fun ρ1 st2 => .ok (.next ρ1) st2 else .no := by rw [ex]
end G
set_option Elab.async false
set_option linter.all false
set_option maxRecDepth 100000
/-! GTg: what the defs of tongues compute, whatever their numbers in a program -/
namespace G
open PySem PySem.Spec PyProof.Rows
def bRising : Ss := (.cons (.ret (.bi .all (.cons (.comp false (.cmp .lt (.var 1) (.var 2)) (.tup (.cons (.name 1) (.cons (.name 2) .nil))) (.zip (.cons (.var 0) (.cons (.slice (.var 0) (.e (.cst (.int 1))) .no) .nil))) .nil [1, 2]) .nil))) .nil)
def fRising : Fn := ⟨1, 3, false, bRising⟩
def bName (gL gM : Nat) : Ss := (.cons (.ret (.and (.cons (.isi (.var 0) [.str]) (.cons (.chain .le .le (.cst (.int 1)) (.bi .len (.cons (.var 0) .nil)) (.glob gM)) (.cons (.bi .all (.cons (.comp false (.cmp .isin (.var 1) (.glob gL)) (.name 1) (.e (.var 0)) .nil [1]) .nil)) .nil))))) .nil)
def fName (gL gM : Nat) : Fn := ⟨1, 2, false, bName gL gM⟩
def bSignText (gS gM : Nat) : Ss := (.cons (.ret (.and (.cons (.isi (.var 0) [.str]) (.cons (.chain .le .le (.cst (.int 1)) (.bi .len (.cons (.var 0) .nil)) (.glob gM)) (.cons (.bi .all (.cons (.comp false (.cmp .isin (.var 1) (.glob gS)) (.name 1) (.e (.var 0)) .nil [1]) .nil)) .nil))))) .nil)
def fSignText (gS gM : Nat) : Fn := ⟨1, 2, false, bSignText gS gM⟩
def bSignTexts (cT cR : Nat) : Ss := (.cons (.ret (.and (.cons (.isi (.var 0) [.tuple]) (.cons (.bi .all (.cons (.comp false (.call cT (.cons (.var 1) .nil)) (.name 1) (.e (.var 0)) .nil [1]) .nil)) (.cons (.call cR (.cons (.var 0) .nil)) .nil))))) .nil)
def fSignTexts (cT cR : Nat) : Fn := ⟨1, 2, false, bSignTexts cT cR⟩
def bSigns (cT : Nat) : Ss := (.cons (.ret (.and (.cons (.call cT (.cons (.var 0) .nil)) (.cons (.bi .all (.cons (.comp false (.or (.cons (.cmp .eq (.bi .len (.cons (.var 1) .nil)) (.cst (.int 1))) (.cons (.cmp .isin (.slice (.var 1) .no (.e (.neg (.cst (.int 1))))) (.var 0)) .nil))) (.name 1) (.e (.var 0)) .nil [1]) .nil)) .nil)))) .nil)
def fSigns (cT : Nat) : Fn := ⟨1, 2, false, bSigns cT⟩
def bTextOf : Ss := (.cons (.ret (.and (.cons (.isi (.var 0) [.str]) (.cons (.cmp .isin (.var 0) (.var 1)) .nil)))) .nil)
def fTextOf : Fn := ⟨2, 2, false, bTextOf⟩
def bPairs (cT cR gP : Nat) : Ss := (.cons (.ite (.or (.cons (.not (.isi (.var 0) [.tuple])) (.cons (.cmp .eq (.bi .len (.cons (.var 0) .nil)) (.cst (.int 0))) (.cons (.not (.bi .all (.cons (.comp false (.call cT (.cons (.var 1) (.cons (.glob gP) .nil))) (.name 1) (.e (.var 0)) .nil [1]) .nil))) .nil)))) (.cons (.ret (.cst (.bool false))) .nil) .nil) (.cons (.ret (.call cR (.cons (.var 0) .nil))) .nil))
def fPairs (cT cR gP : Nat) : Fn := ⟨1, 2, false, bPairs cT cR gP⟩
def bEnd (cT gE gP : Nat) : Ss := (.cons (.ret (.ite (.cmp .eq (.var 0) (.glob gE)) (.call cT (.cons (.var 1) (.cons (.glob gP) .nil))) (.cmp .is (.var 1) (.cst .none)))) .nil)
def fEnd (cT gE gP : Nat) : Fn := ⟨2, 2, false, bEnd cT gE gP⟩
def bBlock (cT gP : Nat) : Ss := (.cons (.ret (.or (.cons (.cmp .is (.var 1) (.cst .none)) (.cons (.and (.cons (.call cT (.cons (.var 1) (.cons (.glob gP) .nil))) (.cons (.cmp .notin (.var 1) (.var 0)) .nil))) .nil)))) .nil)
def fBlock (cT gP : Nat) : Fn := ⟨2, 2, false, bBlock cT gP⟩
def bApart : Ss := (.cons (.ret (.and (.cons (.cmp .eq (.lenset (.var 1)) (.bi .len (.cons (.var 1) .nil))) (.cons (.not (.bi .any (.cons (.comp2 false (.cmp .isin (.var 2) (.var 3)) (.name 2) (.e (.var 1)) .nil (.name 3) (.e (.var 0)) .nil [2, 3] [3]) .nil))) .nil)))) .nil)
def fApart : Fn := ⟨2, 4, false, bApart⟩
def bTongue (cN cT cS cP cE cB cA gZ gE gL gP gR gQ : Nat) : Ss := (.cons (.ite (.or (.cons (.not (.isi (.var 0) [.tuple])) (.cons (.cmp .ne (.bi .len (.cons (.var 0) .nil)) (.glob gZ)) .nil))) (.cons (.ret (.cst (.bool false))) .nil) .nil) (.cons (.asg (.tup (.cons (.name 1) (.cons (.name 2) (.cons (.name 3) (.cons (.name 4) (.cons (.name 5) (.cons (.name 6) (.cons (.name 7) (.cons (.name 8) (.cons (.name 9) .nil)))))))))) (.var 0)) (.cons (.ite (.or (.cons (.not (.call cN (.cons (.var 1) .nil))) (.cons (.not (.call cT (.cons (.var 2) (.cons (.tup (.cons (.glob gE) (.cons (.glob gL) .nil))) .nil)))) (.cons (.not (.call cS (.cons (.var 3) .nil))) (.cons (.not (.call cP (.cons (.var 4) .nil))) .nil))))) (.cons (.ret (.cst (.bool false))) .nil) .nil) (.cons (.ite (.or (.cons (.not (.call cT (.cons (.var 5) (.cons (.glob gP) .nil)))) (.cons (.not (.call cE (.cons (.var 2) (.cons (.var 6) .nil)))) (.cons (.not (.call cB (.cons (.var 4) (.cons (.var 7) .nil)))) .nil)))) (.cons (.ret (.cst (.bool false))) .nil) .nil) (.cons (.ite (.and (.cons (.cmp .isnot (.var 8) (.cst .none)) (.cons (.not (.call cT (.cons (.var 8) (.cons (.glob gR) .nil)))) .nil))) (.cons (.ret (.cst (.bool false))) .nil) .nil) (.cons (.ite (.and (.cons (.cmp .isnot (.var 9) (.cst .none)) (.cons (.not (.call cT (.cons (.var 9) (.cons (.glob gQ) .nil)))) .nil))) (.cons (.ret (.cst (.bool false))) .nil) .nil) (.cons (.ret (.call cA (.cons (.var 3) (.cons (.comp false (.var 10) (.name 10) (.e (.tup (.cons (.var 5) (.cons (.var 6) (.cons (.var 8) .nil))))) (.cons (.cmp .isnot (.var 10) (.cst .none)) .nil) [10]) .nil)))) .nil)))))))
def fTongue (cN cT cS cP cE cB cA gZ gE gL gP gR gQ : Nat) : Fn := ⟨1, 11, false, bTongue cN cT cS cP cE cB cA gZ gE gL gP gR gQ⟩
/-- rising, of texts -/
def rising : List Str → Bool
  | x :: y :: r => decide (x.cps.toList < y.cps.toList) && rising (y :: r)
  | _ => true
theorem pairs_all : ∀ xs : List Str, (List.zipWith (fun x y => (x, y)) xs (xs.drop 1)).all (fun p => decide (p.1.cps.toList < p.2.cps.toList)) = rising xs
  | [] => rfl
  | [_] => rfl
  | x :: y :: r => by
    have ih := pairs_all (y :: r)
    simp only [List.drop_succ_cons, List.drop_zero, List.zipWith_cons_cons, List.all_cons, rising] at ih ⊢
    rw [ih]
theorem pairs2_strs (xs ys : List Str) : pairs2 (xs.map PyData.str) (ys.map PyData.str) = (List.zipWith (fun x y => PyData.tuple [.str x, .str y]) xs ys).map Val.d := by
  unfold pairs2
  rw [List.zipWith_map, List.map_zipWith]
def ltPair : PyData → Bool
  | .tuple [.str x, .str y] => decide (x.cps.toList < y.cps.toList)
  | _ => false
theorem pairs_all' (xs : List Str) : (List.zipWith (fun x y => PyData.tuple [.str x, .str y]) xs (xs.drop 1)).all ltPair = rising xs := by
  rw [← pairs_all]
  generalize xs.drop 1 = ys
  induction xs generalizing ys with
  | nil => rfl
  | cons x r ih =>
    cases ys with
    | nil => rfl
    | cons y s => simp [ltPair, ih]

theorem r_rising {P : Prg} {i : Nat} (hP : P.fns[i]? = some fRising) (k : Nat) (v : Val) (xs : List Str) (st : Store) (hv : v = .d (.tuple (xs.map PyData.str)) ∨ v = .d (.list (xs.map PyData.str))) (hl : xs.length ≤ sizeLine) : phi P (k + 1) i [v] st = .ok (.d (.bool (rising xs))) st := by
  rw [phi_at hP _ _ rfl]
  have hz : evIt (P.env k) (.zip (.cons (.var 0) (.cons (.slice (.var 0) (.e (.cst (.int 1))) .no) .nil))) [some v, none, none] st = .ok ((List.zipWith (fun x y => PyData.tuple [.str x, .str y]) xs (xs.drop 1)).map Val.d, none) st := by
    rcases hv with rfl | rfl
    · simp only [evIt_zip, evs_cons, evs_nil, ev_var, List.getElem?_cons_zero, bind_okS, ev_slice, evPart_e, evPart_no, ev_cst, oSlice_tuple, ofO_someS, zipO_tuples, ofOpt_someS, cut_from1, ← List.map_drop, pairs2_strs]
    · simp only [evIt_zip, evs_cons, evs_nil, ev_var, List.getElem?_cons_zero, bind_okS, ev_slice, evPart_e, evPart_no, ev_cst, oSlice_list, ofO_someS, zipO_lists, ofOpt_someS, cut_from1, ← List.map_drop, pairs2_strs]
  have e : exs (P.env k) fRising.body (startR fRising.ns [v]) st = .ok (.ret (.d (.bool (rising xs)))) st := by
    have h := ev_comp_bools (N := P.env k) (elt := .cmp .lt (.var 1) (.var 2)) (tg := .tup (.cons (.name 1) (.cons (.name 2) .nil))) (own := [1, 2]) (p := ltPair) hz (fun x hx => by
      obtain ⟨y, z, rfl⟩ := mem_zipW hx
      simp [ltPair]) (by rw [List.length_zipWith]; omega)
    have e0 : startR fRising.ns [v] = [some v, none, none] := rfl
    have hL := pairs_all' xs
    rw [e0]
    generalize List.zipWith (fun x y => PyData.tuple [.str x, .str y]) xs (xs.drop 1) = L at h hL
    simp [fRising, bRising, h, hL]
  rw [e, fin_ret]

/-! ### texts of signs -/
def signs : Str := "!$&*+-./:<=>?@^|~"
def wordS : Str := "abcdefghijklmnopqrstuvwxyzABCDEFGHIJKLMNOPQRSTUVWXYZ0123456789_"
def allIn (y x : Str) : Bool := x.cps.toList.all fun c => decide (c ∈ y.cps.toList)
def inP (y : Str) : PyData → Bool
  | .str z => z.cps.toList.all fun c => decide (c ∈ y.cps.toList)
  | _ => false
/-- all([sign in y for sign in x]) at slots -/
theorem all_in (N : Env') (ρ : Rho) (st : Store) (j : Nat) (x y : Str) (ey ex : E) (hx : ev N ex ρ st = .ok (.d (.str x)) st) (hj : j < ρ.length) (hy : ∀ v, ev N ey (ρ.set j v) st = .ok (.d (.str y)) st) (hl : x.length ≤ sizeLine) :
    ev N (.comp false (.cmp .isin (.var j) ey) (.name j) (.e ex) .nil [j]) ρ st = .ok (.d (.list (boolsD (inP y) (charsD x)))) st := by
  have h := ev_comp_bools (N := N) (elt := .cmp .isin (.var j) ey) (tg := .name j) (it := .e ex) (own := [j]) (ρ := ρ) (st := st) (xs := charsD x) (p := inP y)
    (by rw [evIt_e, hx, bind_okS, seq_str]; rfl) (fun d hd => by
      obtain ⟨c, hc, rfl⟩ := List.mem_map.mp hd
      have e2 := hy (some (.d (.str ⟨#[c]⟩)))
      simp [hj, List.set_set, e2, inP]) (by
        rw [charsD_len]
        exact hl)
  exact h
theorem allIn_all (x y : Str) : (charsD x).all (inP y) = allIn y x := by
  unfold charsD
  rw [List.all_map]
  unfold allIn
  congr 1
  funext c
  simp [inP]
def signText : PyData → Bool
  | .str x => decide (1 ≤ x.length) && decide (x.length ≤ 3) && allIn signs x
  | _ => false
def lenOk : PyData → Prop
  | .str x => x.length ≤ sizeLine
  | .tuple xs => xs.length ≤ sizeLine
  | .list xs => xs.length ≤ sizeLine
  | _ => True

theorem r_signText {P : Prg} {i gS gM : Nat} (hP : P.fns[i]? = some (fSignText gS gM)) (hS : P.glob[gS]? = some (.str signs)) (hg : P.glob[gM]? = some (.int 3)) (k : Nat) (d : PyData) (st : Store) (hd : lenOk d) : phi P (k + 1) i [.d d] st = .ok (.d (.bool (signText d))) st := by
  rw [phi_at hP _ _ rfl]
  have e : exs (P.env k) (fSignText gS gM).body (startR (fSignText gS gM).ns [.d d]) st = .ok (.ret (.d (.bool (signText d)))) st := by
    have e0 : startR (fSignText gS gM).ns [.d d] = [some (.d d), none] := rfl
    rw [e0]
    cases d <;> try (simp [fSignText, bSignText, tyOf, isT, signText]; done)
    rename_i x
    have hl : x.length ≤ sizeLine := hd
    have ha := all_in (P.env k) [some (.d (.str x)), none] st 1 x signs (.glob gS) (.var 0) rfl (by simp) (fun v => by simp [hS]) hl
    simp only [fSignText, bSignText, exs_cons, exs_nil, ex_ret, ev_and, evAnd_two, evAnd_one]
    by_cases h1 : (1 : Int) ≤ x.length
    · have h1' : 1 ≤ x.length := by omega
      by_cases h2 : x.length ≤ 3
      · have h2' : (x.length : Int) ≤ 3 := by omega
        simp [tyOf, isT, guard', hl, hg, h1, h1', h2, h2', signText, ha, allIn_all]
      · have h2' : ¬ (x.length : Int) ≤ 3 := by omega
        simp [tyOf, isT, guard', hl, hg, h1, h1', h2, h2', signText, ha, allIn_all]
    · have h1' : ¬ 1 ≤ x.length := by omega
      simp [tyOf, isT, guard', hl, hg, h1, h1', signText]
  rw [e, fin_ret]

def strsG : List PyData → List Str
  | [] => []
  | .str x :: r => x :: strsG r
  | _ :: r => strsG r
theorem strsG_map {p : PyData → Bool} (hp : ∀ d, p d = true → ∃ x, d = .str x) : ∀ {xs : List PyData}, xs.all p = true → xs = (strsG xs).map PyData.str
  | [], _ => rfl
  | d :: r, h => by
    rw [List.all_cons, Bool.and_eq_true] at h
    obtain ⟨x, rfl⟩ := hp d h.1
    show _ = PyData.str x :: (strsG r).map PyData.str
    rw [← strsG_map hp h.2]
theorem strsG_len : ∀ xs : List PyData, (strsG xs).length ≤ xs.length
  | [] => Nat.le_refl _
  | d :: r => by
    have := strsG_len r
    cases d <;> simp [strsG] <;> omega
/-- a tuple of such, rising -/
def risingOf (p : PyData → Bool) : PyData → Bool
  | .tuple xs => xs.all p && rising (strsG xs)
  | _ => false
def lensOk (d : PyData) : Prop := match d with
  | .tuple xs => xs.length ≤ sizeLine ∧ ∀ x ∈ xs, lenOk x
  | _ => True
/-- isinstance(thing, tuple) and all([p(one) for one in thing]) and are_rising(thing) -/
theorem rising_body {P : Prg} (k pf rf : Nat) (d : PyData) (st : Store) (p : PyData → Bool) (hp : ∀ d, p d = true → ∃ x, d = .str x) (hd : lensOk d) (hf : ∀ x st, lenOk x → phi P k pf [.d x] st = .ok (.d (.bool (p x))) st)
    (hr : ∀ (v : Val) (xs : List Str) (st : Store), (v = .d (.tuple (xs.map PyData.str)) ∨ v = .d (.list (xs.map PyData.str))) → xs.length ≤ sizeLine → phi P k rf [v] st = .ok (.d (.bool (rising xs))) st) :
    exs (P.env k) (.cons (.ret (.and (.cons (.isi (.var 0) [.tuple]) (.cons (.bi .all (.cons (.comp false (.call pf (.cons (.var 1) .nil)) (.name 1) (.e (.var 0)) .nil [1]) .nil)) (.cons (.call rf (.cons (.var 0) .nil)) .nil))))) .nil) [some (.d d), none] st = .ok (.ret (.d (.bool (risingOf p d)))) st := by
  cases d <;> try (simp [tyOf, isT, risingOf]; done)
  rename_i xs
  obtain ⟨h1, h2⟩ := hd
  have ha := ev_comp_bools (N := P.env k) (elt := .call pf (.cons (.var 1) .nil)) (tg := .name 1) (it := .e (.var 0)) (own := [1]) (ρ := [some (.d (.tuple xs)), none]) (st := st) (xs := xs) (p := p) (by simp [seq_tuple]) (fun x hx => by simp [hf x st (h2 x hx)]) h1
  simp only [exs_cons, exs_nil, ex_ret, ev_and, evAnd_two, evAnd_one]
  cases hq : xs.all p with
  | false => simp [tyOf, isT, risingOf, hq, ha]
  | true =>
    have e := strsG_map hp hq
    have h := hr (.d (.tuple xs)) (strsG xs) st (.inl (by rw [← e])) (Nat.le_trans (strsG_len xs) h1)
    simp [tyOf, isT, risingOf, hq, h, ha]

theorem signText_str : ∀ d, signText d = true → ∃ x, d = .str x := fun d h => by cases d <;> first | (cases h; done) | exact ⟨_, rfl⟩
theorem r_signTexts {P : Prg} {i cT cR gS gM : Nat} (hP : P.fns[i]? = some (fSignTexts cT cR)) (hT : P.fns[cT]? = some (fSignText gS gM)) (hR : P.fns[cR]? = some fRising) (hS : P.glob[gS]? = some (.str signs)) (hg : P.glob[gM]? = some (.int 3)) (k : Nat) (d : PyData) (st : Store) (hd : lensOk d) : phi P (k + 2) i [.d d] st = .ok (.d (.bool (risingOf signText d))) st := by
  rw [phi_at hP _ _ rfl]
  have h := rising_body (P := P) (k + 1) cT cR d st signText signText_str hd (fun x st hx => r_signText hT hS hg k x st hx) (fun v xs st hv hl => r_rising hR k v xs st hv hl)
  show finR false st (exs (P.env (k + 1)) (bSignTexts cT cR) [some (.d d), none] st) = _
  unfold bSignTexts
  rw [h, fin_ret]
theorem fit_len {d : PyData} (h : fitB d = true) : lenOk d := by
  cases d <;> try exact trivial
  · have h : decide _ = true := h
    exact Nat.le_trans (of_decide_eq_true h) mill
  · have h : (decide _ && fitBs _) = true := h
    rw [Bool.and_eq_true] at h
    exact Nat.le_trans (of_decide_eq_true h.1) mill
  · exact Nat.le_trans (fit_tuple h).1 mill
theorem fit_lens {d : PyData} (h : fitB d = true) : lensOk d := by
  cases d <;> try exact trivial
  exact ⟨Nat.le_trans (fit_tuple h).1 mill, fun x hx => fit_len ((fit_tuple h).2 x hx)⟩

end G
set_option Elab.async false
set_option linter.all false
set_option maxRecDepth 100000
/-! GTh: the look at a tongue -/
namespace G
open PySem PySem.Spec PyProof.Rows
def lettersS : Str := "abcdefghijklmnopqrstuvwxyz"
def nameB : PyData → Bool
  | .str x => decide (1 ≤ x.length) && decide (x.length ≤ 8) && allIn lettersS x
  | _ => false
section
variable {P : Prg}
theorem r_name {i gL gM : Nat} (hP : P.fns[i]? = some (fName gL gM)) (hS : P.glob[gL]? = some (.str lettersS)) (hg : P.glob[gM]? = some (.int 8)) (k : Nat) (d : PyData) (st : Store) (hd : lenOk d) : phi P (k + 1) i [.d d] st = .ok (.d (.bool (nameB d))) st := by
  rw [phi_at hP _ _ rfl]
  have e : exs (P.env k) (fName gL gM).body (startR (fName gL gM).ns [.d d]) st = .ok (.ret (.d (.bool (nameB d)))) st := by
    have e0 : startR (fName gL gM).ns [.d d] = [some (.d d), none] := rfl
    rw [e0]
    cases d <;> try (simp [fName, bName, tyOf, isT, nameB]; done)
    rename_i x
    have hl : x.length ≤ sizeLine := hd
    have ha := all_in (P.env k) [some (.d (.str x)), none] st 1 x lettersS (.glob gL) (.var 0) rfl (by simp) (fun v => by simp [hS]) hl
    simp only [fName, bName, exs_cons, exs_nil, ex_ret, ev_and, evAnd_two, evAnd_one]
    by_cases h1 : (1 : Int) ≤ x.length
    · have h1' : 1 ≤ x.length := by omega
      by_cases h2 : x.length ≤ 8
      · have h2' : (x.length : Int) ≤ 8 := by omega
        simp [tyOf, isT, guard', hl, hg, h1, h1', h2, h2', nameB, ha, allIn_all]
      · have h2' : ¬ (x.length : Int) ≤ 8 := by omega
        simp [tyOf, isT, guard', hl, hg, h1, h1', h2, h2', nameB, ha, allIn_all]
    · have h1' : ¬ 1 ≤ x.length := by omega
      simp [tyOf, isT, guard', hl, hg, h1, h1', nameB]
  rw [e, fin_ret]
def textOf (ys : List Str) : PyData → Bool
  | .str x => ys.any fun z => z == x
  | _ => false
theorem textOf_str {ys : List Str} {d : PyData} (h : textOf ys d = true) : ∃ x, d = .str x ∧ x ∈ ys := by
  cases d <;> first | (cases h; done) | skip
  rename_i x
  have h : (ys.any fun z => z == x) = true := h
  obtain ⟨z, h1, h2⟩ := List.any_eq_true.mp h
  exact ⟨x, rfl, by rw [← eq_of_beq h2]; exact h1⟩
theorem r_textOf {i : Nat} (hP : P.fns[i]? = some fTextOf) (k : Nat) (d : PyData) (ys : List Str) (v : Val) (hv : v = .d (.tuple (ys.map PyData.str)) ∨ v = .d (.list (ys.map PyData.str))) (st : Store) : phi P (k + 1) i [.d d, v] st = .ok (.d (.bool (textOf ys d))) st := by
  rw [phi_at hP _ _ rfl]
  have e : exs (P.env k) fTextOf.body (startR fTextOf.ns [.d d, v]) st = .ok (.ret (.d (.bool (textOf ys d)))) st := by
    have e0 : startR fTextOf.ns [.d d, v] = [some (.d d), some v] := rfl
    rw [e0]
    cases d <;> try (simp [fTextOf, bTextOf, tyOf, isT, textOf]; done)
    rcases hv with rfl | rfl
    · simp [fTextOf, bTextOf, tyOf, isT, textOf, in_tup_strs]
    · simp [fTextOf, bTextOf, tyOf, isT, textOf, in_list_strs]
  rw [e, fin_ret]
def butLast (x : Str) : Str := ⟨(x.cps.toList.dropLast).toArray⟩
def headOk (xs : List Str) (x : Str) : Bool := decide (x.length = 1) || xs.any fun z => z == butLast x
def headD (xs : List Str) : PyData → Bool
  | .str x => headOk xs x
  | _ => false
def signsB : PyData → Bool
  | .tuple xs => risingOf signText (.tuple xs) && (strsG xs).all (headOk (strsG xs))
  | _ => false
theorem slice_last (x : Str) (st : Store) (h : 1 ≤ x.length) (hl : x.length ≤ sizeLine) : oSlice (.d (.str x)) none (some (-1)) st = some (.d (.str (butLast x)), st) := by
  show guard' (x.length ≤ sizeLine) _ = _
  rw [guard_pos hl]
  have e : cutL x.cps.toList none (some (-1)) = x.cps.toList.dropLast := by
    have hx : x.cps.toList.length = x.length := Array.length_toList
    unfold cutL
    have h2 : HT.sIx x.cps.toList.length 0 none = 0 := by simp [HT.sIx]
    have h3 : HT.sIx x.cps.toList.length x.cps.toList.length (some (-1)) = x.cps.toList.length - 1 := by
      rw [hx]
      simp only [HT.sIx]
      simp
      omega
    rw [h2, h3, List.dropLast_eq_take]; simp
  rw [e]; rfl
theorem strs_all {p : Str → Bool} {q : PyData → Bool} (hq : ∀ x, q (.str x) = p x) : ∀ (ys : List Str), (ys.map PyData.str).all q = ys.all p
  | [] => rfl
  | y :: r => by rw [List.map_cons, List.all_cons, List.all_cons, hq, strs_all hq r]
theorem r_signs {i cT cR gS gM cX : Nat} (hP : P.fns[i]? = some (fSigns cX)) (hX : P.fns[cX]? = some (fSignTexts cT cR)) (hT : P.fns[cT]? = some (fSignText gS gM)) (hR : P.fns[cR]? = some fRising) (hS : P.glob[gS]? = some (.str signs)) (hg : P.glob[gM]? = some (.int 3)) (k : Nat) (d : PyData) (st : Store) (hd : lensOk d) :
    phi P (k + 3) i [.d d] st = .ok (.d (.bool (signsB d))) st := by
  rw [phi_at hP _ _ rfl]
  have h := r_signTexts hX hT hR hS hg k d st hd
  have e : exs (P.env (k + 2)) (fSigns cX).body (startR (fSigns cX).ns [.d d]) st = .ok (.ret (.d (.bool (signsB d)))) st := by
    have e0 : startR (fSigns cX).ns [.d d] = [some (.d d), none] := rfl
    rw [e0]
    cases q : risingOf signText d with
    | false =>
      rw [q] at h
      have : signsB d = false := by
        cases d <;> first | rfl | skip
        show (risingOf signText _ && _) = false
        rw [q]; rfl
      simp [fSigns, bSigns, h, this]
    | true =>
      rw [q] at h
      cases d <;> first | (cases q; done) | skip
      rename_i xs
      have qa : (xs.all signText && rising (strsG xs)) = true := q
      rw [Bool.and_eq_true] at qa
      have ex := strsG_map signText_str qa.1
      have hl : xs.length ≤ sizeLine := hd.1
      have hc := ev_comp_bools (N := P.env (k + 2)) (elt := .or (.cons (.cmp .eq (.bi .len (.cons (.var 1) .nil)) (.cst (.int 1))) (.cons (.cmp .isin (.slice (.var 1) .no (.e (.neg (.cst (.int 1))))) (.var 0)) .nil))) (tg := .name 1) (it := .e (.var 0)) (own := [1]) (ρ := [some (.d (.tuple xs)), none]) (st := st) (xs := xs) (p := headD (strsG xs)) (by simp [seq_tuple]) (fun x hx => by
        have hs := List.all_eq_true.mp qa.1 x hx
        obtain ⟨y, rfl⟩ := signText_str x hs
        have hs : (decide (1 ≤ y.length) && decide (y.length ≤ 3) && allIn signs y) = true := hs
        simp only [Bool.and_eq_true, decide_eq_true_eq] at hs
        have hy : y.length ≤ sizeLine := by have := mill; omega
        by_cases h1 : y.length = 1
        · have h1' : (y.length : Int) = 1 := by omega
          simp [guard', s3.2.2, headD, headOk, h1, h1']
        · have h1' : ((y.length : Int) == 1) = false := by rw [beq_eq_false_iff_ne]; omega
          have hin : isInO (.d (.str (butLast y))) (.d (.tuple xs)) st = some ((strsG xs).any fun z => z == butLast y) := by
            conv => lhs; rw [ex]
            exact in_tup_strs _ _ _
          simp [guard', hy, headD, headOk, h1, h1', slice_last y st hs.1.1 hy, hin]) hl
      have hall : xs.all (headD (strsG xs)) = (strsG xs).all (headOk (strsG xs)) := by
        conv => lhs; rw [ex]
        rw [show (strsG ((strsG xs).map PyData.str)) = strsG xs by rw [← ex]]
        exact strs_all (fun x => rfl) _
      have hs : signsB (.tuple xs) = (strsG xs).all (headOk (strsG xs)) := by
        show (risingOf signText (.tuple xs) && _) = _
        rw [q, Bool.true_and]
      simp [fSigns, bSigns, h, hc, hall, hs]
  rw [e, fin_ret]
def pairsB (ps : List Str) : PyData → Bool
  | .tuple xs => !xs.isEmpty && xs.all (textOf ps) && rising (strsG xs)
  | _ => false
theorem r_pairs {i cT cR gP : Nat} {ps : List Str} (hP : P.fns[i]? = some (fPairs cT cR gP)) (hT : P.fns[cT]? = some fTextOf) (hR : P.fns[cR]? = some fRising) (hg : P.glob[gP]? = some (.tuple (ps.map PyData.str))) (k : Nat) (d : PyData) (st : Store) (hd : lensOk d) : phi P (k + 2) i [.d d] st = .ok (.d (.bool (pairsB ps d))) st := by
  rw [phi_at hP _ _ rfl]
  have e : exs (P.env (k + 1)) (fPairs cT cR gP).body (startR (fPairs cT cR gP).ns [.d d]) st = .ok (.ret (.d (.bool (pairsB ps d)))) st := by
    have e0 : startR (fPairs cT cR gP).ns [.d d] = [some (.d d), none] := rfl
    rw [e0]
    cases d <;> try (simp [fPairs, bPairs, tyOf, isT, pairsB]; done)
    rename_i xs
    have hl : xs.length ≤ sizeLine := hd.1
    cases h0 : xs.isEmpty with
    | true =>
      have : xs = [] := List.isEmpty_iff.mp h0
      subst this
      simp [fPairs, bPairs, tyOf, isT, pairsB]
    | false =>
      have h0' : ((xs.length : Int) == 0) = false := by
        rw [beq_eq_false_iff_ne]
        intro z
        have : xs.length = 0 := by omega
        rw [List.length_eq_zero_iff.mp this] at h0; cases h0
      have hc := ev_comp_bools (N := P.env (k + 1)) (elt := .call cT (.cons (.var 1) (.cons (.glob gP) .nil))) (tg := .name 1) (it := .e (.var 0)) (own := [1]) (ρ := [some (.d (.tuple xs)), none]) (st := st) (xs := xs) (p := textOf ps) (by simp [seq_tuple]) (fun x hx => by
        have := r_textOf hT k x ps (.d (.tuple (ps.map PyData.str))) (.inl rfl) st
        simp [hg, this]) hl
      cases h1 : xs.all (textOf ps) with
      | false => simp [fPairs, bPairs, tyOf, isT, pairsB, h0, h0', hc, h1]
      | true =>
        have ex := strsG_map (fun d h => let ⟨x, e, _⟩ := textOf_str h; ⟨x, e⟩) h1
        have h := r_rising hR k (.d (.tuple xs)) (strsG xs) st (.inl (by rw [← ex])) (Nat.le_trans (strsG_len xs) hl)
        simp [fPairs, bPairs, tyOf, isT, pairsB, h0, h0', hc, h1, h]
  rw [e, fin_ret]
def isNone : PyData → Bool
  | .none => true
  | _ => false
theorem isO_none (d : PyData) : isO (.d d) (.d .none) = some (isNone d) := by cases d <;> simp [isO, isNone]
def endB (ps : List Str) (kind : Str) (d : PyData) : Bool := if kind == "ends" then textOf ps d else isNone d
theorem r_end {i cT gE gP : Nat} {ps : List Str} (hP : P.fns[i]? = some (fEnd cT gE gP)) (hT : P.fns[cT]? = some fTextOf) (hE : P.glob[gE]? = some (.str "ends")) (hg : P.glob[gP]? = some (.tuple (ps.map PyData.str))) (k : Nat) (kind : Str) (d : PyData) (st : Store) : phi P (k + 2) i [.d (.str kind), .d d] st = .ok (.d (.bool (endB ps kind d))) st := by
  rw [phi_at hP _ _ rfl]
  have e : exs (P.env (k + 1)) (fEnd cT gE gP).body (startR (fEnd cT gE gP).ns [.d (.str kind), .d d]) st = .ok (.ret (.d (.bool (endB ps kind d)))) st := by
    have e0 : startR (fEnd cT gE gP).ns [.d (.str kind), .d d] = [some (.d (.str kind)), some (.d d)] := rfl
    rw [e0]
    have h := r_textOf hT k d ps (.d (.tuple (ps.map PyData.str))) (.inl rfl) st
    cases q : (kind == ("ends" : Str)) with
    | true => simp [fEnd, bEnd, hE, hg, q, h, endB]
    | false => simp [fEnd, bEnd, hE, hg, q, isO_none, endB]
  rw [e, fin_ret]
def blockB (ps : List Str) (pairs : List Str) (d : PyData) : Bool := isNone d || (textOf ps d && !textOf pairs d)
theorem r_block {i cT gP : Nat} {ps : List Str} (hP : P.fns[i]? = some (fBlock cT gP)) (hT : P.fns[cT]? = some fTextOf) (hg : P.glob[gP]? = some (.tuple (ps.map PyData.str))) (k : Nat) (pairs : List Str) (d : PyData) (st : Store) : phi P (k + 2) i [.d (.tuple (pairs.map PyData.str)), .d d] st = .ok (.d (.bool (blockB ps pairs d))) st := by
  rw [phi_at hP _ _ rfl]
  have e : exs (P.env (k + 1)) (fBlock cT gP).body (startR (fBlock cT gP).ns [.d (.tuple (pairs.map PyData.str)), .d d]) st = .ok (.ret (.d (.bool (blockB ps pairs d)))) st := by
    have e0 : startR (fBlock cT gP).ns [.d (.tuple (pairs.map PyData.str)), .d d] = [some (.d (.tuple (pairs.map PyData.str))), some (.d d)] := rfl
    rw [e0]
    have h := r_textOf hT k d ps (.d (.tuple (ps.map PyData.str))) (.inl rfl) st
    cases q : isNone d with
    | true => simp [fBlock, bBlock, isO_none, q, blockB]
    | false =>
      cases q2 : textOf ps d with
      | false => simp [fBlock, bBlock, isO_none, q, blockB, hg, h, q2]
      | true =>
        obtain ⟨x, rfl, _⟩ := textOf_str q2
        have e2 : textOf pairs (.str x) = pairs.any fun z => z == x := rfl
        simp [fBlock, bBlock, isO_none, q, blockB, hg, h, q2, in_tup_strs, e2]
  rw [e, fin_ret]
/-! ### two fors over data -/
theorem foldRR_data {f : Val → Store → R (List Val)} {g : PyData → List PyData} {st : Store} : ∀ {xs : List PyData}, (∀ x ∈ xs, f (.d x) st = .ok ((g x).map Val.d) st) → foldRR f none (xs.map Val.d) st = .ok ((xs.flatMap g).map Val.d) st
  | [], _ => rfl
  | x :: r, h => by
    have e : foldRR f none ((x :: r).map Val.d) st = (f (.d x) st).bind fun o st1 => (foldRR f none (r.map Val.d) st1).bind fun ys st2 => .ok (o ++ ys) st2 := rfl
    rw [e, h x List.mem_cons_self, bind_okR, foldRR_data fun y hy => h y (List.mem_cons_of_mem _ hy), bind_okR]
    simp
theorem foldR_data {f : Val → Store → R (Option Val)} {g : PyData → Option PyData} {st : Store} : ∀ {xs : List PyData}, (∀ x ∈ xs, f (.d x) st = .ok ((g x).map Val.d) st) → foldR f none (xs.map Val.d) st = .ok ((xs.filterMap g).map Val.d) st
  | [], _ => rfl
  | x :: r, h => by
    have e : foldR f none ((x :: r).map Val.d) st = (f (.d x) st).bind fun o st1 => (foldR f none (r.map Val.d) st1).bind fun ys st2 => .ok (o.toList ++ ys) st2 := rfl
    rw [e, h x List.mem_cons_self, bind_okR, foldR_data fun y hy => h y (List.mem_cons_of_mem _ hy), bind_okR]
    cases q : g x with
    | none => simp [q]
    | some y => simp [q]
theorem ev_comp2_data {N : Env'} {elt : E} {tg tg1 : Tg} {it it1 : It} {ifs ifs1 : Es} {own own1 : List Nat} {ρ : Rho} {st : Store} {xs ys : List PyData} (hi : evIt N it ρ st = .ok (xs.map Val.d, none) st) {g : PyData → List PyData}
    (hf : ∀ x ∈ xs, ((asg N tg (.d x) (wipeR ρ own) st).bind fun ρ1 st3 => (evTests N ifs ρ1 st3).bind fun b st4 =>
        if b then (evIt N it1 ρ1 st4).bind fun p1 st5 => foldR (fun x1 st6 => (asg N tg1 x1 (wipeR ρ1 own1) st6).bind fun ρ2 st7 => (evTests N ifs1 ρ2 st7).bind fun b1 st8 =>
          if b1 then (ev N elt ρ2 st8).bind fun y st9 => .ok (some y) st9 else .ok none st8) p1.2 p1.1 st5 else .ok [] st4) = .ok ((g x).map Val.d) st)
    (hy : xs.flatMap g = ys) (hl : ys.length ≤ sizeLine) : ev N (.comp2 false elt tg it ifs tg1 it1 ifs1 own own1) ρ st = .ok (.d (.list ys)) st := by
  rw [ev, hi, bind_okR]
  dsimp only
  rw [foldRR_data (g := g) hf, noExc_ok, bind_okR, hy, mkList_data hl]
def inS (o x : Str) : Bool := !(Builtin.Str.occurrences x o 0 x.length 1).isEmpty
theorem in_str (o x : Str) (st : Store) : isInO (.d (.str o)) (.d (.str x)) st = some (inS o x) := rfl
def apartB (xs ys : List Str) : Bool := decide ((distinct [] ys).length = ys.length) && !(ys.any fun o => xs.any fun x => inS o x)
theorem bi_any (bs : List Bool) (st : Store) : biO .any [.d (.list (bs.map PyData.bool))] st = some (.d (.bool (bs.any id)), st) := by
  show (lsDat st (.d (.list (bs.map PyData.bool)))).bind _ = _
  rw [lsDat_list]
  show (boolsOf (bs.map PyData.bool)).bind _ = _
  rw [boolsOf_map]; rfl
theorem r_apart {i : Nat} (hP : P.fns[i]? = some fApart) (k : Nat) (xs ys : List Str) (st : Store) (hx : xs.length ≤ 1000000) (hy : ys.length ≤ 10) : phi P (k + 1) i [.d (.tuple (xs.map PyData.str)), .d (.list (ys.map PyData.str))] st = .ok (.d (.bool (apartB xs ys))) st := by
  rw [phi_at hP _ _ rfl]
  have e : exs (P.env k) fApart.body (startR fApart.ns [.d (.tuple (xs.map PyData.str)), .d (.list (ys.map PyData.str))]) st = .ok (.ret (.d (.bool (apartB xs ys)))) st := by
    have e0 : startR fApart.ns [.d (.tuple (xs.map PyData.str)), .d (.list (ys.map PyData.str))] = [some (.d (.tuple (xs.map PyData.str))), some (.d (.list (ys.map PyData.str))), none, none] := rfl
    rw [e0]
    have hc := ev_comp2_data (N := P.env k) (elt := .cmp .isin (.var 2) (.var 3)) (tg := .name 2) (it := .e (.var 1)) (ifs := .nil) (tg1 := .name 3) (it1 := .e (.var 0)) (ifs1 := .nil) (own := [2, 3]) (own1 := [3]) (ρ := [some (.d (.tuple (xs.map PyData.str))), some (.d (.list (ys.map PyData.str))), none, none]) (st := st) (xs := ys.map PyData.str)
      (ys := (ys.flatMap fun o => xs.map fun x => inS o x).map PyData.bool) (g := fun d => match d with | .str o => (xs.map fun x => inS o x).map PyData.bool | _ => []) (by simp [seq_list]) (fun d hd => by
        obtain ⟨o, ho, rfl⟩ := List.mem_map.mp hd
        have hfm : ∀ zs : List Str, (zs.map PyData.str).filterMap (fun d => match d with | .str x => some (PyData.bool (inS o x)) | _ => none) = (zs.map fun x => inS o x).map PyData.bool := fun zs => by
          induction zs with
          | nil => rfl
          | cons z r ih => simp only [List.map_cons, List.filterMap_cons, ih]
        have hfd := foldR_data (f := fun x1 st6 => (asg (P.env k) (.name 3) x1 [some (.d (.tuple (xs.map PyData.str))), some (.d (.list (ys.map PyData.str))), some (.d (.str o)), none] st6).bind fun ρ2 st7 => (evTests (P.env k) .nil ρ2 st7).bind fun b1 st8 => if b1 then (ev (P.env k) (.cmp .isin (.var 2) (.var 3)) ρ2 st8).bind fun y st9 => .ok (some y) st9 else .ok none st8)
          (g := fun d => match d with | .str x => some (PyData.bool (inS o x)) | _ => none) (st := st) (xs := xs.map PyData.str) (fun d hd => by
            obtain ⟨x, hx, rfl⟩ := List.mem_map.mp hd
            simp [in_str])
        rw [hfm] at hfd
        show ((asg (P.env k) (.name 2) (.d (.str o)) [some (.d (.tuple (xs.map PyData.str))), some (.d (.list (ys.map PyData.str))), none, none] st).bind _) = _
        rw [asg_name, if_pos (by simp), bind_okS, evTests_nil, bind_okS, if_pos rfl, evIt_e, ev_var]
        show (((R.ok (Val.d (.tuple (xs.map PyData.str))) st).bind fun v st1 => ofOpt (seqItems v st1) st1).bind _) = _
        rw [bind_okS, seq_tuple, ofOpt_someS, bind_okS]
        exact hfd) (by
          rw [List.flatMap_map, List.map_flatMap]) (by
          rw [List.length_map, List.length_flatMap]
          have : ∀ zs : List Str, (zs.map fun o => (xs.map fun x => inS o x).length).sum = zs.length * xs.length := fun zs => by
            induction zs with
            | nil => simp
            | cons z r ih => rw [List.map_cons, List.sum_cons, ih, List.length_map, List.length_cons, Nat.add_mul, Nat.one_mul, Nat.add_comm]
          rw [this]
          rw [sizeLine_eq]
          have : ys.length * xs.length ≤ 10 * 1000000 := Nat.mul_le_mul hy hx
          omega)
    have hany : ((ys.flatMap fun o => xs.map fun x => inS o x)).any id = ys.any fun o => xs.any fun x => inS o x := by
      rw [List.any_flatMap]
      congr 1
      funext o
      rw [List.any_map]; rfl
    have hs : strsOf (ys.map PyData.str) = some ys := strsOf_map ys
    have hl : ys.length < 4000 := by omega
    have hb : (((distinct [] ys).length : Int) == (ys.length : Int)) = decide ((distinct [] ys).length = ys.length) := by
      by_cases h : (distinct [] ys).length = ys.length
      · rw [h]; simp
      · rw [beq_eq_false_iff_ne.mpr (by omega), decide_eq_false h]
    cases q : decide ((distinct [] ys).length = ys.length) with
    | false => simp [fApart, bApart, hs, hl, hb, q, apartB]
    | true => simp [fApart, bApart, hs, hl, hb, q, apartB, hc, bi_any, hany]
  rw [e, fin_ret]
end
end G
set_option Elab.async false
set_option linter.all false
set_option maxRecDepth 100000
/-! GTi: a tongue -/
namespace G
open PySem PySem.Spec PyProof.Rows
def pairsL : List Str := ["()", "[]", "{}"]
def partsL : List Str := [",", ";", ":", "|"]
def remarksL : List Str := ["#", "!", "@"]
def quotesL : List Str := ["\"", "'"]
def kindsL : List Str := ["ends", "lines"]
def orNone (ys : List Str) (d : PyData) : Bool := isNone d || textOf ys d
def kindS : PyData → Str
  | .str x => x
  | _ => ""
def strsTup : PyData → List Str
  | .tuple xs => strsG xs
  | _ => []
def somesOf (xs : List PyData) : List PyData := xs.filter fun d => !isNone d
def nineB (name kind signs pairs part end_ block remark quote : PyData) : Bool :=
  nameB name && textOf kindsL kind && signsB signs && pairsB pairsL pairs && textOf partsL part && endB partsL (kindS kind) end_ && blockB pairsL (strsTup pairs) block && orNone remarksL remark && orNone quotesL quote && apartB (strsTup signs) (strsG (somesOf [part, end_, remark]))
def tongueB : PyData → Bool
  | .tuple [a, b, c, d, e, f, g, h, i] => nineB a b c d e f g h i
  | _ => false
structure IsTongue (P : Prg) (i cN cT cS cP cE cB cA gZ gE gL gP gR gQ cSign gSg gM cTx cRi gPs gLt g8 : Nat) : Prop where
  fn : P.fns[i]? = some (fTongue cN cT cS cP cE cB cA gZ gE gL gP gR gQ)
  name : P.fns[cN]? = some (fName gLt g8)
  text : P.fns[cT]? = some fTextOf
  signs : P.fns[cS]? = some (fSigns cTx)
  texts : P.fns[cTx]? = some (fSignTexts cSign cRi)
  sign : P.fns[cSign]? = some (fSignText gSg gM)
  rise : P.fns[cRi]? = some fRising
  pairs : P.fns[cP]? = some (fPairs cT cRi gPs)
  end_ : P.fns[cE]? = some (fEnd cT gE gP)
  block : P.fns[cB]? = some (fBlock cT gPs)
  apart : P.fns[cA]? = some fApart
  z : P.glob[gZ]? = some (.int 9)
  e : P.glob[gE]? = some (.str "ends")
  l : P.glob[gL]? = some (.str "lines")
  p : P.glob[gP]? = some (.tuple (partsL.map PyData.str))
  r : P.glob[gR]? = some (.tuple (remarksL.map PyData.str))
  q : P.glob[gQ]? = some (.tuple (quotesL.map PyData.str))
  sg : P.glob[gSg]? = some (.str G.signs)
  m : P.glob[gM]? = some (.int 3)
  ps : P.glob[gPs]? = some (.tuple (pairsL.map PyData.str))
  lt : P.glob[gLt]? = some (.str lettersS)
  m8 : P.glob[g8]? = some (.int 8)
section
variable {P : Prg} {i cN cT cS cP cE cB cA gZ gE gL gP gR gQ cSign gSg gM cTx cRi gPs gLt g8 : Nat}
theorem nine_len {xs : List PyData} (h : xs.length ≠ 9) : tongueB (.tuple xs) = false := by
  unfold tongueB
  split
  · rename_i e; cases e; exact absurd rfl h
  · rfl
theorem orNone_str {ys : List Str} {d : PyData} (h : orNone ys d = true) (n : isNone d = false) : ∃ x, d = .str x ∧ x ∈ ys := by
  unfold orNone at h
  rw [n, Bool.false_or] at h
  exact textOf_str h
theorem endB_some {k : Str} {d : PyData} (h : endB partsL k d = true) : orNone partsL d = true := by
  unfold endB at h
  unfold orNone
  split at h
  · rw [h]; simp
  · rw [h]; simp
theorem somes_strs {a b c : PyData} {p q r : List Str} (h1 : orNone p a = true) (h2 : orNone q b = true) (h3 : orNone r c = true) : somesOf [a, b, c] = (strsG (somesOf [a, b, c])).map PyData.str := by
  refine strsG_map (p := fun d => (match d with | .str _ => true | _ => false)) (fun d h => by cases d <;> first | (cases h; done) | exact ⟨_, rfl⟩) ?_
  rw [List.all_eq_true]
  intro d hd
  obtain ⟨hm, hn⟩ := List.mem_filter.mp hd
  have hn : isNone d = false := by simpa using hn
  have : ∃ x, d = .str x := by
    simp only [List.mem_cons, List.not_mem_nil, or_false] at hm
    rcases hm with e | e | e
    · subst e; obtain ⟨x, e, _⟩ := orNone_str h1 hn; exact ⟨x, e⟩
    · subst e; obtain ⟨x, e, _⟩ := orNone_str h2 hn; exact ⟨x, e⟩
    · subst e; obtain ⟨x, e, _⟩ := orNone_str h3 hn; exact ⟨x, e⟩
  obtain ⟨x, rfl⟩ := this
  rfl
theorem textOf_or {ys : List Str} {d : PyData} (h : textOf ys d = true) : orNone ys d = true := by unfold orNone; rw [h]; simp
theorem signsB_strs {d : PyData} (h : signsB d = true) : d = .tuple ((strsTup d).map PyData.str) ∧ ∃ xs, d = .tuple xs ∧ xs.all signText = true := by
  cases d <;> first | (cases h; done) | skip
  rename_i xs
  have h : (risingOf signText (.tuple xs) && _) = true := h
  rw [Bool.and_eq_true] at h
  have h1 : (xs.all signText && rising (strsG xs)) = true := h.1
  rw [Bool.and_eq_true] at h1
  exact ⟨congrArg PyData.tuple (strsG_map signText_str h1.1), xs, rfl, h1.1⟩
theorem pairsB_strs {d : PyData} (h : pairsB pairsL d = true) : d = .tuple ((strsTup d).map PyData.str) ∧ ∃ xs, d = .tuple xs ∧ xs ≠ [] ∧ xs.all (textOf pairsL) = true := by
  cases d <;> first | (cases h; done) | skip
  rename_i xs
  have h : (!xs.isEmpty && xs.all (textOf pairsL) && rising (strsG xs)) = true := h
  simp only [Bool.and_eq_true, Bool.not_eq_true'] at h
  exact ⟨congrArg PyData.tuple (strsG_map (fun d h => let ⟨x, e, _⟩ := textOf_str h; ⟨x, e⟩) h.1.2), xs, rfl, fun z => by rw [z] at h; simp at h, h.1.2⟩
theorem somes_fm : ∀ xs : List PyData, xs.filterMap (fun d => if isNone d then none else some d) = somesOf xs
  | [] => rfl
  | x :: r => by
    have ih := somes_fm r
    unfold somesOf at ih ⊢
    rw [List.filterMap_cons, List.filter_cons]
    cases q : isNone x <;> simp [q, ih]
theorem somes_comp (N : Env') (ρ : Rho) (st : Store) (j : Nat) (it : It) (xs : List PyData) (hi : evIt N it ρ st = .ok (xs.map Val.d, none) st) (hj : j < ρ.length) (hl : xs.length ≤ sizeLine) :
    ev N (.comp false (.var j) (.name j) it (.cons (.cmp .isnot (.var j) (.cst .none)) .nil) [j]) ρ st = .ok (.d (.list (somesOf xs))) st := by
  refine ev_comp_data hi (g := fun d => if isNone d then none else some d) (fun x hx => ?_) (somes_fm xs) (Nat.le_trans (List.length_filter_le _ _) hl)
  have e : ((ρ.set j none).set j (some (.d x)))[j]? = some (some (Val.d x)) := by simp [hj]
  simp only [wipeR_cons, wipeR_nil, asg_name, List.length_set]
  rw [if_pos hj, bind_okS]
  generalize (ρ.set j none).set j (some (.d x)) = ρ' at e
  cases q : isNone x <;> simp [e, isO_none, q]
theorem ex_ite_b {N : Env'} {c : E} {a b : Ss} {ρ : Rho} {st : Store} (t : Bool) (h : ((ev N c ρ st).bind fun v st1 => truthR v st1) = .ok t st) : ex N (.ite c a b) ρ st = if t = true then exs N a ρ st else exs N b ρ st := by
  rw [ex_ite, h, cat_okS]
theorem r_tongue (T : IsTongue P i cN cT cS cP cE cB cA gZ gE gL gP gR gQ cSign gSg gM cTx cRi gPs gLt g8) (k : Nat) (d : PyData) (st : Store) (hd : fitB d = true) : phi P (k + 4) i [.d d] st = .ok (.d (.bool (tongueB d))) st := by
  rw [phi_at T.fn _ _ rfl]
  have e : exs (P.env (k + 3)) (fTongue cN cT cS cP cE cB cA gZ gE gL gP gR gQ).body (startR (fTongue cN cT cS cP cE cB cA gZ gE gL gP gR gQ).ns [.d d]) st = .ok (.ret (.d (.bool (tongueB d)))) st := by
    have e0 : startR (fTongue cN cT cS cP cE cB cA gZ gE gL gP gR gQ).ns [.d d] = [some (.d d), none, none, none, none, none, none, none, none, none, none] := rfl
    rw [e0]
    cases d <;> try (simp [fTongue, bTongue, tyOf, isT, tongueB]; done)
    rename_i xs
    have hz := T.z
    by_cases hl : xs.length = 9
    · match xs, hl, hd with
      | [a, b, c, d, e, f, g, h, j], _, hd =>
      have fx := (fit_tuple hd).2
      have fa := fx a (by simp)
      have fc := fx c (by simp)
      have fd := fx d (by simp)
      have q1 := r_name T.name T.lt T.m8 (k + 2) a st (fit_len fa)
      have q2 := r_textOf T.text (k + 2) b kindsL (.d (.tuple (kindsL.map PyData.str))) (.inl rfl) st
      have q3 := r_signs T.signs T.texts T.sign T.rise T.sg T.m k c st (fit_lens fc)
      have q4 := r_pairs T.pairs T.text T.rise T.ps (k + 1) d st (fit_lens fd)
      have q5 := r_textOf T.text (k + 2) e partsL (.d (.tuple (partsL.map PyData.str))) (.inl rfl) st
      have q8 := r_textOf T.text (k + 2) h remarksL (.d (.tuple (remarksL.map PyData.str))) (.inl rfl) st
      have q9 := r_textOf T.text (k + 2) j quotesL (.d (.tuple (quotesL.map PyData.str))) (.inl rfl) st
      have s9 : ((9 : Int) != 9) = false := by decide
      have hz2 : 2 ≤ sizeLine := s3.2.1
      have kd : (Val.d (.tuple [.str "ends", .str "lines"])) = Val.d (.tuple (kindsL.map PyData.str)) := rfl
      have hg := T.e
      have hg2 := T.l
      have hg3 := T.p
      have hg4 := T.r
      have hg5 := T.q
      have tt : tongueB (.tuple [a, b, c, d, e, f, g, h, j]) = nineB a b c d e f g h j := rfl
      rw [tt]
      simp only [fTongue, bTongue]
      rw [exs_cons, ex_ite_b false (by simp [tyOf, isT, hz]), if_neg (by decide), exs_nil, noX_okS, bind_okS]
      dsimp only
      rw [exs_cons]
      have sa : ex (P.env (k + 3)) (.asg (.tup (.cons (.name 1) (.cons (.name 2) (.cons (.name 3) (.cons (.name 4) (.cons (.name 5) (.cons (.name 6) (.cons (.name 7) (.cons (.name 8) (.cons (.name 9) .nil)))))))))) (.var 0)) [some (.d (.tuple [a, b, c, d, e, f, g, h, j])), none, none, none, none, none, none, none, none, none, none] st =
        .ok (.next [some (.d (.tuple [a, b, c, d, e, f, g, h, j])), some (.d a), some (.d b), some (.d c), some (.d d), some (.d e), some (.d f), some (.d g), some (.d h), some (.d j), none]) st := by simp
      rw [sa, noX_okS, bind_okS]
      dsimp only
      generalize hρ : [some (Val.d (.tuple [a, b, c, d, e, f, g, h, j])), some (.d a), some (.d b), some (.d c), some (.d d), some (.d e), some (.d f), some (.d g), some (.d h), some (.d j), none] = ρ
      have v1 : ρ[1]? = some (some (.d a)) := by rw [← hρ]; rfl
      have v2 : ρ[2]? = some (some (.d b)) := by rw [← hρ]; rfl
      have v3 : ρ[3]? = some (some (.d c)) := by rw [← hρ]; rfl
      have v4 : ρ[4]? = some (some (.d d)) := by rw [← hρ]; rfl
      have v5 : ρ[5]? = some (some (.d e)) := by rw [← hρ]; rfl
      have v6 : ρ[6]? = some (some (.d f)) := by rw [← hρ]; rfl
      have v7 : ρ[7]? = some (some (.d g)) := by rw [← hρ]; rfl
      have v8 : ρ[8]? = some (some (.d h)) := by rw [← hρ]; rfl
      have v9 : ρ[9]? = some (some (.d j)) := by rw [← hρ]; rfl
      have hl11 : 10 < ρ.length := by rw [← hρ]; simp
      clear hρ sa
      rw [exs_cons, ex_ite_b (!(nameB a && textOf kindsL b && signsB c && pairsB pairsL d)) (by
        cases p1 : nameB a with
        | false => simp [v1, q1, p1]
        | true =>
          cases p2 : textOf kindsL b with
          | false => simp [v1, v2, q1, p1, q2, p2, hg, hg2, datas, hz2, kd]
          | true =>
            cases p3 : signsB c with
            | false => simp [v1, v2, v3, q1, p1, q2, p2, hg, hg2, datas, hz2, kd, q3, p3]
            | true => cases p4 : pairsB pairsL d <;> simp [v1, v2, v3, v4, q1, p1, q2, p2, hg, hg2, datas, hz2, kd, q3, p3, q4, p4])]
      cases pA : (nameB a && textOf kindsL b && signsB c && pairsB pairsL d) with
      | false => simp [nineB, pA]
      | true =>
      rw [if_neg (by simp), exs_nil, noX_okS, bind_okS]
      dsimp only
      simp only [Bool.and_eq_true] at pA
      obtain ⟨⟨⟨p1, p2⟩, p3⟩, p4⟩ := pA
      obtain ⟨kd', rfl, kk⟩ := textOf_str p2
      obtain ⟨ed, xd, rfl, nd, ad⟩ := pairsB_strs p4
      obtain ⟨ec, xc, rfl, ac⟩ := signsB_strs p3
      have q6 := r_end T.end_ T.text T.e T.p (k + 1) kd' f st
      have q7 := r_block T.block T.text T.ps (k + 1) (strsTup (.tuple xd)) g st
      rw [← ed] at q7
      rw [exs_cons, ex_ite_b (!(textOf partsL e && endB partsL kd' f && blockB pairsL (strsTup (.tuple xd)) g)) (by
        cases p5 : textOf partsL e with
        | false => simp [v5, hg3, q5, p5]
        | true =>
          cases p6 : endB partsL kd' f with
          | false => simp [v5, v2, v6, hg3, q5, p5, q6, p6]
          | true => cases p7 : blockB pairsL (strsTup (.tuple xd)) g <;> simp [v5, v2, v6, v4, v7, hg3, q5, p5, q6, p6, q7, p7])]
      cases pB : (textOf partsL e && endB partsL kd' f && blockB pairsL (strsTup (.tuple xd)) g) with
      | false =>
        have : nineB a (.str kd') (.tuple xc) (.tuple xd) e f g h j = false := by
          unfold nineB
          simp only [Bool.and_eq_false_iff] at pB ⊢
          rcases pB with (pB | pB) | pB <;> simp [kindS, pB]
        simp [this]
      | true =>
      rw [if_neg (by simp), exs_nil, noX_okS, bind_okS]
      dsimp only
      simp only [Bool.and_eq_true] at pB
      obtain ⟨⟨p5, p6⟩, p7⟩ := pB
      rw [exs_cons, ex_ite_b (!(orNone remarksL h)) (by
        cases p8 : isNone h with
        | true => simp [v8, isO_none, p8, orNone]
        | false => cases p8' : textOf remarksL h <;> simp [v8, isO_none, p8, orNone, q8, p8', hg4])]
      cases p8 : orNone remarksL h with
      | false =>
        have : nineB a (.str kd') (.tuple xc) (.tuple xd) e f g h j = false := by unfold nineB; simp [p8]
        simp [this]
      | true =>
      rw [if_neg (by simp), exs_nil, noX_okS, bind_okS]
      dsimp only
      rw [exs_cons, ex_ite_b (!(orNone quotesL j)) (by
        cases p9 : isNone j with
        | true => simp [v9, isO_none, p9, orNone]
        | false => cases p9' : textOf quotesL j <;> simp [v9, isO_none, p9, orNone, q9, p9', hg5])]
      cases p9 : orNone quotesL j with
      | false =>
        have : nineB a (.str kd') (.tuple xc) (.tuple xd) e f g h j = false := by unfold nineB; simp [p9]
        simp [this]
      | true =>
      rw [if_neg (by simp), exs_nil, noX_okS, bind_okS]
      dsimp only
      have sm := somes_strs (textOf_or p5) (endB_some p6) p8
      have hi : evIt (P.env (k + 3)) (.e (.tup (.cons (.var 5) (.cons (.var 6) (.cons (.var 8) .nil))))) ρ st = .ok ([e, f, h].map Val.d, none) st := by
        simp [v5, v6, v8, datas, s3.1, seq_tuple]
      have hc := somes_comp (P.env (k + 3)) ρ st 10 _ [e, f, h] hi hl11 s3.1
      have xl : xc.length ≤ 1000000 := (fit_tuple fc).1
      have sl : (strsG (somesOf [e, f, h])).length ≤ 10 := by
        have h1 := strsG_len (somesOf [e, f, h])
        have h2 : (somesOf [e, f, h]).length ≤ 3 := List.length_filter_le _ _
        omega
      have qa := r_apart T.apart (k + 2) (strsTup (.tuple xc)) (strsG (somesOf [e, f, h])) st (Nat.le_trans (strsG_len xc) xl) sl
      rw [← ec, ← sm] at qa
      have fin : nineB a (.str kd') (.tuple xc) (.tuple xd) e f g h j = apartB (strsTup (.tuple xc)) (strsG (somesOf [e, f, h])) := by
        unfold nineB
        rw [p1, p2, p3, p4, p5, show kindS (.str kd') = kd' from rfl, p6, p7, p8, p9]; rfl
      rw [fin]
      simp [v3, hc, qa]
    · have h9 : ((xs.length : Int) == 9) = false := by rw [beq_eq_false_iff_ne]; omega
      simp only [fTongue, bTongue]
      rw [nine_len hl, exs_cons, ex_ite_b true (by simp [tyOf, isT, hz, h9]), if_pos rfl]
      simp
  rw [e, fin_ret]
end
end G
set_option Elab.async false
set_option linter.all false
set_option maxRecDepth 100000
/-! GTj: the law's own look at signs -/
namespace G
open PySem PySem.Spec PyProof.Rows
def bLawSigns (cR : Nat) : Ss := (.cons (.ite (.or (.cons (.not (.isi (.var 0) [.tuple])) (.cons (.not (.bi .all (.cons (.comp false (.and (.cons (.isi (.var 1) [.str]) (.cons (.chain .lt .lt (.cst (.int 0)) (.bi .len (.cons (.var 1) .nil)) (.cst (.int 4))) .nil))) (.name 1) (.e (.var 0)) .nil [1]) .nil))) .nil))) (.cons (.ret (.cst (.bool false))) .nil) .nil) (.cons (.ret (.and (.cons (.bi .all (.cons (.comp false (.cmp .isin (.var 2) (.cst (.str "!$&*+-./:<=>?@^|~"))) (.name 2) (.e (.me .join (.cst (.str "")) (.cons (.var 0) .nil))) .nil [2]) .nil)) (.cons (.call cR (.cons (.var 0) .nil)) .nil)))) .nil))
def fLawSigns (cR : Nat) : Fn := ⟨1, 3, false, bLawSigns cR⟩
theorem fold_cps : ∀ (l : List Str) (a : Array Nat), (l.foldl (fun acc p => acc ++ (Str.ofString "").cps ++ p.cps) a).toList = a.toList ++ (l.map fun y => y.cps.toList).flatten
  | [], a => by simp
  | y :: r, a => by
    rw [List.foldl_cons, fold_cps r]
    have : (Str.ofString "").cps = #[] := rfl
    simp [this]
theorem join_cps (ys : List Str) : (Txt.join "" ys).cps.toList = (ys.map fun y => y.cps.toList).flatten := by
  cases ys with
  | nil => rfl
  | cons y r => exact fold_cps r y.cps
def s1 : PyData → Bool
  | .str x => decide (0 < x.length) && decide (x.length < 4)
  | _ => false
theorem s1_str (d : PyData) (h : s1 d = true) : ∃ x, d = .str x := by
  cases d <;> first | (cases h; done) | exact ⟨_, rfl⟩
theorem sign_split : ∀ {xs : List PyData}, xs.all s1 = true → (allIn signs (Txt.join "" (strsG xs)) && rising (strsG xs)) = (xs.all signText && rising (strsG xs)) := by
  intro xs h
  congr 1
  unfold allIn
  rw [join_cps]
  induction xs with
  | nil => rfl
  | cons d r ih =>
    rw [List.all_cons, Bool.and_eq_true] at h
    obtain ⟨x, rfl⟩ := s1_str d h.1
    have hx := h.1
    simp only [s1, Bool.and_eq_true, decide_eq_true_eq] at hx
    show (((x :: strsG r).map fun y => y.cps.toList).flatten.all _) = _
    rw [List.map_cons, List.flatten_cons, List.all_append, ih h.2, List.all_cons]
    congr 1
    show _ = (decide (1 ≤ x.length) && decide (x.length ≤ 3) && allIn signs x)
    rw [decide_eq_true (show 1 ≤ x.length by omega), decide_eq_true (show x.length ≤ 3 by omega)]
    rfl
theorem sign_s1 {xs : List PyData} (h : xs.all s1 = false) : xs.all signText = false := by
  rw [Bool.eq_false_iff] at h ⊢
  intro q
  apply h
  rw [List.all_eq_true] at q ⊢
  intro d hd
  have := q d hd
  unfold signText at this
  split at this
  · simp only [Bool.and_eq_true, decide_eq_true_eq] at this
    simp only [s1, Bool.and_eq_true, decide_eq_true_eq]
    omega
  · cases this
theorem sum_s1 : ∀ {xs : List PyData}, xs.all s1 = true → ((strsG xs).map (·.length)).sum ≤ 3 * xs.length
  | [], _ => Nat.le_refl _
  | d :: r, h => by
    rw [List.all_cons, Bool.and_eq_true] at h
    obtain ⟨x, rfl⟩ := s1_str d h.1
    have hx := h.1
    simp only [s1, Bool.and_eq_true, decide_eq_true_eq] at hx
    have := sum_s1 h.2
    simp only [strsG, List.map_cons, List.sum_cons, List.length_cons]
    omega
theorem join_len (ys : List Str) : (Txt.join "" ys).length = (ys.map (·.length)).sum := by
  have h := congrArg List.length (join_cps ys)
  rw [Array.length_toList, List.length_flatten, List.map_map] at h
  exact h
theorem r_lawSigns {P : Prg} {i cR : Nat} (hP : P.fns[i]? = some (fLawSigns cR)) (hR : P.fns[cR]? = some fRising) (k : Nat) (d : PyData) (st : Store) (hd : fitB d = true) : phi P (k + 2) i [.d d] st = .ok (.d (.bool (risingOf signText d))) st := by
  rw [phi_at hP _ _ rfl]
  have e : exs (P.env (k + 1)) (fLawSigns cR).body (startR (fLawSigns cR).ns [.d d]) st = .ok (.ret (.d (.bool (risingOf signText d)))) st := by
    have e0 : startR (fLawSigns cR).ns [.d d] = [some (.d d), none, none] := rfl
    rw [e0]
    cases d <;> try (simp [fLawSigns, bLawSigns, tyOf, isT, risingOf]; done)
    rename_i xs
    obtain ⟨hl, hx⟩ := fit_tuple hd
    have hl' := Nat.le_trans hl mill
    have ha := ev_comp_bools (N := P.env (k + 1)) (elt := .and (.cons (.isi (.var 1) [.str]) (.cons (.chain .lt .lt (.cst (.int 0)) (.bi .len (.cons (.var 1) .nil)) (.cst (.int 4))) .nil))) (tg := .name 1) (it := .e (.var 0)) (own := [1]) (ρ := [some (.d (.tuple xs)), none, none]) (st := st) (xs := xs) (p := s1) (by simp [seq_tuple]) (fun x hm => by
      cases x <;> try (simp [tyOf, isT, s1]; done)
      rename_i z
      have hz : z.length ≤ sizeLine := fit_len (hx _ hm)
      by_cases h1 : (0 : Int) < z.length
      · have h1' : 0 < z.length := by omega
        by_cases h2 : (z.length : Int) < 4
        · have h2' : z.length < 4 := by omega
          simp [tyOf, isT, s1, guard', hz, h1, h1', h2, h2']
        · have h2' : ¬ z.length < 4 := by omega
          simp [tyOf, isT, s1, guard', hz, h1, h1', h2, h2']
      · have h1' : ¬ 0 < z.length := by omega
        simp [tyOf, isT, s1, guard', hz, h1, h1']) hl'
    cases h2 : xs.all s1 with
    | false => simp [fLawSigns, bLawSigns, tyOf, isT, risingOf, ha, h2, sign_s1 h2]
    | true =>
      have em := strsG_map s1_str h2
      have hsum := sum_s1 h2
      have hj : meO .join (.d (.str "")) [.d (.tuple xs)] st = some (.d (.str (Txt.join "" (strsG xs))), st) := by
        show (sqDat st (.d (.tuple xs))).bind _ = _
        rw [sqDat_tuple]
        show (strsOf xs).bind _ = _
        have hso : strsOf xs = some (strsG xs) := by
          conv => lhs; rw [em]
          exact strsOf_map _
        rw [hso]
        show guard' _ _ = _
        rw [guard_pos (by
          have : (Str.ofString "").length = 0 := rfl
          rw [this]; omega)]
        rfl
      have hjl : (Txt.join "" (strsG xs)).length ≤ sizeLine := by
        rw [join_len, sizeLine_eq]; omega
      have hr : recv .join st (.d (.str "")) = true := rfl
      have hc := all_in (P.env (k + 1)) [some (.d (.tuple xs)), none, none] st 2 (Txt.join "" (strsG xs)) signs (.cst (.str "!$&*+-./:<=>?@^|~")) (.me .join (.cst (.str "")) (.cons (.var 0) .nil)) (by simp [hr, hj]) (by simp) (fun v => by simp; rfl) hjl
      have h17 := r_rising hR k (.d (.tuple xs)) (strsG xs) st (.inl (by rw [← em])) (Nat.le_trans (strsG_len xs) hl')
      have key := sign_split h2
      cases h3 : allIn signs (Txt.join "" (strsG xs)) with
      | false =>
        rw [h3] at key
        simp [fLawSigns, bLawSigns, tyOf, isT, risingOf, ha, h2, hc, allIn_all, h3, ← key]
      | true =>
        rw [h3] at key
        simp [fLawSigns, bLawSigns, tyOf, isT, risingOf, ha, h2, hc, allIn_all, h3, h17, ← key]
  rw [e, fin_ret]
end G
set_option Elab.async false
set_option linter.all false
set_option maxRecDepth 100000
/-! GTk: the law's own look at a tongue comes to the same -/
namespace G
open PySem PySem.Spec PyProof.Rows
def bLawTongue (cO cS cR : Nat) : Ss := (.cons (.ite (.or (.cons (.not (.isi (.var 0) [.tuple])) (.cons (.cmp .ne (.bi .len (.cons (.var 0) .nil)) (.cst (.int 9))) .nil))) (.cons (.ret (.cst (.bool false))) .nil) .nil) (.cons (.parn (.cons (.tup (.cons (.name 1) (.cons (.name 2) (.cons (.name 3) (.cons (.name 4) .nil))))) (.cons (.tup (.cons (.name 5) (.cons (.name 6) (.cons (.name 7) (.cons (.name 8) (.cons (.name 9) .nil)))))) .nil)) (.cons (.slice (.var 0) .no (.e (.cst (.int 4)))) (.cons (.slice (.var 0) (.e (.cst (.int 4))) .no) .nil))) (.cons (.ite (.or (.cons (.not (.isi (.var 1) [.str])) (.cons (.not (.chain .lt .lt (.cst (.int 0)) (.bi .len (.cons (.var 1) .nil)) (.cst (.int 9)))) (.cons (.not (.bi .all (.cons (.comp false (.chain .le .le (.cst (.str "a")) (.var 10) (.cst (.str "z"))) (.name 10) (.e (.var 1)) .nil [10]) .nil))) .nil)))) (.cons (.ret (.cst (.bool false))) .nil) .nil) (.cons (.ite (.or (.cons (.not (.call cO (.cons (.var 2) (.cons (.lst false (.cons (.cst (.str "ends")) (.cons (.cst (.str "lines")) .nil))) .nil)))) (.cons (.not (.call cS (.cons (.var 3) .nil))) .nil))) (.cons (.ret (.cst (.bool false))) .nil) .nil) (.cons (.ite (.not (.bi .all (.cons (.comp false (.and (.cons (.cmp .isin (.slice (.var 11) .no (.e (.cst (.int 1)))) (.var 3)) (.cons (.cmp .isin (.slice (.var 11) .no (.e (.cst (.int 2)))) (.var 3)) .nil))) (.name 11) (.e (.var 3)) .nil [11]) .nil))) (.cons (.ret (.cst (.bool false))) .nil) .nil) (.cons (.parn (.cons (.name 12) (.cons (.name 13) .nil)) (.cons (.lst false (.cons (.cst (.str "()")) (.cons (.cst (.str "[]")) (.cons (.cst (.str "{}")) .nil)))) (.cons (.lst false (.cons (.cst (.str ",")) (.cons (.cst (.str ";")) (.cons (.cst (.str ":")) (.cons (.cst (.str "|")) .nil))))) .nil))) (.cons (.ite (.or (.cons (.not (.isi (.var 4) [.tuple])) (.cons (.cmp .eq (.var 4) (.tup .nil)) (.cons (.not (.bi .all (.cons (.comp false (.call cO (.cons (.var 14) (.cons (.var 12) .nil))) (.name 14) (.e (.var 4)) .nil [14]) .nil))) .nil)))) (.cons (.ret (.cst (.bool false))) .nil) .nil) (.cons (.ite (.or (.cons (.not (.call cR (.cons (.var 4) .nil))) (.cons (.not (.call cO (.cons (.var 5) (.cons (.var 13) .nil)))) (.cons (.and (.cons (.cmp .isnot (.var 6) (.cst .none)) (.cons (.not (.call cO (.cons (.var 6) (.cons (.var 13) .nil)))) .nil))) .nil)))) (.cons (.ret (.cst (.bool false))) .nil) .nil) (.cons (.ite (.or (.cons (.cmp .ne (.cmp .is (.var 6) (.cst .none)) (.cmp .eq (.var 2) (.cst (.str "lines")))) (.cons (.and (.cons (.cmp .isnot (.var 7) (.cst .none)) (.cons (.or (.cons (.not (.call cO (.cons (.var 7) (.cons (.var 12) .nil)))) (.cons (.cmp .isin (.var 7) (.var 4)) .nil))) .nil))) .nil))) (.cons (.ret (.cst (.bool false))) .nil) .nil) (.cons (.ite (.and (.cons (.cmp .isnot (.var 8) (.cst .none)) (.cons (.not (.call cO (.cons (.var 8) (.cons (.lst false (.cons (.cst (.str "#")) (.cons (.cst (.str "!")) (.cons (.cst (.str "@")) .nil)))) .nil)))) .nil))) (.cons (.ret (.cst (.bool false))) .nil) .nil) (.cons (.ite (.or (.cons (.and (.cons (.cmp .isnot (.var 9) (.cst .none)) (.cons (.not (.call cO (.cons (.var 9) (.cons (.lst false (.cons (.cst (.str "\"")) (.cons (.cst (.str "'")) .nil))) .nil)))) .nil))) (.cons (.cmp .eq (.var 5) (.var 6)) .nil))) (.cons (.ret (.cst (.bool false))) .nil) .nil) (.cons (.ret (.not (.bi .any (.cons (.comp false (.and (.cons (.cmp .isnot (.var 11) (.cst .none)) (.cons (.cmp .isin (.var 11) (.me .join (.cst (.str "")) (.cons (.var 3) .nil))) .nil))) (.name 11) (.e (.tup (.cons (.var 5) (.cons (.var 6) (.cons (.var 8) .nil))))) .nil [11]) .nil)))) .nil))))))))))))
def fLawTongue (cO cS cR : Nat) : Fn := ⟨1, 15, false, bLawTongue cO cS cR⟩

/-! ### letters -/
def azB (c : Nat) : Bool := !decide ([c] < [97]) && !decide ([122] < [c])
theorem letters_all : ∀ c ≤ 130, azB c = decide (c ∈ lettersS.cps.toList) := by decide +kernel
theorem letters_small : ∀ c ∈ lettersS.cps.toList, c ≤ 130 := by decide +kernel
theorem az_in (c : Nat) : azB c = decide (c ∈ lettersS.cps.toList) := by
  by_cases h : c ≤ 130
  · exact letters_all c h
  · have h1 : ¬ c ∈ lettersS.cps.toList := fun z => h (letters_small c z)
    rw [decide_eq_false h1]
    have : decide ([122] < [c]) = true := decide_eq_true (List.Lex.rel (by omega))
    unfold azB
    rw [this]; simp
def azD : PyData → Bool
  | .str x => !decide (x.cps.toList < [97]) && !decide ([122] < x.cps.toList)
  | _ => false
theorem az_all (x : Str) : (charsD x).all azD = allIn lettersS x := by
  unfold charsD allIn
  rw [List.all_map]
  congr 1
  funext c
  exact az_in c
/-! ### beginnings -/
def takeS (n : Nat) (x : Str) : Str := ⟨(x.cps.toList.take n).toArray⟩
theorem slice_to (x : Str) (n : Int) (h0 : 0 ≤ n) (st : Store) (hl : x.length ≤ sizeLine) : oSlice (.d (.str x)) none (some n) st = some (.d (.str (takeS n.toNat x)), st) := by
  show guard' (x.length ≤ sizeLine) _ = _
  rw [guard_pos hl, cut_to' _ _ h0]; rfl
theorem takeS_all {n : Nat} {x : Str} (h : x.length ≤ n) : takeS n x = x := by
  unfold takeS
  rw [List.take_of_length_le (by rw [Array.length_toList]; exact h)]
theorem butLast_take {x : Str} : butLast x = takeS (x.length - 1) x := by
  unfold butLast takeS
  rw [List.dropLast_eq_take, Array.length_toList]; rfl
theorem takeS_take {n m : Nat} {x : Str} (h : n ≤ m) : takeS n (takeS m x) = takeS n x := by
  unfold takeS
  rw [List.take_take, Nat.min_eq_left h]
theorem takeS_len {n : Nat} {x : Str} : (takeS n x).length = min n x.length := by
  show ((x.cps.toList.take n).toArray).size = _
  rw [List.size_toArray, List.length_take, Array.length_toList]; rfl
theorem butLast_len {x : Str} : (butLast x).length = x.length - 1 := by rw [butLast_take, takeS_len]; omega
def begOk (xs : List Str) (x : Str) : Bool := (xs.any fun z => z == takeS 1 x) && xs.any fun z => z == takeS 2 x
theorem any_mem {xs : List Str} {y : Str} : (xs.any fun z => z == y) = true ↔ y ∈ xs := by
  rw [List.any_eq_true]
  exact ⟨fun ⟨z, h1, h2⟩ => by rw [← eq_of_beq h2]; exact h1, fun h => ⟨y, h, beq_self_eq_true y⟩⟩
theorem heads_begs {xs : List Str} (h : ∀ x ∈ xs, 1 ≤ x.length ∧ x.length ≤ 3) : xs.all (headOk xs) = xs.all (begOk xs) := by
  rw [Bool.eq_iff_iff]
  constructor
  · intro hh
    have hh := List.all_eq_true.mp hh
    have next : ∀ x ∈ xs, x.length ≠ 1 → butLast x ∈ xs := fun x hx n => by
      have := hh x hx
      unfold headOk at this
      rw [decide_eq_false n, Bool.false_or] at this
      exact any_mem.mp this
    refine List.all_eq_true.mpr fun x hx => ?_
    obtain ⟨a, b⟩ := h x hx
    unfold begOk
    rw [Bool.and_eq_true, any_mem, any_mem]
    by_cases h1 : x.length = 1
    · rw [takeS_all (by omega), takeS_all (by omega)]; exact ⟨hx, hx⟩
    · have y := next x hx h1
      by_cases h2 : x.length = 2
      · have e : butLast x = takeS 1 x := by rw [butLast_take, h2]
        rw [takeS_all (n := 2) (by omega), ← e]; exact ⟨y, hx⟩
      · have h3 : x.length = 3 := by omega
        have e : butLast x = takeS 2 x := by rw [butLast_take, h3]
        have z := next (butLast x) y (by rw [butLast_len]; omega)
        have e2 : butLast (butLast x) = takeS 1 x := by
          rw [butLast_take (x := butLast x), butLast_len, h3, e]
          exact takeS_take (by omega)
        rw [← e, ← e2]; exact ⟨z, y⟩
  · intro hh
    have hh := List.all_eq_true.mp hh
    refine List.all_eq_true.mpr fun x hx => ?_
    obtain ⟨a, b⟩ := h x hx
    have := hh x hx
    unfold begOk at this
    rw [Bool.and_eq_true, any_mem, any_mem] at this
    unfold headOk
    rw [Bool.or_eq_true, any_mem, decide_eq_true_eq]
    by_cases h1 : x.length = 1
    · exact .inl h1
    · right
      by_cases h2 : x.length = 2
      · rw [butLast_take, h2]; exact this.1
      · have h3 : x.length = 3 := by omega
        rw [butLast_take, h3]; exact this.2
/-! ### ends -/
def endL (kind : Str) (d : PyData) : Bool := orNone partsL d && (isNone d == (kind == "lines"))
theorem end_same {kind : Str} (hk : kind ∈ kindsL) (d : PyData) : endL kind d = endB partsL kind d := by
  have k2 : kind = "ends" ∨ kind = "lines" := by simpa [kindsL] using hk
  unfold endL endB orNone
  rcases k2 with rfl | rfl
  · have e1 : (("ends" : Str) == ("lines" : Str)) = false := by decide
    have e2 : (("ends" : Str) == ("ends" : Str)) = true := by decide
    rw [e1, e2, if_pos rfl]
    cases d <;> simp [isNone, textOf]
  · have e1 : (("lines" : Str) == ("lines" : Str)) = true := by decide
    have e2 : (("lines" : Str) == ("ends" : Str)) = false := by decide
    rw [e1, e2, if_neg (by decide)]
    cases d <;> simp [isNone, textOf]
/-! ### signs apart -/
theorem inS_one (c : Nat) (x : Str) : inS ⟨#[c]⟩ x = decide (c ∈ x.cps.toList) := by
  unfold inS
  rw [PySem.StrLaws.found_one]
theorem inS_join (c : Nat) (xs : List Str) : inS ⟨#[c]⟩ (Txt.join "" xs) = xs.any fun x => inS ⟨#[c]⟩ x := by
  rw [inS_one, join_cps, Bool.eq_iff_iff]
  simp only [decide_eq_true_eq, List.mem_flatten, List.mem_map, List.any_eq_true, inS_one]
  exact ⟨fun ⟨l, ⟨x, h1, h2⟩, h3⟩ => ⟨x, h1, h2 ▸ h3⟩, fun ⟨x, h1, h2⟩ => ⟨_, ⟨x, h1, rfl⟩, h2⟩⟩
def one1 (x : Str) : Prop := ∃ c, x = ⟨#[c]⟩
theorem parts_one : ∀ x ∈ partsL, one1 x := by
  intro x hx
  simp only [partsL, List.mem_cons, List.not_mem_nil, or_false] at hx
  rcases hx with rfl | rfl | rfl | rfl
  · exact ⟨44, rfl⟩
  · exact ⟨59, rfl⟩
  · exact ⟨58, rfl⟩
  · exact ⟨124, rfl⟩
theorem remarks_one : ∀ x ∈ remarksL, one1 x := by
  intro x hx
  simp only [remarksL, List.mem_cons, List.not_mem_nil, or_false] at hx
  rcases hx with rfl | rfl | rfl
  · exact ⟨35, rfl⟩
  · exact ⟨33, rfl⟩
  · exact ⟨64, rfl⟩
theorem parts_remarks : ∀ x ∈ partsL, ∀ y ∈ remarksL, (x == y) = false ∧ (y == x) = false := by decide
def inD (j : Str) : PyData → Bool
  | .str o => inS o j
  | _ => false
def sameD : PyData → PyData → Bool
  | .str x, .str y => x == y
  | _, _ => false
theorem any_somes (j : Str) (a b c : PyData) : [a, b, c].any (inD j) = (strsG (somesOf [a, b, c])).any fun o => inS o j := by
  have key : ∀ xs : List PyData, xs.any (inD j) = (strsG (somesOf xs)).any fun o => inS o j := fun xs => by
    induction xs with
    | nil => rfl
    | cons x r ih =>
      unfold somesOf at ih ⊢
      rw [List.any_cons, List.filter_cons, ih]
      cases x <;> simp [isNone, inD, strsG]
  exact key _
theorem apart_same {xs : List Str} {a b c : PyData} (h1 : textOf partsL a = true) (h2 : orNone partsL b = true) (h3 : orNone remarksL c = true) :
    apartB xs (strsG (somesOf [a, b, c])) = (!sameD a b && ![a, b, c].any (inD (Txt.join "" xs))) := by
  have hone : ∀ o ∈ strsG (somesOf [a, b, c]), one1 o := by
    have mem : ∀ (zs : List PyData) (o : Str), o ∈ strsG zs → PyData.str o ∈ zs := fun zs o => by
      induction zs with
      | nil => intro h; cases h
      | cons z r ih =>
        intro h
        cases z <;> first | exact List.mem_cons_of_mem _ (ih h) | skip
        rcases List.mem_cons.mp (show o ∈ _ :: strsG r from h) with e | e
        · rw [e]; exact List.mem_cons_self
        · exact List.mem_cons_of_mem _ (ih e)
    intro o ho
    have := (List.mem_filter.mp (mem _ _ ho)).1
    simp only [List.mem_cons, List.not_mem_nil, or_false] at this
    rcases this with e | e | e
    · rw [← e] at h1; obtain ⟨x, e, hx⟩ := textOf_str h1; cases e; exact parts_one _ hx
    · rw [← e] at h2; obtain ⟨x, e, hx⟩ := orNone_str h2 rfl; cases e; exact parts_one _ hx
    · rw [← e] at h3; obtain ⟨x, e, hx⟩ := orNone_str h3 rfl; cases e; exact remarks_one _ hx
  unfold apartB
  rw [any_somes]
  have e2 : ((strsG (somesOf [a, b, c])).any fun o => xs.any fun x => inS o x) = ((strsG (somesOf [a, b, c])).any fun o => inS o (Txt.join "" xs)) := by
    rw [Bool.eq_iff_iff, List.any_eq_true, List.any_eq_true]
    constructor
    · rintro ⟨o, ho, h⟩
      obtain ⟨ch, rfl⟩ := hone o ho
      exact ⟨_, ho, by rw [inS_join]; exact h⟩
    · rintro ⟨o, ho, h⟩
      obtain ⟨ch, rfl⟩ := hone o ho
      exact ⟨_, ho, by rw [inS_join] at h; exact h⟩
  rw [e2]
  congr 1
  obtain ⟨p, rfl, hp⟩ := textOf_str h1
  cases hb : isNone b with
  | true =>
    obtain rfl : b = .none := by cases b <;> first | rfl | (cases hb)
    cases hc : isNone c with
    | true =>
      obtain rfl : c = .none := by cases c <;> first | rfl | (cases hc)
      simp [somesOf, isNone, strsG, distinct, sameD]
    | false =>
      obtain ⟨r, rfl, hr⟩ := orNone_str h3 hc
      have pr := parts_remarks p hp r hr
      simp [somesOf, isNone, strsG, distinct, sameD, pr]
  | false =>
    obtain ⟨q, rfl, hq⟩ := orNone_str h2 hb
    cases hc : isNone c with
    | true =>
      obtain rfl : c = .none := by cases c <;> first | rfl | (cases hc)
      cases e : (p == q) <;> simp [somesOf, isNone, strsG, distinct, sameD, e]
    | false =>
      obtain ⟨r, rfl, hr⟩ := orNone_str h3 hc
      have pr := parts_remarks p hp r hr
      have qr := parts_remarks q hq r hr
      cases e : (p == q) <;> simp [somesOf, isNone, strsG, distinct, sameD, e, pr, qr]
end G
set_option Elab.async false
set_option linter.all false
set_option maxRecDepth 100000
set_option maxHeartbeats 1000000
/-! GTl: the law's own look at a tongue, run -/
namespace G
open PySem PySem.Spec PyProof.Rows
theorem isT_str (d : PyData) (st : Store) (h : ∀ x, d ≠ .str x) : isT (tyOf st (.d d)) .str = false := by
  cases d <;> first | rfl | (exact absurd rfl (h _)) | simp [tyOf, isT]
def lawNameB (d : PyData) : Bool := nameB d
theorem eqO_part (p : Str) (d : PyData) (h : orNone partsL d = true) : eqO (.str p) d = some (sameD (.str p) d) := by
  cases d with
  | str x => simp [sameD]
  | none => simp [eqO, PyData.plain, PyData.depth, PyData.eqv, sameD]
  | _ => cases h
theorem exs_guard {N : Env'} {c : E} {v : PyData} {r : Ss} {ρ : Rho} {st : Store} (b : Bool) (h : ((ev N c ρ st).bind fun v st1 => truthR v st1) = .ok (!b) st) : exs N (.cons (.ite c (.cons (.ret (.cst v)) .nil) .nil) r) ρ st = if b = true then exs N r ρ st else .ok (.ret (.d v)) st := by
  rw [exs_cons, ex_ite_b (!b) h]
  cases b with
  | false => rw [if_pos (by rfl), exs_cons, ex_ret, ev_cst]; rfl
  | true => rw [if_neg (by decide), exs_nil]; rfl
theorem fin_no {st : Store} {t : Bool} (h : t = false) : (R.ok (Fl.ret (Val.d (.bool false))) st) = R.ok (Fl.ret (Val.d (.bool t))) st := by rw [h]
abbrev tName : E := (.or (.cons (.not (.isi (.var 1) [.str])) (.cons (.not (.chain .lt .lt (.cst (.int 0)) (.bi .len (.cons (.var 1) .nil)) (.cst (.int 9)))) (.cons (.not (.bi .all (.cons (.comp false (.chain .le .le (.cst (.str "a")) (.var 10) (.cst (.str "z"))) (.name 10) (.e (.var 1)) .nil [10]) .nil))) .nil))))
theorem test_name (N : Env') (ρ : Rho) (a : PyData) (st : Store) (v1 : ρ[1]? = some (some (.d a))) (rl : ρ.length = 15) (fa : fitB a = true) : ((ev N tName ρ st).bind fun v st1 => truthR v st1) = .ok (!(nameB a)) st := by
  cases a <;> try (simp [v1, tyOf, isT, nameB]; done)
  rename_i x
  have hx : x.length ≤ sizeLine := fit_len fa
  by_cases h1 : (0 : Int) < x.length
  · have h1' : 1 ≤ x.length := by omega
    have h1n : 0 < x.length := by omega
    by_cases h2 : (x.length : Int) < 9
    · have h2' : x.length ≤ 8 := by omega
      have hc := ev_comp_bools (N := N) (elt := .chain .le .le (.cst (.str "a")) (.var 10) (.cst (.str "z"))) (tg := .name 10) (it := .e (.var 1)) (own := [10]) (ρ := ρ) (st := st) (xs := charsD x) (p := azD) (by simp [v1, seq_str]) (fun y hy => by
        obtain ⟨ch, hch, rfl⟩ := List.mem_map.mp hy
        have e10 : ((ρ.set 10 none).set 10 (some (.d (.str ⟨#[ch]⟩))))[10]? = some (some (Val.d (.str ⟨#[ch]⟩))) := by simp [rl]
        simp only [wipeR_cons, wipeR_nil, asg_name, List.length_set]
        rw [if_pos (by omega), bind_okS]
        generalize (ρ.set 10 none).set 10 (some (.d (.str ⟨#[ch]⟩))) = ρ' at e10
        have l1 : leO (.d (.str "a")) (.d (.str ⟨#[ch]⟩)) = some (!decide ([ch] < [97])) := rfl
        have l2 : leO (.d (.str ⟨#[ch]⟩)) (.d (.str "z")) = some (!decide ([122] < [ch])) := rfl
        have ad : azD (.str ⟨#[ch]⟩) = (!decide ([ch] < [97]) && !decide ([122] < [ch])) := rfl
        cases q : decide ([ch] < [97]) <;> simp [e10, l1, l2, ad, q]) (by rw [charsD_len]; exact hx)
      simp [v1, tyOf, isT, guard', hx, h1, h1n, h2, h1', h2', hc, az_all, nameB]
    · have h2' : ¬ x.length ≤ 8 := by omega
      simp [v1, tyOf, isT, guard', hx, h1, h1n, h2, h1', h2', nameB]
  · have h1' : ¬ 1 ≤ x.length := by omega
    have h1n : ¬ 0 < x.length := by omega
    simp [v1, tyOf, isT, guard', hx, h1, h1', h1n, nameB]
section
variable {P : Prg} {cO cS cR : Nat}
def lkE : E := .lst false (.cons (.cst (.str "ends")) (.cons (.cst (.str "lines")) .nil))
abbrev tKind (cO cS : Nat) : E := (.or (.cons (.not (.call cO (.cons (.var 2) (.cons (.lst false (.cons (.cst (.str "ends")) (.cons (.cst (.str "lines")) .nil))) .nil)))) (.cons (.not (.call cS (.cons (.var 3) .nil))) .nil)))
theorem test_kind (hO : P.fns[cO]? = some fTextOf) (hS : P.fns[cS]? = some (fLawSigns cR)) (hR : P.fns[cR]? = some fRising) (k : Nat) (ρ : Rho) (b c : PyData) (st : Store) (v2 : ρ[2]? = some (some (.d b))) (v3 : ρ[3]? = some (some (.d c))) (fc : fitB c = true) :
    ((ev (P.env (k + 3)) (tKind cO cS) ρ st).bind fun v st1 => truthR v st1) = .ok (!(textOf kindsL b && risingOf signText c)) st := by
  have q2 := r_textOf hO (k + 2) b kindsL (.d (.list (kindsL.map PyData.str))) (.inr rfl) st
  have q3 := r_lawSigns hS hR (k + 1) c st fc
  have lk : mkList false [.d (.str "ends"), .d (.str "lines")] st = .ok (.d (.list (kindsL.map PyData.str))) st := rfl
  cases p2 : textOf kindsL b with
  | false => simp [v2, q2, p2, lk]
  | true => cases p3 : risingOf signText c <;> simp [v2, v3, q2, p2, lk, q3, p3]
abbrev tBeg : E := (.not (.bi .all (.cons (.comp false (.and (.cons (.cmp .isin (.slice (.var 11) .no (.e (.cst (.int 1)))) (.var 3)) (.cons (.cmp .isin (.slice (.var 11) .no (.e (.cst (.int 2)))) (.var 3)) .nil))) (.name 11) (.e (.var 3)) .nil [11]) .nil)))
theorem test_beg (N : Env') (ρ : Rho) (xc : List PyData) (st : Store) (v3 : ρ[3]? = some (some (.d (.tuple xc)))) (rl : ρ.length = 15) (p3 : risingOf signText (.tuple xc) = true) (fc : fitB (.tuple xc) = true) :
    ((ev N tBeg ρ st).bind fun v st1 => truthR v st1) = .ok (!(signsB (.tuple xc))) st := by
  have p3' : (xc.all signText && rising (strsG xc)) = true := p3
  rw [Bool.and_eq_true] at p3'
  have ec := strsG_map signText_str p3'.1
  have xl' := Nat.le_trans (fit_tuple fc).1 mill
  have len3 : ∀ x ∈ strsG xc, 1 ≤ x.length ∧ x.length ≤ 3 := fun x hx => by
    have := List.all_eq_true.mp p3'.1 (.str x) (by rw [ec]; exact List.mem_map_of_mem hx)
    have : (decide (1 ≤ x.length) && decide (x.length ≤ 3) && allIn signs x) = true := this
    simp only [Bool.and_eq_true, decide_eq_true_eq] at this
    exact this.1
  have sB : signsB (.tuple xc) = (strsG xc).all (begOk (strsG xc)) := by
    show (risingOf signText (.tuple xc) && (strsG xc).all (headOk (strsG xc))) = _
    rw [p3, Bool.true_and, heads_begs len3]
  have hbeg := ev_comp_bools (N := N) (elt := .and (.cons (.cmp .isin (.slice (.var 11) .no (.e (.cst (.int 1)))) (.var 3)) (.cons (.cmp .isin (.slice (.var 11) .no (.e (.cst (.int 2)))) (.var 3)) .nil))) (tg := .name 11) (it := .e (.var 3)) (own := [11]) (ρ := ρ) (st := st) (xs := xc) (p := fun d => match d with | .str x => begOk (strsG xc) x | _ => false) (by simp [v3, seq_tuple]) (fun y hy => by
    rw [ec] at hy
    obtain ⟨x, hx, rfl⟩ := List.mem_map.mp hy
    have hx3 := len3 x hx
    have hxl : x.length ≤ sizeLine := by have := mill; omega
    have e11 : ((ρ.set 11 none).set 11 (some (.d (.str x))))[11]? = some (some (Val.d (.str x))) := by simp [rl]
    have e3 : ((ρ.set 11 none).set 11 (some (.d (.str x))))[3]? = some (some (Val.d (.tuple xc))) := by simp [v3]
    simp only [wipeR_cons, wipeR_nil, asg_name, List.length_set]
    rw [if_pos (by omega), bind_okS]
    generalize (ρ.set 11 none).set 11 (some (.d (.str x))) = ρ' at e11 e3
    have t1 : oSlice (.d (.str x)) none (some 1) st = some (.d (.str (takeS 1 x)), st) := slice_to x 1 (by decide) st hxl
    have t2 : oSlice (.d (.str x)) none (some 2) st = some (.d (.str (takeS 2 x)), st) := slice_to x 2 (by decide) st hxl
    have i1 : isInO (.d (.str (takeS 1 x))) (.d (.tuple xc)) st = some ((strsG xc).any fun z => z == takeS 1 x) := by
      conv => lhs; rw [ec]
      exact in_tup_strs _ _ _
    have i2 : isInO (.d (.str (takeS 2 x))) (.d (.tuple xc)) st = some ((strsG xc).any fun z => z == takeS 2 x) := by
      conv => lhs; rw [ec]
      exact in_tup_strs _ _ _
    have bo : begOk (strsG xc) x = (((strsG xc).any fun z => z == takeS 1 x) && ((strsG xc).any fun z => z == takeS 2 x)) := rfl
    generalize ((strsG xc).any fun z => z == takeS 1 x) = b1 at *
    generalize ((strsG xc).any fun z => z == takeS 2 x) = b2 at *
    cases b1 <;> simp [e11, e3, t1, t2, i1, i2, bo]) xl'
  have hball : xc.all (fun d => match d with | .str x => begOk (strsG xc) x | _ => false) = (strsG xc).all (begOk (strsG xc)) := by
    conv => lhs; rw [ec]
    rw [show (strsG ((strsG xc).map PyData.str)) = strsG xc by rw [← ec]]
    exact strs_all (fun x => rfl) _
  simp [hbeg, hball, sB]
abbrev tPairs (cO : Nat) : E := (.or (.cons (.not (.isi (.var 4) [.tuple])) (.cons (.cmp .eq (.var 4) (.tup .nil)) (.cons (.not (.bi .all (.cons (.comp false (.call cO (.cons (.var 14) (.cons (.var 12) .nil))) (.name 14) (.e (.var 4)) .nil [14]) .nil))) .nil))))
def pairsP : PyData → Bool
  | .tuple ys => !ys.isEmpty && ys.all (textOf pairsL)
  | _ => false
theorem test_pairs (hO : P.fns[cO]? = some fTextOf) (k : Nat) (τ : Rho) (d : PyData) (st : Store) (u4 : τ[4]? = some (some (.d d))) (w12 : τ[12]? = some (some (.d (.list (pairsL.map PyData.str))))) (wl : τ.length = 15) (fd : fitB d = true) :
    ((ev (P.env (k + 3)) (tPairs cO) τ st).bind fun v st1 => truthR v st1) = .ok (!(pairsP d)) st := by
  cases d <;> try (simp [u4, tyOf, isT, pairsP]; done)
  rename_i ys
  have fl := Nat.le_trans (fit_tuple fd).1 mill
  have hq : ev (P.env (k + 3)) (.comp false (.call cO (.cons (.var 14) (.cons (.var 12) .nil))) (.name 14) (.e (.var 4)) .nil [14]) τ st = .ok (.d (.list (boolsD (textOf pairsL) ys))) st := by
    refine ev_comp_bools (by simp [u4, seq_tuple]) (fun y hy => ?_) fl
    have qq := r_textOf hO (k + 2) y pairsL (.d (.list (pairsL.map PyData.str))) (.inr rfl) st
    have e14 : ((τ.set 14 none).set 14 (some (.d y)))[14]? = some (some (Val.d y)) := by simp [wl]
    have e12 : ((τ.set 14 none).set 14 (some (.d y)))[12]? = some (some (Val.d (.list (pairsL.map PyData.str)))) := by simp [w12]
    simp only [wipeR_cons, wipeR_nil, asg_name, List.length_set]
    rw [if_pos (by omega), bind_okS]
    generalize (τ.set 14 none).set 14 (some (.d y)) = τ' at e14 e12
    simp [e14, e12, qq]
  have he : eqO (.tuple ys) (.tuple []) = some ys.isEmpty := by
    unfold eqO
    split
    · cases ys <;> simp [PyData.eqv, PyData.eqvAll]
    · rfl
  have pp : pairsP (.tuple ys) = (!ys.isEmpty && ys.all (textOf pairsL)) := rfl
  rw [pp]
  generalize hw : ys.isEmpty = w0 at *
  cases w0 with
  | true => simp [u4, tyOf, isT, datas, he]
  | false => cases w1 : ys.all (textOf pairsL) <;> simp [u4, tyOf, isT, datas, he, hq, w1]
abbrev tRise (cO cR : Nat) : E := (.or (.cons (.not (.call cR (.cons (.var 4) .nil))) (.cons (.not (.call cO (.cons (.var 5) (.cons (.var 13) .nil)))) (.cons (.and (.cons (.cmp .isnot (.var 6) (.cst .none)) (.cons (.not (.call cO (.cons (.var 6) (.cons (.var 13) .nil)))) .nil))) .nil))))
theorem test_rise (hO : P.fns[cO]? = some fTextOf) (hR : P.fns[cR]? = some fRising) (k : Nat) (τ : Rho) (xd : List PyData) (e f : PyData) (st : Store) (u4 : τ[4]? = some (some (.d (.tuple xd)))) (u5 : τ[5]? = some (some (.d e))) (u6 : τ[6]? = some (some (.d f))) (w13 : τ[13]? = some (some (.d (.list (partsL.map PyData.str))))) (ed : xd = (strsG xd).map PyData.str) (fl : xd.length ≤ sizeLine) :
    ((ev (P.env (k + 3)) (tRise cO cR) τ st).bind fun v st1 => truthR v st1) = .ok (!(rising (strsG xd) && textOf partsL e && orNone partsL f)) st := by
  have qr := r_rising hR (k + 2) (.d (.tuple xd)) (strsG xd) st (.inl (by rw [← ed])) (Nat.le_trans (strsG_len xd) fl)
  have q5 := r_textOf hO (k + 2) e partsL (.d (.list (partsL.map PyData.str))) (.inr rfl) st
  have q6 := r_textOf hO (k + 2) f partsL (.d (.list (partsL.map PyData.str))) (.inr rfl) st
  cases p4 : rising (strsG xd) with
  | false => simp [u4, qr, p4]
  | true =>
    cases p5 : textOf partsL e with
    | false => simp [u4, qr, p4, u5, w13, q5, p5]
    | true =>
      cases p6 : isNone f with
      | true => simp [u4, qr, p4, u5, w13, q5, p5, u6, isO_none, p6, orNone]
      | false => cases p6' : textOf partsL f <;> simp [u4, qr, p4, u5, w13, q5, p5, u6, isO_none, p6, orNone, q6, p6']
abbrev tEnd (cO : Nat) : E := (.or (.cons (.cmp .ne (.cmp .is (.var 6) (.cst .none)) (.cmp .eq (.var 2) (.cst (.str "lines")))) (.cons (.and (.cons (.cmp .isnot (.var 7) (.cst .none)) (.cons (.or (.cons (.not (.call cO (.cons (.var 7) (.cons (.var 12) .nil)))) (.cons (.cmp .isin (.var 7) (.var 4)) .nil))) .nil))) .nil)))
theorem test_end (hO : P.fns[cO]? = some fTextOf) (k : Nat) (τ : Rho) (kd : Str) (kk : kd ∈ kindsL) (xd : List PyData) (f g : PyData) (st : Store) (u2 : τ[2]? = some (some (.d (.str kd)))) (u4 : τ[4]? = some (some (.d (.tuple xd)))) (u6 : τ[6]? = some (some (.d f))) (u7 : τ[7]? = some (some (.d g))) (w12 : τ[12]? = some (some (.d (.list (pairsL.map PyData.str)))))
    (ed : xd = (strsG xd).map PyData.str) (p6 : orNone partsL f = true) :
    ((ev (P.env (k + 3)) (tEnd cO) τ st).bind fun v st1 => truthR v st1) = .ok (!(endB partsL kd f && blockB pairsL (strsG xd) g)) st := by
  have q7 := r_textOf hO (k + 2) g pairsL (.d (.list (pairsL.map PyData.str))) (.inr rfl) st
  have i7 : ∀ x, isInO (.d (.str x)) (.d (.tuple xd)) st = some (textOf (strsG xd) (.str x)) := fun x => by
    conv => lhs; rw [ed]
    exact in_tup_strs _ _ _
  have h6 : endB partsL kd f = (isNone f == (kd == "lines")) := by rw [← end_same kk]; unfold endL; rw [p6, Bool.true_and]
  rw [h6]
  generalize hb : (kd == ("lines" : Str)) = b1
  generalize hn : isNone f = b2
  have io := isO_none f
  rw [hn] at io
  have eb : eqO (.bool b2) (.bool b1) = some (b2 == b1) := eqO_bool _ _
  cases w : (b2 == b1) with
  | false => simp [u6, u2, io, hb, w]
  | true =>
    cases w7 : isNone g with
    | true => simp [u6, u2, io, hb, w, u7, isO_none, w7, blockB]
    | false =>
      cases w8 : textOf pairsL g with
      | false => simp [u6, u2, io, hb, w, u7, isO_none, w7, w12, q7, w8, blockB]
      | true =>
        obtain ⟨x, rfl, _⟩ := textOf_str w8
        cases w9 : textOf (strsG xd) (.str x) <;> simp [u6, u2, io, hb, w, u7, isO_none, w7, w12, q7, w8, u4, i7, w9, blockB]
abbrev tRem (cO : Nat) : E := (.and (.cons (.cmp .isnot (.var 8) (.cst .none)) (.cons (.not (.call cO (.cons (.var 8) (.cons (.lst false (.cons (.cst (.str "#")) (.cons (.cst (.str "!")) (.cons (.cst (.str "@")) .nil)))) .nil)))) .nil)))
theorem test_rem (hO : P.fns[cO]? = some fTextOf) (k : Nat) (τ : Rho) (h : PyData) (st : Store) (u8 : τ[8]? = some (some (.d h))) : ((ev (P.env (k + 3)) (tRem cO) τ st).bind fun v st1 => truthR v st1) = .ok (!(orNone remarksL h)) st := by
  have q8 := r_textOf hO (k + 2) h remarksL (.d (.list (remarksL.map PyData.str))) (.inr rfl) st
  have lr : mkList false [.d (.str "#"), .d (.str "!"), .d (.str "@")] st = .ok (.d (.list (remarksL.map PyData.str))) st := rfl
  cases p8 : isNone h with
  | true => simp [u8, isO_none, p8, orNone]
  | false => cases p8' : textOf remarksL h <;> simp [u8, isO_none, p8, orNone, q8, p8', lr]
abbrev tQuo (cO : Nat) : E := (.or (.cons (.and (.cons (.cmp .isnot (.var 9) (.cst .none)) (.cons (.not (.call cO (.cons (.var 9) (.cons (.lst false (.cons (.cst (.str "\"")) (.cons (.cst (.str "'")) .nil))) .nil)))) .nil))) (.cons (.cmp .eq (.var 5) (.var 6)) .nil)))
theorem test_quo (hO : P.fns[cO]? = some fTextOf) (k : Nat) (τ : Rho) (xp : Str) (f j : PyData) (st : Store) (u5 : τ[5]? = some (some (.d (.str xp)))) (u6 : τ[6]? = some (some (.d f))) (u9 : τ[9]? = some (some (.d j))) (p6 : orNone partsL f = true) : ((ev (P.env (k + 3)) (tQuo cO) τ st).bind fun v st1 => truthR v st1) = .ok (!(orNone quotesL j && !sameD (.str xp) f)) st := by
  have q9 := r_textOf hO (k + 2) j quotesL (.d (.list (quotesL.map PyData.str))) (.inr rfl) st
  have lq : mkList false [.d (.str "\""), .d (.str "'")] st = .ok (.d (.list (quotesL.map PyData.str))) st := rfl
  have eq5 := eqO_part xp f p6
  generalize sameD (.str xp) f = w at *
  cases p9 : isNone j with
  | true => cases w <;> simp [u9, isO_none, p9, orNone, u5, u6, eq5]
  | false =>
    cases p9' : textOf quotesL j with
    | false => simp [u9, isO_none, p9, orNone, q9, p9', lq]
    | true => cases w <;> simp [u9, isO_none, p9, orNone, q9, p9', lq, u5, u6, eq5]
abbrev rApart : E := (.not (.bi .any (.cons (.comp false (.and (.cons (.cmp .isnot (.var 11) (.cst .none)) (.cons (.cmp .isin (.var 11) (.me .join (.cst (.str "")) (.cons (.var 3) .nil))) .nil))) (.name 11) (.e (.tup (.cons (.var 5) (.cons (.var 6) (.cons (.var 8) .nil))))) .nil [11]) .nil)))
theorem last_apart (N : Env') (τ : Rho) (xc : List PyData) (xp : Str) (f h : PyData) (st : Store) (u3 : τ[3]? = some (some (.d (.tuple xc)))) (u5 : τ[5]? = some (some (.d (.str xp)))) (u6 : τ[6]? = some (some (.d f))) (u8 : τ[8]? = some (some (.d h))) (wl : τ.length = 15) (p3 : xc.all signText = true) (xl : xc.length ≤ 1000000) (p6 : orNone partsL f = true) (p8 : orNone remarksL h = true) :
    ev N rApart τ st = .ok (.d (.bool (![PyData.str xp, f, h].any (inD (Txt.join "" (strsG xc)))))) st := by
  have ec := strsG_map signText_str p3
  have hi : evIt N (.e (.tup (.cons (.var 5) (.cons (.var 6) (.cons (.var 8) .nil))))) τ st = .ok ([.str xp, f, h].map Val.d, none) st := by
    simp [u5, u6, u8, datas, s3.1, seq_tuple]
  have s1all : xc.all s1 = true := by
    by_cases q : xc.all s1 = true
    · exact q
    · have := sign_s1 (by simpa using q)
      rw [p3] at this; cases this
  have hsum := sum_s1 s1all
  have hj : meO .join (.d (.str "")) [.d (.tuple xc)] st = some (.d (.str (Txt.join "" (strsG xc))), st) := by
    show (sqDat st (.d (.tuple xc))).bind _ = _
    rw [sqDat_tuple]
    show (strsOf xc).bind _ = _
    have hso : strsOf xc = some (strsG xc) := by
      conv => lhs; rw [ec]
      exact strsOf_map _
    rw [hso]
    show guard' _ _ = _
    rw [guard_pos (by
      have : (Str.ofString "").length = 0 := rfl
      rw [this]; omega)]
    rfl
  have hr : recv .join st (.d (.str "")) = true := rfl
  have hc := ev_comp_bools (N := N) (elt := .and (.cons (.cmp .isnot (.var 11) (.cst .none)) (.cons (.cmp .isin (.var 11) (.me .join (.cst (.str "")) (.cons (.var 3) .nil))) .nil))) (tg := .name 11) (own := [11]) (ρ := τ) (st := st) (xs := [.str xp, f, h]) (p := inD (Txt.join "" (strsG xc))) hi (fun y hy => by
    have e11 : ((τ.set 11 none).set 11 (some (.d y)))[11]? = some (some (Val.d y)) := by simp [wl]
    have e3 : ((τ.set 11 none).set 11 (some (.d y)))[3]? = some (some (Val.d (.tuple xc))) := by simp [u3]
    simp only [wipeR_cons, wipeR_nil, asg_name, List.length_set]
    rw [if_pos (by omega), bind_okS]
    generalize (τ.set 11 none).set 11 (some (.d y)) = τ' at e11 e3
    have hy : (∃ z, y = .str z) ∨ y = .none := by
      simp only [List.mem_cons, List.not_mem_nil, or_false] at hy
      rcases hy with e | e | e
      · exact .inl ⟨xp, e⟩
      · rw [e]
        cases w : isNone f with
        | true => right; cases f <;> first | rfl | (cases w)
        | false => obtain ⟨x, e, _⟩ := orNone_str p6 w; exact .inl ⟨x, e⟩
      · rw [e]
        cases w : isNone h with
        | true => right; cases h <;> first | rfl | (cases w)
        | false => obtain ⟨x, e, _⟩ := orNone_str p8 w; exact .inl ⟨x, e⟩
    generalize Txt.join "" (strsG xc) = J at *
    rcases hy with ⟨z, rfl⟩ | rfl
    · simp [e11, e3, isO_none, isNone, hr, hj, in_str, inD]
    · simp [e11, e3, isO_none, isNone, inD]) s3.1
  generalize Txt.join "" (strsG xc) = J at *
  have ba : biO .any [.d (.list (boolsD (inD J) [PyData.str xp, f, h]))] st = some (.d (.bool ([PyData.str xp, f, h].any (inD J))), st) := by
    show biO .any [.d (.list (([PyData.str xp, f, h].map (inD J)).map PyData.bool))] st = _
    rw [bi_any, List.any_map]; rfl
  generalize [PyData.str xp, f, h].any (inD J) = b at *
  generalize boolsD (inD J) [PyData.str xp, f, h] = bs at *
  simp [hc, ba]
end
end G
set_option Elab.async false
set_option linter.all false
set_option maxRecDepth 100000
set_option maxHeartbeats 1000000
/-! GTl: the law's own look at a tongue, run -/
namespace G
open PySem PySem.Spec PyProof.Rows
section
variable {P : Prg} {i cO cS cR : Nat}
theorem r_lawTongue (hP : P.fns[i]? = some (fLawTongue cO cS cR)) (hO : P.fns[cO]? = some fTextOf) (hS : P.fns[cS]? = some (fLawSigns cR)) (hR : P.fns[cR]? = some fRising) (k : Nat) (d : PyData) (st : Store) (hd : fitB d = true) : phi P (k + 4) i [.d d] st = .ok (.d (.bool (tongueB d))) st := by
  rw [phi_at hP _ _ rfl]
  have e : exs (P.env (k + 3)) (fLawTongue cO cS cR).body (startR (fLawTongue cO cS cR).ns [.d d]) st = .ok (.ret (.d (.bool (tongueB d)))) st := by
    have e0 : startR (fLawTongue cO cS cR).ns [.d d] = [some (.d d), none, none, none, none, none, none, none, none, none, none, none, none, none, none] := rfl
    rw [e0]
    cases d <;> try (simp [fLawTongue, bLawTongue, tyOf, isT, tongueB]; done)
    rename_i xs
    by_cases hl : xs.length = 9
    · match xs, hl, hd with
      | [a, b, c, d, e, f, g, h, j], h9, hd =>
      clear h9
      have fx := (fit_tuple hd).2
      have fa := fx a (by simp)
      have fc := fx c (by simp)
      have fd := fx d (by simp)
      have tt : tongueB (.tuple [a, b, c, d, e, f, g, h, j]) = nineB a b c d e f g h j := rfl
      have lp : mkList false [.d (.str "()"), .d (.str "[]"), .d (.str "{}")] st = .ok (.d (.list (pairsL.map PyData.str))) st := rfl
      have lb : mkList false [.d (.str ","), .d (.str ";"), .d (.str ":"), .d (.str "|")] st = .ok (.d (.list (partsL.map PyData.str))) st := rfl
      rw [tt]
      simp only [fLawTongue, bLawTongue]
      rw [exs_guard true (by simp [tyOf, isT]), if_pos rfl]
      rw [exs_cons]
      have c4 : cutL [a, b, c, d, e, f, g, h, j] none (some 4) = [a, b, c, d] := by rw [cut_to' _ _ (by decide)]; rfl
      have c5 : cutL [a, b, c, d, e, f, g, h, j] (some 4) none = [e, f, g, h, j] := by simp [cutL, HT.sIx]
      have sa : ex (P.env (k + 3)) (.parn (.cons (.tup (.cons (.name 1) (.cons (.name 2) (.cons (.name 3) (.cons (.name 4) .nil))))) (.cons (.tup (.cons (.name 5) (.cons (.name 6) (.cons (.name 7) (.cons (.name 8) (.cons (.name 9) .nil)))))) .nil)) (.cons (.slice (.var 0) .no (.e (.cst (.int 4)))) (.cons (.slice (.var 0) (.e (.cst (.int 4))) .no) .nil)))
          [some (.d (.tuple [a, b, c, d, e, f, g, h, j])), none, none, none, none, none, none, none, none, none, none, none, none, none, none] st =
        .ok (.next [some (.d (.tuple [a, b, c, d, e, f, g, h, j])), some (.d a), some (.d b), some (.d c), some (.d d), some (.d e), some (.d f), some (.d g), some (.d h), some (.d j), none, none, none, none, none]) st := by
        simp [c4, c5, s3.2.1]
      rw [sa, noX_okS, bind_okS]
      dsimp only
      generalize hρ : [some (Val.d (.tuple [a, b, c, d, e, f, g, h, j])), some (.d a), some (.d b), some (.d c), some (.d d), some (.d e), some (.d f), some (.d g), some (.d h), some (.d j), none, none, none, none, none] = ρ
      have v1 : ρ[1]? = some (some (.d a)) := by rw [← hρ]; rfl
      have v2 : ρ[2]? = some (some (.d b)) := by rw [← hρ]; rfl
      have v3 : ρ[3]? = some (some (.d c)) := by rw [← hρ]; rfl
      have v4 : ρ[4]? = some (some (.d d)) := by rw [← hρ]; rfl
      have v5 : ρ[5]? = some (some (.d e)) := by rw [← hρ]; rfl
      have v6 : ρ[6]? = some (some (.d f)) := by rw [← hρ]; rfl
      have v7 : ρ[7]? = some (some (.d g)) := by rw [← hρ]; rfl
      have v8 : ρ[8]? = some (some (.d h)) := by rw [← hρ]; rfl
      have v9 : ρ[9]? = some (some (.d j)) := by rw [← hρ]; rfl
      have rl : ρ.length = 15 := by rw [← hρ]; rfl
      clear hρ sa
      rw [exs_guard _ (test_name _ ρ a st v1 rl fa)]
      cases p1 : nameB a with
      | false => (rw [if_neg (by simp)]; exact fin_no (by simp [nineB, p1]))
      | true =>
      rw [if_pos (by rfl), exs_guard _ (test_kind hO hS hR k ρ b c st v2 v3 fc)]
      cases p2 : textOf kindsL b with
      | false => (rw [if_neg (by simp)]; exact fin_no (by simp [nineB, p2]))
      | true =>
      cases p3 : risingOf signText c with
      | false =>
        have : signsB c = false := by
          cases c <;> first | rfl | skip
          show (risingOf signText _ && _) = false
          rw [p3]; rfl
        (rw [if_neg (by simp)]; exact fin_no (by simp [nineB, this]))
      | true =>
      obtain ⟨kd', rfl, kk⟩ := textOf_str p2
      cases c <;> first | (cases p3; done) | skip
      rename_i xc
      have p3' : (xc.all signText && rising (strsG xc)) = true := p3
      rw [Bool.and_eq_true] at p3'
      rw [if_pos (by rfl), exs_guard _ (test_beg _ ρ xc st v3 rl p3 fc)]
      cases p3b : signsB (.tuple xc) with
      | false => (rw [if_neg (by simp)]; exact fin_no (by simp [nineB, p3b]))
      | true =>
      rw [if_pos (by rfl), exs_cons]
      have sb : ex (P.env (k + 3)) (.parn (.cons (.name 12) (.cons (.name 13) .nil)) (.cons (.lst false (.cons (.cst (.str "()")) (.cons (.cst (.str "[]")) (.cons (.cst (.str "{}")) .nil)))) (.cons (.lst false (.cons (.cst (.str ",")) (.cons (.cst (.str ";")) (.cons (.cst (.str ":")) (.cons (.cst (.str "|")) .nil))))) .nil))) ρ st =
          .ok (.next ((ρ.set 12 (some (.d (.list (pairsL.map PyData.str))))).set 13 (some (.d (.list (partsL.map PyData.str)))))) st := by
        simp [lp, lb, s3.2.1, rl]
      rw [sb, noX_okS, bind_okS]
      dsimp only
      have w12 : ((ρ.set 12 (some (.d (.list (pairsL.map PyData.str))))).set 13 (some (.d (.list (partsL.map PyData.str)))))[12]? = some (some (Val.d (.list (pairsL.map PyData.str)))) := by simp [rl]
      have w13 : ((ρ.set 12 (some (.d (.list (pairsL.map PyData.str))))).set 13 (some (.d (.list (partsL.map PyData.str)))))[13]? = some (some (Val.d (.list (partsL.map PyData.str)))) := by simp [rl]
      have wo : ∀ n, n ≠ 12 → n ≠ 13 → ((ρ.set 12 (some (.d (.list (pairsL.map PyData.str))))).set 13 (some (.d (.list (partsL.map PyData.str)))))[n]? = ρ[n]? := fun n h1 h2 => by
        rw [List.getElem?_set_ne (Ne.symm h2), List.getElem?_set_ne (Ne.symm h1)]
      have wl : ((ρ.set 12 (some (.d (.list (pairsL.map PyData.str))))).set 13 (some (.d (.list (partsL.map PyData.str))))).length = 15 := by simp [rl]
      generalize (ρ.set 12 (some (.d (.list (pairsL.map PyData.str))))).set 13 (some (.d (.list (partsL.map PyData.str)))) = τ at *
      have u2 := (wo 2 (by decide) (by decide)).trans v2
      have u3 := (wo 3 (by decide) (by decide)).trans v3
      have u4 := (wo 4 (by decide) (by decide)).trans v4
      have u5 := (wo 5 (by decide) (by decide)).trans v5
      have u6 := (wo 6 (by decide) (by decide)).trans v6
      have u7 := (wo 7 (by decide) (by decide)).trans v7
      have u8 := (wo 8 (by decide) (by decide)).trans v8
      have u9 := (wo 9 (by decide) (by decide)).trans v9
      rw [exs_guard _ (test_pairs hO k τ d st u4 w12 wl fd)]
      cases pP : pairsP d with
      | false =>
        have : pairsB pairsL d = false := by
          cases d <;> first | rfl | skip
          have pP : (!List.isEmpty _ && List.all _ (textOf pairsL)) = false := pP
          show ((!List.isEmpty _ && List.all _ (textOf pairsL)) && _) = false
          rw [pP]; rfl
        (rw [if_neg (by simp)]; exact fin_no (by simp [nineB, this]))
      | true =>
      cases d <;> first | (cases pP; done) | skip
      rename_i xd
      have pP : (!xd.isEmpty && xd.all (textOf pairsL)) = true := pP
      have pP2 := pP
      rw [Bool.and_eq_true] at pP2
      have ed := strsG_map (fun d h => let ⟨x, e, _⟩ := textOf_str h; ⟨x, e⟩) pP2.2
      have fl := Nat.le_trans (fit_tuple fd).1 mill
      have pB : pairsB pairsL (.tuple xd) = rising (strsG xd) := by
        show (!xd.isEmpty && xd.all (textOf pairsL) && rising (strsG xd)) = _
        rw [pP, Bool.true_and]
      rw [if_pos (by rfl), exs_guard _ (test_rise hO hR k τ xd e f st u4 u5 u6 w13 ed fl)]
      cases p4 : rising (strsG xd) with
      | false => (rw [if_neg (by simp)]; exact fin_no (by simp [nineB, pB, p4]))
      | true =>
      cases p5 : textOf partsL e with
      | false => (rw [if_neg (by simp)]; exact fin_no (by simp [nineB, p5]))
      | true =>
      cases p6 : orNone partsL f with
      | false =>
        have : endB partsL kd' f = false := by rw [← end_same kk]; unfold endL; rw [p6]; rfl
        (rw [if_neg (by simp)]; exact fin_no (by simp [nineB, kindS, this]))
      | true =>
      have tb : strsTup (.tuple xd) = strsG xd := rfl
      rw [if_pos (by rfl), exs_guard _ (test_end hO k τ kd' kk xd f g st u2 u4 u6 u7 w12 ed p6)]
      cases pE : endB partsL kd' f with
      | false => (rw [if_neg (by simp)]; exact fin_no (by simp [nineB, kindS, pE]))
      | true =>
      cases pK : blockB pairsL (strsG xd) g with
      | false => (rw [if_neg (by simp)]; exact fin_no (by simp [nineB, tb, pK]))
      | true =>
      rw [if_pos (by rfl), exs_guard _ (test_rem hO k τ h st u8)]
      cases p8 : orNone remarksL h with
      | false => (rw [if_neg (by simp)]; exact fin_no (by simp [nineB, p8]))
      | true =>
      obtain ⟨xp, rfl, hxp⟩ := textOf_str p5
      rw [if_pos (by rfl), exs_guard _ (test_quo hO k τ xp f j st u5 u6 u9 p6)]
      have as := apart_same (xs := strsG xc) p5 p6 p8
      have tc : strsTup (.tuple xc) = strsG xc := rfl
      cases p9 : orNone quotesL j with
      | false => (rw [if_neg (by simp)]; exact fin_no (by simp [nineB, p9]))
      | true =>
      cases pS : sameD (.str xp) f with
      | true =>
        rw [pS] at as
        (rw [if_neg (by simp)]; exact fin_no (by simp [nineB, tc, as]))
      | false =>
      rw [if_pos (by rfl), exs_cons, ex_ret, last_apart _ τ xc xp f h st u3 u5 u6 u8 wl p3'.1 (fit_tuple fc).1 p6 p8]
      have fin : nineB a (.str kd') (.tuple xc) (.tuple xd) (.str xp) f g h j = ![PyData.str xp, f, h].any (inD (Txt.join "" (strsG xc))) := by
        unfold nineB
        rw [p1, p2, p3b, pB, p4, p5, show kindS (.str kd') = kd' from rfl, pE, tb, pK, p8, p9, tc, as, pS]; rfl
      rw [fin]; rfl
    · have h9 : ((xs.length : Int) == 9) = false := by rw [beq_eq_false_iff_ne]; omega
      simp only [fLawTongue, bLawTongue]
      rw [exs_guard false (by simp [tyOf, isT, h9]), if_neg (by simp), nine_len hl]
  rw [e, fin_ret]
end
end G
set_option Elab.async false
set_option linter.all false
set_option maxRecDepth 100000
/-! GGd: what is fit to be printed; lists; cells of a def's own -/
namespace G
open PySem PySem.Spec PyProof.Rows
theorem cut_from' {α : Type} (xs : List α) (i : Int) (h0 : 0 ≤ i) : cutL xs (some i) none = xs.drop i.toNat := by
  unfold cutL
  have : HT.sIx xs.length 0 (some i) = min i.toNat xs.length := by
    simp [HT.sIx, show ¬ i < 0 by omega]
  have h2 : HT.sIx xs.length xs.length none = xs.length := by simp [HT.sIx]
  rw [this, h2]
  rw [List.take_of_length_le (by simp)]
  by_cases h : i.toNat ≤ xs.length
  · rw [Nat.min_eq_left h]
  · rw [Nat.min_eq_right (by omega), List.drop_length, List.drop_eq_nil_of_le (by omega)]
/-- a list's items fit to be printed -/
def GoodL (s p : Nat) (xs : List PyData) : Prop := okBs xs = true ∧ szs xs ≤ s ∧ PyData.depthAll xs ≤ p
theorem GoodL.append {s s' p p' : Nat} {xs ys : List PyData} (h : GoodL s p xs) (h' : GoodL s' p' ys) : GoodL (s + s') (max p p') (xs ++ ys) := by
  obtain ⟨a, b, c⟩ := h
  obtain ⟨a', b', c'⟩ := h'
  exact ⟨by rw [okBs_append, a, a']; rfl, by rw [szs_append]; omega, by rw [depthAll_append]; omega⟩
theorem GoodL.parts {s p : Nat} {xs ys : List PyData} (h : GoodL s p (xs ++ ys)) : GoodL s p xs ∧ GoodL s p ys := by
  obtain ⟨a, b, c⟩ := h
  rw [okBs_append, Bool.and_eq_true] at a
  rw [szs_append] at b
  rw [depthAll_append] at c
  exact ⟨⟨a.1, by omega, by omega⟩, a.2, by omega, by omega⟩
theorem GoodL.take {s p : Nat} {xs : List PyData} (h : GoodL s p xs) (n : Nat) : GoodL s p (xs.take n) := by
  have e := List.take_append_drop n xs
  rw [← e] at h
  exact h.parts.1
theorem GoodL.drop {s p : Nat} {xs : List PyData} (h : GoodL s p xs) (n : Nat) : GoodL s p (xs.drop n) := by
  have e := List.take_append_drop n xs
  rw [← e] at h
  exact h.parts.2
theorem GoodL.one {s p : Nat} {x : PyData} (h : Good s p x) : GoodL (s + 2) p [x] := by
  obtain ⟨a, b, c⟩ := h
  exact ⟨by simp [okBs, a], by simp only [szs]; omega, by simp only [PyData.depthAll]; omega⟩
theorem GoodL.tup {s p : Nat} {xs : List PyData} (h : GoodL s p xs) : Good (s + 3) (p + 1) (.tuple xs) := by
  obtain ⟨a, b, c⟩ := h
  exact ⟨by simpa only [okB] using a, by simp only [sz]; omega, by simp only [PyData.depth]; omega⟩
theorem GoodL.lst {s p : Nat} {xs : List PyData} (h : GoodL s p xs) : Good (s + 3) (p + 1) (.list xs) := by
  obtain ⟨a, b, c⟩ := h
  exact ⟨by simpa only [okB] using a, by simp only [sz]; omega, by simp only [PyData.depth]; omega⟩
theorem Good.items {s p : Nat} {xs : List PyData} (h : Good s p (.tuple xs)) : GoodL s p xs := by
  obtain ⟨a, b, c⟩ := h
  simp only [sz] at b
  simp only [PyData.depth] at c
  exact ⟨by simpa only [okB] using a, by omega, by omega⟩
theorem okBs_rev : ∀ xs : List PyData, okBs xs.reverse = okBs xs
  | [] => rfl
  | x :: r => by rw [List.reverse_cons, okBs_append, okBs_rev r]; simp [okBs, Bool.and_comm]
theorem szs_rev : ∀ xs : List PyData, szs xs.reverse = szs xs
  | [] => rfl
  | x :: r => by rw [List.reverse_cons, szs_append, szs_rev r]; simp only [szs]; omega
theorem depthAll_rev : ∀ xs : List PyData, PyData.depthAll xs.reverse = PyData.depthAll xs
  | [] => rfl
  | x :: r => by rw [List.reverse_cons, depthAll_append, depthAll_rev r]; simp only [PyData.depthAll]; omega
theorem GoodL.rev {s p : Nat} {xs : List PyData} (h : GoodL s p xs) : GoodL s p xs.reverse := by
  obtain ⟨a, b, c⟩ := h
  exact ⟨by rw [okBs_rev]; exact a, by rw [szs_rev]; exact b, by rw [depthAll_rev]; exact c⟩
theorem add_list (xs ys : List PyData) (st : Store) (h : xs.length + ys.length ≤ 1000000) : oAdd (.d (.list xs)) (.d (.list ys)) st = some (.d (.list (xs ++ ys)), st) := by
  have e : oAdd (.d (.list xs)) (.d (.list ys)) st = (lsDat st (.d (.list xs))).bind fun xs => (lsDat st (.d (.list ys))).bind fun ys => guard' (xs.length + ys.length ≤ sizeLine) (some (.d (.list (xs ++ ys)), st)) := rfl
  rw [e, lsDat_list, lsDat_list]
  show guard' _ _ = _
  have := mill
  rw [guard_pos (by omega)]
theorem atI_in (xs : List PyData) (r : Int) (h0 : 0 ≤ r) (h : r.toNat < xs.length) : ∃ d, L2.atI xs r = some d ∧ d ∈ xs := by
  refine ⟨xs[r.toNat], ?_, List.getElem_mem h⟩
  unfold L2.atI L2.ixN
  rw [if_pos h0, if_pos (by omega)]
  simp [h]
theorem mkd_nil (st : Store) : mkDict false [] [] st = .ok (.d (.dict [])) st := by
  have e : zipKv [] [] = some [] := rfl
  unfold mkDict
  rw [e]
  dsimp only
  rw [if_pos (by decide +kernel), if_neg (by simp)]
  rfl
theorem goodL_all : ∀ {ys : List PyData} {c p : Nat}, (∀ y ∈ ys, Good c p y) → GoodL ((c + 2) * ys.length) p ys
  | [], c, p, _ => ⟨rfl, by simp [szs], by simp [PyData.depthAll]⟩
  | y :: r, c, p, h => by
    have h1 := goodL_all (ys := r) fun z hz => h z (List.mem_cons_of_mem _ hz)
    have h2 := (GoodL.one (h y List.mem_cons_self)).append h1
    obtain ⟨a, b, d⟩ := h2
    have e : szs ([y] ++ r) = szs (y :: r) := rfl
    have e2 : PyData.depthAll ([y] ++ r) = PyData.depthAll (y :: r) := rfl
    rw [e] at b
    rw [e2] at d
    refine ⟨a, ?_, by omega⟩
    rw [List.length_cons, Nat.mul_succ]
    omega
theorem GoodL.weaken {s s' p p' : Nat} {xs : List PyData} (h : GoodL s p xs) (hs : s ≤ s') (hp : p ≤ p') : GoodL s' p' xs := ⟨h.1, Nat.le_trans h.2.1 hs, Nat.le_trans h.2.2 hp⟩
theorem Chosen.good {Q : PyData → PyData → Prop} {xs ys : List PyData} {c p : Nat} (h : Chosen Q xs ys) (hq : ∀ x ∈ xs, ∀ y, Q x y → Good c p y) : GoodL ((c + 2) * xs.length) p ys := by
  have h1 : ∀ y ∈ ys, Good c p y := by
    induction h with
    | nil => intro y hy; cases hy
    | skip h ih => exact ih fun x hx => hq x (List.mem_cons_of_mem _ hx)
    | take q h ih =>
      intro y hy
      rcases List.mem_cons.mp hy with rfl | hy
      · exact hq _ List.mem_cons_self _ q
      · exact ih (fun x hx => hq x (List.mem_cons_of_mem _ hx)) y hy
  exact (goodL_all h1).weaken (Nat.mul_le_mul_left _ h.len) (Nat.le_refl _)
theorem szs_sub : ∀ {zs xs : List Str}, zs.Sublist xs → szs (zs.map PyData.str) ≤ szs (xs.map PyData.str)
  | _, _, .slnil => Nat.le_refl _
  | _, _, .cons x h => by have := szs_sub h; simp only [List.map_cons, szs]; omega
  | _, _, .cons₂ x h => by have := szs_sub h; simp only [List.map_cons, szs]; omega
theorem strs_good {zs xs : List Str} {s : Nat} (h : zs.Sublist xs) (ho : ∀ x ∈ xs, okB (.str x) = true) (hs : szs (xs.map PyData.str) ≤ s) : GoodL s 0 (zs.map PyData.str) := by
  refine ⟨?_, Nat.le_trans (szs_sub h) hs, ?_⟩
  · have h' : ∀ z ∈ zs, okB (.str z) = true := fun z hz => ho z (h.subset hz)
    clear h
    induction zs with
    | nil => rfl
    | cons z r ih => simp only [List.map_cons, okBs, h' z List.mem_cons_self, ih fun y hy => h' y (List.mem_cons_of_mem _ hy), Bool.and_self]
  · clear h
    induction zs with
    | nil => simp [PyData.depthAll]
    | cons z r ih => simp only [List.map_cons, PyData.depthAll, PyData.depth]; omega
def ltS (x y : Str) : Prop := x.cps.toList < y.cps.toList
instance (x y : Str) : Decidable (ltS x y) := by unfold ltS; infer_instance
theorem rising_of : ∀ {xs : List Str}, xs.Pairwise ltS → rising xs = true
  | [], _ => rfl
  | [_], _ => rfl
  | x :: y :: r, h => by
    rw [List.pairwise_cons] at h
    have h1 := rising_of h.2
    have h2 := h.1 y List.mem_cons_self
    simp only [rising, Bool.and_eq_true, decide_eq_true_eq]
    exact ⟨h2, h1⟩
theorem strsG_str (zs : List Str) : strsG (zs.map PyData.str) = zs := by
  induction zs with
  | nil => rfl
  | cons x r ih => simp [strsG, ih]
theorem Chosen.all {Q : PyData → PyData → Prop} {p : PyData → Bool} : ∀ {xs ys : List PyData}, Chosen Q xs ys → (∀ x ∈ xs, ∀ y, Q x y → p y = true) → ys.all p = true
  | _, _, .nil, _ => rfl
  | _, _, .skip h, hp => h.all fun x hx => hp x (List.mem_cons_of_mem _ hx)
  | _, _, .take q h, hp => by
    rw [List.all_cons, hp _ List.mem_cons_self _ q, h.all fun x hx => hp x (List.mem_cons_of_mem _ hx)]; rfl
theorem add_tup (xs ys : List PyData) (st : Store) (h : xs.length + ys.length ≤ 1000000) : oAdd (.d (.tuple xs)) (.d (.tuple ys)) st = some (.d (.tuple (xs ++ ys)), st) := by
  have := mill
  simp [oAdd, guard']
  try omega
theorem len_sz (xs : List PyData) (h : sz (.tuple xs) ≤ 1000000) : 2 * xs.length + 3 ≤ 1000000 := by
  have := szs_len xs
  simp only [sz] at h
  omega
theorem split_at {xs : List PyData} {j : Nat} {x : PyData} (h : xs[j]? = some x) : xs = xs.take j ++ x :: xs.drop (j + 1) := by
  obtain ⟨hj, e⟩ := List.getElem?_eq_some_iff.mp h
  rw [← e, List.getElem_cons_drop, List.take_append_drop]
/-! ### cells of a def's own -/
theorem cell_get (st : Store) (l : List Cell) (i : Nat) : (st ++ l)[st.length + i]? = l[i]? := by rw [List.getElem?_append_right (by omega)]; congr 1; omega
theorem cell_get0 (st : Store) (c : Cell) (l : List Cell) : (st ++ c :: l)[st.length]? = some c := by
  have := cell_get st (c :: l) 0
  simpa using this
theorem cell_set (st : Store) (l : List Cell) (i : Nat) (c : Cell) : (st ++ l).set (st.length + i) c = st ++ l.set i c := by
  rw [List.set_append_right _ _ (by omega)]; congr 2; omega
theorem cell_set0 (st : Store) (a c : Cell) (l : List Cell) : (st ++ a :: l).set st.length c = st ++ c :: l := by
  have := cell_set st (a :: l) 0 c
  simpa using this
theorem mk_cell (st : Store) (vs : List Val) (h : vs.length ≤ sizeLine) : mkList true vs st = .ok (.loc st.length) (st ++ [.lst vs]) := by
  unfold mkList; rw [if_pos h, if_pos rfl]
theorem app_at {st : Store} {n : Nat} {xs : List Val} (v : Val) (h : st[n]? = some (.lst xs)) (hl : xs.length < sizeLine) : meO .append (.loc n) [v] st = some (.d .none, st.set n (.lst (xs ++ [v]))) := by
  unfold meO; dsimp only; rw [h]; dsimp only; rw [guard_pos hl]; rfl
theorem recv_app {st : Store} {n : Nat} {xs : List Val} (h : st[n]? = some (.lst xs)) : recv .append st (.loc n) = true := by
  unfold recv meTy lsOf; dsimp only; rw [h]; rfl
theorem ext_at {st : Store} {n : Nat} {xs : List Val} {ys : List PyData} (h : st[n]? = some (.lst xs)) (hl : xs.length + ys.length ≤ sizeLine) : meO .extend (.loc n) [.d (.list ys)] st = some (.d .none, st.set n (.lst (xs ++ ys.map Val.d))) := by
  unfold meO lsOf; dsimp only; rw [h]; dsimp only; rw [guard_pos (by simpa using hl)]; rfl
theorem recv_ext {st : Store} {n : Nat} {xs : List Val} (h : st[n]? = some (.lst xs)) : recv .extend st (.loc n) = true := by
  unfold recv meTy lsOf; dsimp only; rw [h]; rfl
theorem leave_own (st : Store) (l : List Cell) (ok : Bool) (h : ok = true) : leaveS false st ok (st ++ l) = some st := by
  unfold leaveS
  by_cases hl : (st ++ l).length = st.length
  · rw [if_pos (.inr hl)]
    have : l = [] := by
      rw [List.length_append] at hl
      exact List.length_eq_zero_iff.mp (by omega)
    rw [this, List.append_nil]
  · rw [if_neg (by rintro (z | z)
                   · cases z
                   · exact hl z), if_pos ⟨h, .inl (by simp)⟩]
    simp
theorem fin_own (st : Store) (l : List Cell) (d : PyData) : finR false st (.ok (.ret (.d d)) (st ++ l)) = .ok (.d d) st := by
  show (match leaveS false st (valOk st.length (.d d)) (st ++ l) with | some st2 => R.ok (Val.d d) st2 | none => .no) = _
  rw [leave_own st l (valOk st.length (.d d)) rfl]
theorem frz_at {N : Env'} {i n : Nat} {ρ : Rho} {st : Store} {ds : List PyData} (hi : ρ[i]? = some (some (.loc n))) (h : st[n]? = some (.lst (ds.map Val.d))) : ev N (.frz (.var i)) ρ st = .ok (.d (.list ds)) (st.set n .dead) := by
  rw [ev_frz, ev_var, hi]
  show (R.ok (Val.loc n) st).bind _ = _
  rw [bind_okS]
  dsimp only
  rw [h]
  dsimp only
  rw [datas_map]
end G
set_option Elab.async false
set_option linter.all false
set_option maxRecDepth 100000
/-! GTm: signs and tongues that are drawn -/
namespace G
open PySem PySem.Spec PyProof.Rows
def bDrawSigns (pi oi : Nat) : Ss := (.cons (.par 2 3 (.comp false (.var 4) (.name 4) (.e (.cst (.str "!$&*+-./:<=>?@^|~"))) (.cons (.cmp .notin (.var 4) (.var 1)) .nil) [4]) (.dct true .nil)) (.cons (.for_ (.name 5) (.rng (.cons (.call pi (.cons (.var 0) (.cons (.cst (.int 4)) .nil))) .nil)) (.cons (.asg (.name 6) (.ite (.cmp .eq (.call pi (.cons (.var 0) (.cons (.cst (.int 2)) .nil))) (.cst (.int 0))) (.slice (.var 2) .no (.e (.cst (.int 2)))) (.var 2))) (.cons (.asg (.name 7) (.me .join (.cst (.str "")) (.cons (.comp false (.call oi (.cons (.var 0) (.cons (.var 6) .nil))) (.name 8) (.rng (.cons (.bin .add (.cst (.int 1)) (.call pi (.cons (.var 0) (.cons (.cst (.int 3)) .nil)))) .nil)) .nil [8]) .nil))) (.cons (.for_ (.name 9) (.rng (.cons (.cst (.int 1)) (.cons (.bin .add (.bi .len (.cons (.var 7) .nil)) (.cst (.int 1))) .nil))) (.cons (.asg (.sub (.var 3) (.slice (.var 7) .no (.e (.var 9)))) (.cst (.bool true))) .nil)) .nil)))) (.cons (.ret (.bi .tuple (.cons (.bi .sorted (.cons (.var 3) .nil)) .nil))) .nil)))
def fDrawSigns (pi oi : Nat) : Fn := ⟨2, 10, false, bDrawSigns pi oi⟩
def bDrawTongue (pi oi si : Nat) : Ss := (.cons (.asg (.name 1) (.me .join (.cst (.str "")) (.cons (.comp false (.call oi (.cons (.var 0) (.cons (.cst (.str "abnz")) .nil))) (.name 2) (.rng (.cons (.bin .add (.cst (.int 1)) (.call pi (.cons (.var 0) (.cons (.cst (.int 8)) .nil)))) .nil)) .nil [2]) .nil))) (.cons (.par3 3 4 5 (.call oi (.cons (.var 0) (.cons (.lst false (.cons (.cst (.str "ends")) (.cons (.cst (.str "lines")) .nil))) .nil))) (.call pi (.cons (.var 0) (.cons (.cst (.int 4)) .nil))) (.bin .add (.cst (.int 1)) (.call pi (.cons (.var 0) (.cons (.cst (.int 3)) .nil))))) (.cons (.par 6 7 (.ix (.cst (.str ",;:|")) (.var 4)) (.ite (.cmp .eq (.var 3) (.cst (.str "ends"))) (.ix (.cst (.str ",;:|")) (.bin .mod (.bin .add (.var 4) (.var 5)) (.cst (.int 4)))) (.cst .none))) (.cons (.par 8 9 (.call oi (.cons (.var 0) (.cons (.lst false (.cons (.cst (.str "#")) (.cons (.cst (.str "!")) (.cons (.cst (.str "@")) (.cons (.cst .none) .nil))))) .nil))) (.call oi (.cons (.var 0) (.cons (.lst false (.cons (.cst (.str "\"")) (.cons (.cst (.str "'")) (.cons (.cst .none) .nil)))) .nil)))) (.cons (.parn (.cons (.name 10) (.cons (.name 11) .nil)) (.cons (.bin .add (.cst (.int 1)) (.call pi (.cons (.var 0) (.cons (.cst (.int 7)) .nil)))) (.cons (.tup (.cons (.cst (.str "()")) (.cons (.cst (.str "[]")) (.cons (.cst (.str "{}")) .nil)))) .nil))) (.cons (.asg (.name 12) (.bi .tuple (.cons (.comp false (.var 13) (.tup (.cons (.name 2) (.cons (.name 13) .nil))) (.enum (.cons (.var 11) .nil)) (.cons (.cmp .eq (.bin .band (.bin .shr (.var 10) (.var 2)) (.cst (.int 1))) (.cst (.int 1))) .nil) [2, 13]) .nil))) (.cons (.asg (.name 14) (.call oi (.cons (.var 0) (.cons (.bin .add (.lst false (.cons (.cst .none) .nil)) (.bin .mul (.comp false (.var 13) (.name 13) (.e (.var 11)) (.cons (.cmp .notin (.var 13) (.var 12)) .nil) [13]) (.cst (.int 2)))) .nil)))) (.cons (.asg (.name 15) (.call si (.cons (.var 0) (.cons (.comp false (.var 16) (.name 16) (.e (.tup (.cons (.var 6) (.cons (.var 7) (.cons (.var 8) .nil))))) (.cons (.cmp .isnot (.var 16) (.cst .none)) .nil) [16]) .nil)))) (.cons (.ret (.tup (.cons (.var 1) (.cons (.var 3) (.cons (.var 15) (.cons (.var 12) (.cons (.var 6) (.cons (.var 7) (.cons (.var 14) (.cons (.var 8) (.cons (.var 9) .nil))))))))))) .nil)))))))))
def fDrawTongue (pi oi si : Nat) : Fn := ⟨1, 17, false, bDrawTongue pi oi si⟩

/-! ### things drawn one behind the other -/
theorem foldR_draw {f : Val → Store → R (Option Val)} {Q : PyData → Prop} : ∀ {xs : List Val}, (∀ x ∈ xs, ∀ ns seed rest, HandOk ns seed → ∃ (y : PyData) (ns' : List Int) (seed' : Int), f x (hs ns seed rest) = .ok (some (.d y)) (hs ns' seed' rest) ∧ HandOk ns' seed' ∧ Q y) →
    ∀ ns seed rest, HandOk ns seed → ∃ (ys : List PyData) (ns' : List Int) (seed' : Int), foldR f none xs (hs ns seed rest) = .ok (ys.map Val.d) (hs ns' seed' rest) ∧ HandOk ns' seed' ∧ ys.length = xs.length ∧ ∀ y ∈ ys, Q y
  | [], _, ns, seed, rest, h => ⟨[], ns, seed, rfl, h, rfl, fun y hy => by cases hy⟩
  | x :: xs, hf, ns, seed, rest, h => by
    obtain ⟨y, n1, s1, e1, h1, q1⟩ := hf x List.mem_cons_self ns seed rest h
    obtain ⟨ys, n2, s2, e2, h2, l2, q2⟩ := foldR_draw (xs := xs) (fun y hy => hf y (List.mem_cons_of_mem _ hy)) n1 s1 rest h1
    refine ⟨y :: ys, n2, s2, ?_, h2, by simp [l2], fun z hz => ?_⟩
    · have e : foldR f none (x :: xs) (hs ns seed rest) = (f x (hs ns seed rest)).bind fun o st1 => (foldR f none xs st1).bind fun ys st2 => .ok (o.toList ++ ys) st2 := rfl
      rw [e, e1, bind_okS, e2]; rfl
    · rcases List.mem_cons.mp hz with e | e
      · rw [e]; exact q1
      · exact q2 z e
/-- [e for x in it], e drawn -/
theorem comp_draw {N : Env'} {elt : E} {tg : Tg} {it : It} {own : List Nat} {ρ : Rho} {xs : List Val} {Q : PyData → Prop} (hl : xs.length ≤ 1000000)
    (hf : ∀ x ∈ xs, ∀ ns seed rest, HandOk ns seed → ∃ (y : PyData) (ns' : List Int) (seed' : Int), ((asg N tg x (wipeR ρ own) (hs ns seed rest)).bind fun ρ1 st3 => ev N elt ρ1 st3) = .ok (.d y) (hs ns' seed' rest) ∧ HandOk ns' seed' ∧ Q y)
    (ns0 : List Int) (seed0 : Int) (ns : List Int) (seed : Int) (rest : Store) (h : HandOk ns seed) (hi : evIt N it ρ (hs ns0 seed0 rest) = .ok (xs, none) (hs ns seed rest)) :
    ∃ (ys : List PyData) (ns' : List Int) (seed' : Int), ev N (.comp false elt tg it .nil own) ρ (hs ns0 seed0 rest) = .ok (.d (.list ys)) (hs ns' seed' rest) ∧ HandOk ns' seed' ∧ ys.length = xs.length ∧ ∀ y ∈ ys, Q y := by
  obtain ⟨ys, n1, s1, e1, h1, l1, q1⟩ := foldR_draw (f := fun x st2 => (asg N tg x (wipeR ρ own) st2).bind fun ρ1 st3 => (evTests N .nil ρ1 st3).bind fun b st4 => if b then (ev N elt ρ1 st4).bind fun y st5 => .ok (some y) st5 else .ok none st4) (Q := Q) (xs := xs) (fun x hx ns seed rest h => by
    obtain ⟨y, n2, s2, e, h2, q⟩ := hf x hx ns seed rest h
    refine ⟨y, n2, s2, ?_, h2, q⟩
    cases ea : asg N tg x (wipeR ρ own) (hs ns seed rest) with
    | no => rw [ea] at e; cases e
    | exc z s => rw [ea] at e; cases e
    | ok ρ1 st3 =>
      rw [ea] at e
      have e : ev N elt ρ1 st3 = .ok (.d y) (hs n2 s2 rest) := e
      simp [e]) ns seed rest h
  refine ⟨ys, n1, s1, ?_, h1, l1, q1⟩
  rw [ev, hi, bind_okS]
  dsimp only
  rw [e1, noExc_okS, bind_okS, mkList_data (by have := mill; omega)]
theorem hs_snoc (ns : List Int) (seed : Int) (rest : Store) (c : Cell) : hs ns seed rest ++ [c] = hs ns seed (rest ++ [c]) := rfl
theorem hs_len (ns : List Int) (seed : Int) (rest : Store) : (hs ns seed rest).length = rest.length + 2 := rfl
theorem hs_at (ns : List Int) (seed : Int) (rest : Store) (c : Cell) (l : List Cell) : (hs ns seed (rest ++ c :: l))[rest.length + 2]? = some c := by
  show (rest ++ c :: l)[rest.length]? = _
  exact cell_get0 rest c l
theorem hs_set (ns : List Int) (seed : Int) (rest : Store) (a c : Cell) (l : List Cell) : (hs ns seed (rest ++ a :: l)).set (rest.length + 2) c = hs ns seed (rest ++ c :: l) := by
  show _ :: _ :: (rest ++ a :: l).set rest.length c = _
  rw [cell_set0]; rfl
/-! ### a dict's keys -/
def kvT (ks : List Str) : List (PyData × Val) := ks.map fun x => (.str x, .d (.bool true))
def addK (ks : List Str) (x : Str) : List Str := if x ∈ ks then ks else ks ++ [x]
theorem merge_kvT (ks : List Str) (x : Str) : mergeD (kvT ks) [(.str x, .d (.bool true))] = kvT (addK ks x) := by
  have hany : (kvT ks).any (fun p => decide (p.1 = PyData.str x)) = decide (x ∈ ks) := by
    unfold kvT
    rw [List.any_map, Bool.eq_iff_iff, List.any_eq_true, decide_eq_true_eq]
    constructor
    · rintro ⟨y, h1, h2⟩
      have : PyData.str y = .str x := of_decide_eq_true h2
      cases this; exact h1
    · intro h; exact ⟨x, h, decide_eq_true rfl⟩
  unfold mergeD
  rw [hany]
  unfold mergeD addK
  by_cases h : x ∈ ks
  · rw [if_pos (decide_eq_true h), if_pos h]
    unfold kvT
    rw [List.map_map]
    apply List.map_congr_left
    intro y hy
    show (if PyData.str y = .str x then (PyData.str x, Val.d (.bool true)) else (PyData.str y, Val.d (.bool true))) = _
    split
    · rename_i e; rw [← e]
    · rfl
  · rw [if_neg (by simpa using h), if_neg h]
    unfold kvT
    rw [List.map_append]; rfl
theorem set_key {st : Store} {n : Nat} {ks : List Str} (x : Str) (h : st[n]? = some (.dct (kvT ks))) (hl : ks.length < 1000) : setO (.loc n) (.d (.str x)) (.d (.bool true)) st = some (st.set n (.dct (kvT (addK ks x)))) := by
  unfold setO
  dsimp only
  rw [h]
  dsimp only
  rw [if_pos ⟨rfl, by unfold kvT; rw [List.length_map]; have := mill; omega⟩, merge_kvT]; rfl
theorem keys_kvT (ks : List Str) : strsOf ((kvT ks).map (·.1)) = some ks := by
  have : (kvT ks).map (·.1) = ks.map PyData.str := by unfold kvT; rw [List.map_map]; rfl
  rw [this, strsOf_map]
/-- signs that may be drawn: kept closed under beginnings -/
structure SgInv (pool : List Nat) (ks : List Str) : Prop where
  nd : ks.Nodup
  len : ∀ x ∈ ks, 1 ≤ x.length ∧ x.length ≤ 3
  pool : ∀ x ∈ ks, ∀ c ∈ x.cps.toList, c ∈ pool
  shut : ∀ x ∈ ks, x.length = 1 ∨ butLast x ∈ ks
theorem SgInv.add {pool : List Nat} {ks : List Str} (h : SgInv pool ks) {x : Str} (h1 : 1 ≤ x.length ∧ x.length ≤ 3) (h2 : ∀ c ∈ x.cps.toList, c ∈ pool) (h3 : x.length = 1 ∨ butLast x ∈ ks) : SgInv pool (addK ks x) ∧ x ∈ addK ks x ∧ (∀ y ∈ ks, y ∈ addK ks x) ∧ (addK ks x).length ≤ ks.length + 1 := by
  unfold addK
  by_cases hx : x ∈ ks
  · rw [if_pos hx]; exact ⟨h, hx, fun _ q => q, by omega⟩
  · rw [if_neg hx]
    have key : ∀ {p : Str → Prop}, (∀ y ∈ ks, p y) → p x → ∀ y ∈ ks ++ [x], p y := fun h h' y hy => by
      rcases List.mem_append.mp hy with e | e
      · exact h y e
      · rw [List.mem_singleton.mp e]; exact h'
    refine ⟨⟨?_, key h.len h1, key h.pool h2, key (fun y hy => (h.shut y hy).imp id fun z => List.mem_append_left _ z) (h3.imp id fun z => List.mem_append_left _ z)⟩, by simp, fun y hy => List.mem_append_left _ hy, by simp⟩
    rw [List.nodup_append]
    refine ⟨h.nd, by simp, fun a ha b hb e => ?_⟩
    rw [List.mem_singleton.mp hb] at e
    exact hx (e ▸ ha)
end G
set_option Elab.async false
set_option linter.all false
set_option maxRecDepth 100000
set_option maxHeartbeats 1000000
/-! GTn: signs that are drawn -/
namespace G
open PySem PySem.Spec PyProof.Rows
def poolC (bs : List Str) : List Nat := signs.cps.toList.filter fun c => !(bs.any fun z => z == ⟨#[c]⟩)
def chD (cs : List Nat) : List PyData := cs.map fun c => PyData.str ⟨#[c]⟩
theorem pool_fm (bs : List Str) (cs : List Nat) : (chD cs).filterMap (fun d => match d with | .str x => if bs.any (fun z => z == x) then none else some (PyData.str x) | _ => none) = chD (cs.filter fun c => !(bs.any fun z => z == ⟨#[c]⟩)) := by
  induction cs with
  | nil => rfl
  | cons c r ih =>
    unfold chD at ih ⊢
    rw [List.map_cons, List.filterMap_cons, List.filter_cons]
    cases q : bs.any (fun z => z == (⟨#[c]⟩ : Str)) with
    | true => simp only [q, if_true, Bool.not_true, Bool.false_eq_true, if_false]; exact ih
    | false => simp only [q, Bool.false_eq_true, if_false, Bool.not_false, if_true, List.map_cons]; rw [ih]
theorem rngO_1 {j : Int} (h : small62 j) : rngO [.d (.int j)] = some (rng 0 j.toNat 1, none) := by unfold rngO; dsimp only; rw [if_pos h]
theorem rngO_2 {i j : Int} (h : small62 i) (h' : small62 j) : rngO [.d (.int i), .d (.int j)] = some (rng i (j - i).toNat 1, none) := by unfold rngO; dsimp only; rw [if_pos ⟨h, h'⟩]
theorem small_of {j : Int} (h : -1000000000 ≤ j) (h' : j ≤ 1000000000) : small62 j := ⟨by omega, by omega⟩
theorem rng_get {lo : Int} {n i : Nat} {x : Val} (h : (rng lo n 1)[i]? = some x) : i < n ∧ x = .d (.int (lo + (i : Nat))) := by
  unfold rng at h
  rw [List.getElem?_map] at h
  by_cases hi : i < n
  · rw [List.getElem?_range hi] at h
    have this : x = .d (.int (lo + (i : Nat) * 1)) := (Option.some.inj h).symm
    rw [Int.mul_one] at this
    exact ⟨hi, this⟩
  · rw [List.getElem?_eq_none (by simpa using hi)] at h; cases h
theorem rng_size {lo : Int} {n : Nat} : (rng lo n 1).length = n := by unfold rng; simp
theorem pool_ne {bs : List Str} (h : ∀ b ∈ bs, b ≠ ⟨#[36]⟩) : 36 ∈ poolC bs := by
  refine List.mem_filter.mpr ⟨by decide, ?_⟩
  rw [Bool.not_eq_true', List.any_eq_false]
  intro z hz q
  exact h z hz (eq_of_beq q)
theorem pool_len (bs : List Str) : (poolC bs).length ≤ 17 := Nat.le_trans (List.length_filter_le _ _) (by decide)
abbrev sBody1 : Ss := .cons (.asg (.sub (.var 3) (.slice (.var 7) .no (.e (.var 9)))) (.cst (.bool true))) .nil
abbrev sBody (pi oi : Nat) : Ss := (.cons (.asg (.name 6) (.ite (.cmp .eq (.call pi (.cons (.var 0) (.cons (.cst (.int 2)) .nil))) (.cst (.int 0))) (.slice (.var 2) .no (.e (.cst (.int 2)))) (.var 2))) (.cons (.asg (.name 7) (.me .join (.cst (.str "")) (.cons (.comp false (.call oi (.cons (.var 0) (.cons (.var 6) .nil))) (.name 8) (.rng (.cons (.bin .add (.cst (.int 1)) (.call pi (.cons (.var 0) (.cons (.cst (.int 3)) .nil)))) .nil)) .nil [8]) .nil))) (.cons (.for_ (.name 9) (.rng (.cons (.cst (.int 1)) (.cons (.bin .add (.bi .len (.cons (.var 7) .nil)) (.cst (.int 1))) .nil))) sBody1) .nil)))
abbrev sIs (pool : List Nat) (bs : List Str) (rest : Store) (ρ : Rho) (st : Store) (ns : List Int) (seed : Int) (ks : List Str) (v4 v5 v6 v7 v8 v9 : Option Val) : Prop :=
  ρ = [some (.loc 1), some (.d (.list (bs.map PyData.str))), some (.d (.list (chD pool))), some (.loc (rest.length + 2)), v4, v5, v6, v7, v8, v9] ∧ st = hs ns seed (rest ++ [.dct (kvT ks)])
theorem cps_len (x : Str) : x.cps.toList.length = x.length := Array.length_toList
/-- the beginnings of a text, all put -/
theorem puts (N : Env') (pool : List Nat) (bs : List Str) (rest : Store) (ns : List Int) (seed : Int) (T : Str) (hT : 1 ≤ T.length ∧ T.length ≤ 3) (hp : ∀ c ∈ T.cps.toList, c ∈ pool) (ks : List Str) (h : SgInv pool ks) (hl : ks.length ≤ 100) (v4 v5 v6 v8 v9 : Option Val) :
    ∃ ρ' ks' w, forL (fun x ρ1 st2 => (asg N (.name 9) x ρ1 st2).noExc.bind fun ρ2 st3 => exs N sBody1 ρ2 st3) none (rng 1 T.length 1) [some (.loc 1), some (.d (.list (bs.map PyData.str))), some (.d (.list (chD pool))), some (.loc (rest.length + 2)), v4, v5, v6, some (.d (.str T)), v8, v9] (hs ns seed (rest ++ [.dct (kvT ks)])) = .ok (.next ρ') (hs ns seed (rest ++ [.dct (kvT ks')])) ∧
      ρ' = [some (.loc 1), some (.d (.list (bs.map PyData.str))), some (.d (.list (chD pool))), some (.loc (rest.length + 2)), v4, v5, v6, some (.d (.str T)), v8, w] ∧ SgInv pool ks' ∧ ks'.length ≤ ks.length + 3 := by
  let I : Nat → Rho → Store → Prop := fun i ρ st => ∃ ks' w, ρ = [some (.loc 1), some (.d (.list (bs.map PyData.str))), some (.d (.list (chD pool))), some (.loc (rest.length + 2)), v4, v5, v6, some (.d (.str T)), v8, w] ∧ st = hs ns seed (rest ++ [.dct (kvT ks')]) ∧ SgInv pool ks' ∧ ks'.length ≤ ks.length + i ∧ (i = 0 ∨ takeS i T ∈ ks')
  obtain ⟨ρ', st', e, ks', w, rfl, rfl, h1, h2, _⟩ := forL_inv (f := fun x ρ1 st2 => (asg N (.name 9) x ρ1 st2).noExc.bind fun ρ2 st3 => exs N sBody1 ρ2 st3) (g := none) (I := I) (xs := rng 1 T.length 1) 0 ⟨ks, v9, rfl, rfl, h, by omega, .inl rfl⟩ (fun _ _ _ _ => trivial) (fun i x ρ st hx hI => by
    rw [Nat.zero_add] at hI ⊢
    obtain ⟨ks', w, rfl, rfl, g1, g2, g3⟩ := hI
    have hx' := rng_get hx
    obtain ⟨hi, rfl⟩ := hx'
    have hTl : T.length ≤ sizeLine := by have := mill; omega
    have sl := slice_to T (1 + (i : Nat)) (by omega) (hs ns seed (rest ++ [.dct (kvT ks')])) hTl
    have en : ((1 : Int) + (i : Nat)).toNat = i + 1 := by omega
    rw [en] at sl
    have sk := set_key (takeS (i + 1) T) (hs_at ns seed rest (.dct (kvT ks')) []) (show ks'.length < 1000 by omega)
    rw [hs_set] at sk
    have ad := g1.add (x := takeS (i + 1) T) (by rw [takeS_len]; omega) (fun c hc => hp c (List.take_subset _ _ (by simpa [takeS] using hc))) (by
      rcases g3 with z | z
      · left; rw [takeS_len]; omega
      · right
        rw [butLast_take, takeS_len, show min (i + 1) T.length - 1 = i by omega, takeS_take (by omega)]; exact z)
    refine ⟨_, _, .inl ?_, addK ks' (takeS (i + 1) T), some (.d (.int (1 + (i : Nat)))), rfl, rfl, ad.1, by omega, .inr ad.2.1⟩
    simp [sl, sk])
  exact ⟨_, ks', w, e, rfl, h1, by rw [rng_size] at h2; omega⟩
/-- some of the pool -/
theorem sSome {P : Prg} {pi : Nat} (hP : P.fns[pi]? = some fPick) (k : Nat) (bs : List Str) (hb : ∀ b ∈ bs, b ≠ ⟨#[36]⟩) (rest : Store) (ns : List Int) (seed : Int) (hk : HandOk ns seed) (v3 v4 v5 v6 v7 v8 v9 : Option Val) : ∃ n1 s1 cs, HandOk n1 s1 ∧ cs ≠ [] ∧ cs.length ≤ 17 ∧ (∀ c ∈ cs, c ∈ poolC bs) ∧
    ex (P.env (k + 1)) (.asg (.name 6) (.ite (.cmp .eq (.call pi (.cons (.var 0) (.cons (.cst (.int 2)) .nil))) (.cst (.int 0))) (.slice (.var 2) .no (.e (.cst (.int 2)))) (.var 2))) [some (.loc 1), some (.d (.list (bs.map PyData.str))), some (.d (.list (chD (poolC bs)))), v3, v4, v5, v6, v7, v8, v9] (hs ns seed rest) =
      .ok (.next [some (.loc 1), some (.d (.list (bs.map PyData.str))), some (.d (.list (chD (poolC bs)))), v3, v4, v5, some (.d (.list (chD cs))), v7, v8, v9]) (hs n1 s1 rest) := by
  have hpl := pool_len bs
  have hpn : poolC bs ≠ [] := fun z => by have := pool_ne hb; rw [z] at this; cases this
  obtain ⟨d1, n1, s1, e1, h1, r1, rfl, a1, b1⟩ := pickD hP k 2 (by decide) (by decide) ns seed rest hk
  have c2 : cutL (chD (poolC bs)) none (some 2) = chD ((poolC bs).take 2) := by
    rw [cut_to' _ 2 (by decide)]; unfold chD; rw [List.map_take]; rfl
  cases q : (r1 == 0) with
  | true =>
    refine ⟨n1, s1, (poolC bs).take 2, h1, ?_, ?_, fun c hc => List.take_subset _ _ hc, ?_⟩
    · cases e : poolC bs with
      | nil => exact absurd e hpn
      | cons x r => simp
    · rw [List.length_take]; omega
    · simp [e1, q, c2]
  | false => exact ⟨n1, s1, poolC bs, h1, hpn, hpl, fun c hc => hc, by simp [e1, q]⟩
theorem chD_strs (cs : List Nat) : chD cs = (cs.map fun c => (⟨#[c]⟩ : Str)).map PyData.str := by unfold chD; rw [List.map_map]; rfl
def glue (cs : List Nat) : Str := ⟨cs.toArray⟩
theorem join_ones (cs : List Nat) : Txt.join "" (cs.map fun c => (⟨#[c]⟩ : Str)) = glue cs := by
  apply str_eq
  rw [join_cps, List.map_map]
  show _ = cs
  induction cs with
  | nil => rfl
  | cons c r ih => simp only [List.map_cons, List.flatten_cons, ih]; rfl
theorem join_chD (cs : List Nat) (st : Store) (h : cs.length ≤ 1000000) : meO .join (.d (.str "")) [.d (.list (chD cs))] st = some (.d (.str (glue cs)), st) := by
  show (sqDat _ (.d (.list (chD cs)))).bind _ = _
  rw [sqDat_list]
  show (strsOf (chD cs)).bind _ = _
  rw [chD_strs, strsOf_map]
  show guard' _ _ = _
  have hz : (Str.ofString "").length = 0 := rfl
  have hsum : ((cs.map fun c => (⟨#[c]⟩ : Str)).map (·.length)).sum = cs.length := by
    rw [← join_len, join_ones]; rfl
  rw [guard_pos (by rw [hsum, hz]; omega), join_ones]; rfl
/-- signs drawn of some, side by side; n0: how many at most -/
theorem sText {P : Prg} {pi oi : Nat} (hP : P.fns[pi]? = some fPick) (hO : P.fns[oi]? = some (fOf pi)) (k : Nat) (many : Int) (hm : 0 < many) (hm2 : many ≤ 1000) (ei : E) (j : Nat) (v : Val) (ρ : Rho) (hρ : ρ[0]? = some (some (.loc 1))) (hj : j < ρ.length) (j0 : j ≠ 0) (cs : List Nat)
    (hx : ∀ w st, ev (P.env (k + 2)) ei (ρ.set j w) st = .ok v st) (hv : Drawn (phi P (k + 2) oi [.loc 1, v]) fun d => ∃ c ∈ cs, d = .str ⟨#[c]⟩) (rest : Store) (ns : List Int) (seed : Int) (hk : HandOk ns seed) :
    ∃ T n1 s1, ev (P.env (k + 2)) (.me .join (.cst (.str "")) (.cons (.comp false (.call oi (.cons (.var 0) (.cons ei .nil))) (.name j) (.rng (.cons (.bin .add (.cst (.int 1)) (.call pi (.cons (.var 0) (.cons (.cst (.int many)) .nil)))) .nil)) .nil [j]) .nil)) ρ (hs ns seed rest) = .ok (.d (.str (glue T))) (hs n1 s1 rest) ∧ HandOk n1 s1 ∧ 1 ≤ T.length ∧ (T.length : Int) ≤ many ∧ ∀ c ∈ T, c ∈ cs := by
  obtain ⟨d2, n2, s2, e2, h2, r2, rfl, a2, b2⟩ := pickD hP (k + 1) many hm (by omega) ns seed rest hk
  obtain ⟨ys, n3, s3', e3, h3, l3, q3⟩ := comp_draw (N := P.env (k + 2)) (elt := .call oi (.cons (.var 0) (.cons ei .nil))) (tg := .name j) (it := .rng (.cons (.bin .add (.cst (.int 1)) (.call pi (.cons (.var 0) (.cons (.cst (.int many)) .nil)))) .nil)) (own := [j])
    (ρ := ρ) (xs := rng 0 (1 + r2).toNat 1) (Q := fun d => ∃ c ∈ cs, d = .str ⟨#[c]⟩) (by rw [rng_size]; omega) (fun x hx' ns seed rest' hk => by
      obtain ⟨d, n4, s4, e4, h4, m4⟩ := hv ns seed rest' hk
      refine ⟨d, n4, s4, ?_, h4, m4⟩
      have hx2 := hx (some x)
      have h0 : ((ρ.set j none).set j (some x))[0]? = some (some (.loc 1)) := by
        rw [List.getElem?_set_ne (by omega), List.getElem?_set_ne (by omega)]; exact hρ
      simp only [wipeR_cons, wipeR_nil, asg_name, List.length_set]
      rw [if_pos hj, bind_okS]
      rw [List.set_set] at h0 ⊢
      simp [h0, hx2, e4]) ns seed n2 s2 rest h2 (by
      have hr := rngO_1 (j := 1 + r2) (small_of (by omega) (by omega))
      simp [e2, hr, hρ])
  have len3 : ys.length = (1 + r2).toNat := by rw [l3, rng_size]
  obtain ⟨T, rfl, hT⟩ : ∃ T : List Nat, ys = chD T ∧ ∀ c ∈ T, c ∈ cs := by
    clear l3 len3 e3
    induction ys with
    | nil => exact ⟨[], rfl, fun c hc => by cases hc⟩
    | cons y r ih =>
      obtain ⟨c, hc, rfl⟩ := q3 _ List.mem_cons_self
      obtain ⟨T, rfl, hT⟩ := ih fun z hz => q3 z (List.mem_cons_of_mem _ hz)
      refine ⟨c :: T, rfl, fun z hz => ?_⟩
      rcases List.mem_cons.mp hz with e | e
      · rw [e]; exact hc
      · exact hT z e
  have len3' : T.length = (1 + r2).toNat := by unfold chD at len3; rw [List.length_map] at len3; exact len3
  refine ⟨T, n3, s3', ?_, h3, by omega, by omega, hT⟩
  have hj' := join_chD T (hs n3 s3' rest) (by omega)
  have hr : recv .join (hs ns seed rest) (.d (.str "")) = true := rfl
  simp [hr, e3, hj']
theorem ev_at {N : Env'} {ρ : Rho} {i : Nat} {v : Val} {st : Store} (h : ρ[i]? = some (some v)) : ev N (.var i) ρ st = .ok v st := by
  rw [ev_var, h]
theorem ev_len_s {N : Env'} {ρ : Rho} {e : E} {x : Str} {st : Store} (h : ev N e ρ st = .ok (.d (.str x)) st) (hTl : x.length ≤ sizeLine) : ev N (.bi .len (.cons e .nil)) ρ st = .ok (.d (.int x.length)) st := by
  rw [ev_bi, evs_cons, h, bind_okS, evs_nil, bind_okS, bind_okS, bi_len_str, guard_pos hTl]; rfl
theorem ev_plus1 {N : Env'} {ρ : Rho} {e : E} {n : Int} {st : Store} (h : ev N e ρ st = .ok (.d (.int n)) st) : ev N (.bin .add e (.cst (.int 1))) ρ st = .ok (.d (.int (n + 1))) st := by
  rw [ev_bin, h, bind_okS, ev_cst, bind_okS, binO_add, oAdd_int]; rfl
theorem it_rng2 {N : Env'} {ρ : Rho} {a b : E} {i j : Int} {st : Store} (ha : ev N a ρ st = .ok (.d (.int i)) st) (hb : ev N b ρ st = .ok (.d (.int j)) st) (hi : small62 i) (hj : small62 j) : evIt N (.rng (.cons a (.cons b .nil))) ρ st = .ok (rng i (j - i).toNat 1, none) st := by
  rw [evIt_rng, evs_cons, ha, bind_okS, evs_cons, hb, bind_okS, evs_nil, bind_okS, bind_okS, bind_okS, rngO_2 hi hj, ofOpt_someS]
theorem it_rng1 {N : Env'} {ρ : Rho} {b : E} {j : Int} {st st1 : Store} (hb : ev N b ρ st = .ok (.d (.int j)) st1) (hj : small62 j) : evIt N (.rng (.cons b .nil)) ρ st = .ok (rng 0 j.toNat 1, none) st1 := by
  rw [evIt_rng, evs_cons, hb, bind_okS, evs_nil, bind_okS, bind_okS, rngO_1 hj, ofOpt_someS]
theorem sizes_it (N : Env') (ρ : Rho) (x : Str) (st : Store) (h : ρ[7]? = some (some (.d (.str x)))) (hx : x.length ≤ 3) : evIt N (.rng (.cons (.cst (.int 1)) (.cons (.bin .add (.bi .len (.cons (.var 7) .nil)) (.cst (.int 1))) .nil))) ρ st = .ok (rng 1 x.length 1, none) st := by
  have q := it_rng2 (i := 1) (ev_cst N ρ st (.int 1)) (ev_plus1 (ev_len_s (ev_at (N := N) (st := st) h) (Nat.le_trans hx s3.1))) (small_of (by omega) (by omega)) (small_of (by omega) (by omega))
  rw [show ((x.length : Int) + 1 - 1).toNat = x.length by omega] at q
  exact q
/-- one text more -/
theorem sTurn {P : Prg} {pi oi : Nat} (hP : P.fns[pi]? = some fPick) (hO : P.fns[oi]? = some (fOf pi)) (k : Nat) (bs : List Str) (hb : ∀ b ∈ bs, b ≠ ⟨#[36]⟩) (rest : Store) (ns : List Int) (seed : Int) (hk : HandOk ns seed) (ks : List Str) (h : SgInv (poolC bs) ks) (hl : ks.length ≤ 50) (v4 v5 v6 v7 v8 v9 : Option Val) :
    ∃ ns' seed' ks' w6 w7 w8 w9, exs (P.env (k + 2)) (sBody pi oi) [some (.loc 1), some (.d (.list (bs.map PyData.str))), some (.d (.list (chD (poolC bs)))), some (.loc (rest.length + 2)), v4, v5, v6, v7, v8, v9] (hs ns seed (rest ++ [.dct (kvT ks)])) =
      .ok (.next [some (.loc 1), some (.d (.list (bs.map PyData.str))), some (.d (.list (chD (poolC bs)))), some (.loc (rest.length + 2)), v4, v5, w6, w7, w8, w9]) (hs ns' seed' (rest ++ [.dct (kvT ks')])) ∧ HandOk ns' seed' ∧ SgInv (poolC bs) ks' ∧ ks'.length ≤ ks.length + 3 := by
  obtain ⟨n1, s1, cs, h1, c1, c2, c3, st1⟩ := sSome hP (k + 1) bs hb (rest ++ [.dct (kvT ks)]) ns seed hk (some (.loc (rest.length + 2))) v4 v5 v6 v7 v8 v9
  rw [exs_next st1]
  have hv : Drawn (phi P (k + 2) oi [.loc 1, .d (.list (chD cs))]) fun d => ∃ c ∈ cs, d = .str ⟨#[c]⟩ := fun ns seed rest hk => by
    obtain ⟨d, n4, s4, e4, h4, m4⟩ := ofD hP hO k (chD cs) (by unfold chD; simpa using c1) (by unfold chD; rw [List.length_map]; omega) ns seed rest hk
    obtain ⟨c, hc, rfl⟩ := List.mem_map.mp m4
    exact ⟨_, n4, s4, e4, h4, c, hc, rfl⟩
  obtain ⟨T, n3, s3', e3, h3, T1, T2, T3⟩ := sText hP hO k 3 (by decide) (by decide) (.var 6) 8 (.d (.list (chD cs))) [some (.loc 1), some (.d (.list (bs.map PyData.str))), some (.d (.list (chD (poolC bs)))), some (.loc (rest.length + 2)), v4, v5, some (.d (.list (chD cs))), v7, v8, v9] rfl (by simp) (by decide) cs (fun w st => by simp) hv (rest ++ [.dct (kvT ks)]) n1 s1 h1
  have st2 : ex (P.env (k + 2)) (.asg (.name 7) (.me .join (.cst (.str "")) (.cons (.comp false (.call oi (.cons (.var 0) (.cons (.var 6) .nil))) (.name 8) (.rng (.cons (.bin .add (.cst (.int 1)) (.call pi (.cons (.var 0) (.cons (.cst (.int 3)) .nil)))) .nil)) .nil [8]) .nil)))
      [some (.loc 1), some (.d (.list (bs.map PyData.str))), some (.d (.list (chD (poolC bs)))), some (.loc (rest.length + 2)), v4, v5, some (.d (.list (chD cs))), v7, v8, v9] (hs n1 s1 (rest ++ [.dct (kvT ks)])) =
      .ok (.next [some (.loc 1), some (.d (.list (bs.map PyData.str))), some (.d (.list (chD (poolC bs)))), some (.loc (rest.length + 2)), v4, v5, some (.d (.list (chD cs))), some (.d (.str (glue T))), v8, v9]) (hs n3 s3' (rest ++ [.dct (kvT ks)])) := by
    rw [ex_asg, e3, cat_okS, asg_name, if_pos (by simp), noExc_okS, bind_okS]; rfl
  rw [exs_next st2]
  have Tl : (glue T).length = T.length := rfl
  have hT : 1 ≤ (glue T).length ∧ (glue T).length ≤ 3 := by rw [Tl]; omega
  obtain ⟨ρ', ks', w9, e5, rfl, g1, g2⟩ := puts (P.env (k + 2)) (poolC bs) bs rest n3 s3' (glue T) hT (fun c hc => c3 c (T3 c hc)) ks h (by omega) v4 v5 (some (.d (.list (chD cs)))) v8 v9
  have st3 := ex_for (P.env (k + 2)) [some (.loc 1), some (.d (.list (bs.map PyData.str))), some (.d (.list (chD (poolC bs)))), some (.loc (rest.length + 2)), v4, v5, some (.d (.list (chD cs))), some (.d (.str (glue T))), v8, v9] (hs n3 s3' (rest ++ [.dct (kvT ks)])) (.name 9) (.rng (.cons (.cst (.int 1)) (.cons (.bin .add (.bi .len (.cons (.var 7) .nil)) (.cst (.int 1))) .nil))) sBody1
  have hi := sizes_it (P.env (k + 2)) [some (.loc 1), some (.d (.list (bs.map PyData.str))), some (.d (.list (chD (poolC bs)))), some (.loc (rest.length + 2)), v4, v5, some (.d (.list (chD cs))), some (.d (.str (glue T))), v8, v9] (glue T) (hs n3 s3' (rest ++ [.dct (kvT ks)])) rfl hT.2
  rw [hi, cat_okS] at st3
  dsimp only at st3
  rw [e5] at st3
  rw [exs_next st3, exs_nil]
  exact ⟨n3, s3', ks', _, _, _, _, rfl, h3, g1, g2⟩
end G
set_option Elab.async false
set_option linter.all false
set_option maxRecDepth 100000
set_option maxHeartbeats 1000000
/-! GTo: signs that are drawn, whole -/
namespace G
open PySem PySem.Spec PyProof.Rows
def RestOk (rest : Store) : Prop := rest.all (cellOk (rest.length + 2)) = true
theorem fin_hs3 (v : PyData) (a b : List Int) (c d : Int) (rest more : Store) (hr : RestOk rest) {e : R Fl} (h : e = .ok (.ret (.d v)) (hs b d (rest ++ more))) : finR false (hs a c rest) e = .ok (.d v) (hs b d rest) := by
  rw [h]
  show (match leaveS false (hs a c rest) (valOk (hs a c rest).length (.d v)) (hs b d (rest ++ more)) with | some st2 => R.ok (Val.d v) st2 | none => .no) = _
  have ht : (hs b d (rest ++ more)).take (hs a c rest).length = hs b d rest := by
    have : (hs a c rest).length = (hs b d rest).length := rfl
    rw [this]
    show (hs b d rest ++ more).take (hs b d rest).length = _
    rw [List.take_left']; rfl
  have : leaveS false (hs a c rest) (valOk (hs a c rest).length (.d v)) (hs b d (rest ++ more)) = some (hs b d rest) := by
    unfold leaveS
    rw [ht]
    by_cases q : (hs b d (rest ++ more)).length = (hs a c rest).length
    · rw [if_pos (.inr q)]
      have : more = [] := by simpa [hs] using q
      rw [this, List.append_nil]
    · have z : (hs b d rest).all (cellOk (hs a c rest).length) = true := by
        show ((Cell.lst (b.map fun i => Val.d (.int i))) :: .lst [.loc 0, .d (.int d)] :: rest).all (cellOk (rest.length + 2)) = true
        unfold RestOk at hr
        rw [List.all_cons, List.all_cons, hr]
        simp [cellOk, valOk]
      rw [if_neg (by simp [q]), if_pos ⟨rfl, .inr z⟩]
  rw [this]
def DrawnC (run : Store → R Val) (P : PyData → Prop) : Prop := ∀ ns seed rest, HandOk ns seed → RestOk rest → ∃ d ns' seed', run (hs ns seed rest) = .ok (.d d) (hs ns' seed' rest) ∧ HandOk ns' seed' ∧ P d
theorem bi_sorted_dct {st : Store} {n : Nat} {ks : List Str} (h : st[n]? = some (.dct (kvT ks))) (hl : ks.length < 64) : biO .sorted [.loc n] st = some (.d (.list ((sortS ks).map PyData.str)), st) := by
  have t : tyOf st (.loc n) = some .dict := by unfold tyOf; dsimp only; rw [h]
  have d : dcOf st (.loc n) = some (kvT ks) := by unfold dcOf; dsimp only; rw [h]
  have e : biO .sorted [.loc n] st = (match tyOf st (.loc n) with
      | some .dict => (dcOf st (.loc n)).bind fun kvs => (strsOf (kvs.map (·.1))).bind fun xs => guard' (xs.length < 64) (dat st (.list ((sortS xs).map PyData.str)))
      | _ => (lsDat st (.loc n)).bind fun ds => match intsOf ds with
        | some ns => dat st (.list ((sortI ns).map PyData.int))
        | none => (strsOf ds).bind fun xs => guard' (xs.length < 64) (dat st (.list ((sortS xs).map PyData.str)))) := rfl
  rw [e, t]
  dsimp only
  rw [d, Option.bind_some, keys_kvT, Option.bind_some, guard_pos hl]; rfl
theorem sortS_mem {ks : List Str} {x : Str} : x ∈ sortS ks ↔ x ∈ ks := (sortS_perm ks).mem_iff
theorem sortS_lt {ks : List Str} (h : ks.Nodup) : (sortS ks).Pairwise ltS := by
  have n : (sortS ks).Nodup := (sortS_perm ks).nodup_iff.mpr h
  have p := sortS_pair ks
  refine List.Pairwise.imp₂ (R := fun a b => leS a b = true) (S := fun a b => a ≠ b) (fun a b h1 h2 => ?_) p n
  show a.cps.toList < b.cps.toList
  rw [leS_iff] at h1
  rcases List.le_iff_lt_or_eq.mp h1 with z | z
  · exact z
  · exact absurd (str_eq z) h2
theorem SgInv.sort {pool : List Nat} {ks : List Str} (h : SgInv pool ks) : SgInv pool (sortS ks) where
  nd := (sortS_perm ks).nodup_iff.mpr h.nd
  len := fun x hx => h.len x (sortS_mem.mp hx)
  pool := fun x hx => h.pool x (sortS_mem.mp hx)
  shut := fun x hx => (h.shut x (sortS_mem.mp hx)).imp id fun z => sortS_mem.mpr z
theorem SgInv.nil {pool : List Nat} : SgInv pool [] := ⟨List.nodup_nil, fun x h => (by cases h), fun x h => (by cases h), fun x h => (by cases h)⟩
theorem signsD {P : Prg} {pi oi si : Nat} (hP : P.fns[pi]? = some fPick) (hO : P.fns[oi]? = some (fOf pi)) (hS : P.fns[si]? = some (fDrawSigns pi oi)) (k : Nat) (bs : List Str) (hb : ∀ b ∈ bs, b ≠ ⟨#[36]⟩) :
    DrawnC (phi P (k + 3) si [.loc 1, .d (.list (bs.map PyData.str))]) fun d => ∃ xs, d = .tuple (xs.map PyData.str) ∧ SgInv (poolC bs) xs ∧ xs.Pairwise ltS ∧ xs.length ≤ 9 := fun ns seed rest hk hro => by
  rw [phi_at hS _ _ rfl]
  have e0 : startR (fDrawSigns pi oi).ns [.loc 1, .d (.list (bs.map PyData.str))] = [some (.loc 1), some (.d (.list (bs.map PyData.str))), none, none, none, none, none, none, none, none] := rfl
  rw [e0]
  have hpl := pool_len bs
  have hc := ev_comp_data (N := P.env (k + 2)) (elt := .var 4) (tg := .name 4) (it := .e (.cst (.str "!$&*+-./:<=>?@^|~"))) (ifs := .cons (.cmp .notin (.var 4) (.var 1)) .nil) (own := [4]) (ρ := [some (.loc 1), some (.d (.list (bs.map PyData.str))), none, none, none, none, none, none, none, none]) (st := hs ns seed rest) (xs := chD signs.cps.toList) (ys := chD (poolC bs))
    (by simp only [evIt_e, ev_cst, bind_okS, seq_str, ofOpt_someS]; rfl) (g := fun d => match d with | .str x => if bs.any (fun z => z == x) then none else some (PyData.str x) | _ => none) (fun x hx => by
      obtain ⟨c, hc, rfl⟩ := List.mem_map.mp hx
      have e := in_list_strs ⟨#[c]⟩ bs (hs ns seed rest)
      generalize (⟨#[c]⟩ : Str) = y at *
      cases q : bs.any (fun z => z == y) <;> rw [q] at e <;> simp only [wipeR_cons, wipeR_nil, asg_name, List.length_set, List.length_cons, List.length_nil, List.set_cons_succ, List.set_cons_zero, evTests_one, ev_cmp, ev_var, bind_okS, cmpO_notin] <;> rw [if_pos (by decide)] <;> simp [e, q])
    (pool_fm bs _) (by unfold chD; rw [List.length_map]; have := mill; omega)
  have st1 : ex (P.env (k + 2)) (.par 2 3 (.comp false (.var 4) (.name 4) (.e (.cst (.str "!$&*+-./:<=>?@^|~"))) (.cons (.cmp .notin (.var 4) (.var 1)) .nil) [4]) (.dct true .nil)) [some (.loc 1), some (.d (.list (bs.map PyData.str))), none, none, none, none, none, none, none, none] (hs ns seed rest) =
      .ok (.next [some (.loc 1), some (.d (.list (bs.map PyData.str))), some (.d (.list (chD (poolC bs)))), some (.loc (rest.length + 2)), none, none, none, none, none, none]) (hs ns seed (rest ++ [.dct (kvT [])])) := by
    have md : mkDict true [] [] (hs ns seed rest) = .ok (.loc (rest.length + 2)) (hs ns seed (rest ++ [.dct (kvT [])])) := rfl
    rw [ex_par, hc, cat_okS, ev_dct, evKv_nil, bind_okS]
    dsimp only
    rw [md, cat_okS, if_pos (by simp)]; rfl
  show ∃ d ns' seed', finR false _ (exs _ (bDrawSigns pi oi) _ _) = _ ∧ _
  unfold bDrawSigns
  rw [exs_next st1]
  obtain ⟨d2, n2, s2, e2, h2, r2, rfl, a2, b2⟩ := pickD hP (k + 1) 4 (by decide) (by decide) ns seed (rest ++ [.dct (kvT [])]) hk
  let I : Nat → Rho → Store → Prop := fun i ρ st => ∃ ns seed ks v4 v5 v6 v7 v8 v9, ρ = [some (.loc 1), some (.d (.list (bs.map PyData.str))), some (.d (.list (chD (poolC bs)))), some (.loc (rest.length + 2)), v4, v5, v6, v7, v8, v9] ∧ st = hs ns seed (rest ++ [.dct (kvT ks)]) ∧ HandOk ns seed ∧ SgInv (poolC bs) ks ∧ ks.length ≤ 3 * i
  obtain ⟨ρ', st', ef, n5, s5, ks, v4, v5, v6, v7, v8, v9, rfl, rfl, h5, g1, g2⟩ := forL_inv (f := fun x ρ1 st2 => (asg (P.env (k + 2)) (.name 5) x ρ1 st2).noExc.bind fun ρ2 st3 => exs (P.env (k + 2)) (sBody pi oi) ρ2 st3) (g := none) (I := I) (xs := rng 0 r2.toNat 1) 0 ⟨n2, s2, [], none, none, none, none, none, none, rfl, rfl, h2, SgInv.nil, by simp⟩ (fun _ _ _ _ => trivial) (fun i x ρ st hx hI => by
    rw [Nat.zero_add] at hI ⊢
    obtain ⟨ns, seed, ks, v4, v5, v6, v7, v8, v9, rfl, rfl, hk, g1, g2⟩ := hI
    obtain ⟨hi, rfl⟩ := rng_get hx
    obtain ⟨ns', seed', ks', w6, w7, w8, w9, e, h', g3, g4⟩ := sTurn hP hO k bs hb rest ns seed hk ks g1 (by omega) v4 (some (.d (.int (0 + (i : Nat))))) v6 v7 v8 v9
    refine ⟨_, _, .inl ?_, ns', seed', ks', v4, some (.d (.int (0 + (i : Nat)))), w6, w7, w8, w9, rfl, rfl, h', g3, by omega⟩
    rw [asg_name, if_pos (by simp), noExc_okS, bind_okS]
    exact e)
  have sf := ex_for (P.env (k + 2)) [some (.loc 1), some (.d (.list (bs.map PyData.str))), some (.d (.list (chD (poolC bs)))), some (.loc (rest.length + 2)), none, none, none, none, none, none] (hs ns seed (rest ++ [.dct (kvT [])])) (.name 5) (.rng (.cons (.call pi (.cons (.var 0) (.cons (.cst (.int 4)) .nil))) .nil)) (sBody pi oi)
  have ep : ev (P.env (k + 2)) (.call pi (.cons (.var 0) (.cons (.cst (.int 4)) .nil))) [some (.loc 1), some (.d (.list (bs.map PyData.str))), some (.d (.list (chD (poolC bs)))), some (.loc (rest.length + 2)), none, none, none, none, none, none] (hs ns seed (rest ++ [.dct (kvT [])])) = .ok (.d (.int r2)) (hs n2 s2 (rest ++ [.dct (kvT [])])) := by
    rw [ev_call, evs_cons, ev_var]
    show ((R.ok (Val.loc 1) _).bind _).bind _ = _
    rw [bind_okS, evs_cons, ev_cst, bind_okS, evs_nil, bind_okS, bind_okS, bind_okS]
    exact e2
  rw [it_rng1 ep (small_of (by omega) (by omega)), cat_okS] at sf
  dsimp only at sf
  rw [ef] at sf
  rw [exs_next sf, exs_cons, ex_ret, ev_bi, evs_cons, ev_bi, evs_cons, ev_var]
  show ∃ d ns' seed', finR false _ ((((((((R.ok (Val.loc (rest.length + 2)) _).bind _).bind _).bind _).bind _).cat _ _).noX).bind _) = _ ∧ _
  have hl : ks.length ≤ 9 := by rw [rng_size] at g2; omega
  have bs' := bi_sorted_dct (hs_at n5 s5 rest (.dct (kvT ks)) []) (show ks.length < 64 by omega)
  rw [bind_okS, evs_nil, bind_okS, bind_okS, bs', ofO_someS, bind_okS, evs_nil, bind_okS, bind_okS, bi_tuple_list, ofO_someS, cat_okS, noX_okS, bind_okS]
  refine ⟨.tuple ((sortS ks).map PyData.str), n5, s5, ?_, h5, sortS ks, rfl, g1.sort, sortS_lt g1.nd, by rw [(sortS_perm ks).length_eq]; exact hl⟩
  exact fin_hs3 _ ns n5 seed s5 rest [.dct (kvT ks)] hro rfl
end G
set_option Elab.async false
set_option linter.all false
set_option maxRecDepth 100000
set_option maxHeartbeats 1000000
/-! GTp: that a tongue drawn is a tongue -/
namespace G
open PySem PySem.Spec PyProof.Rows
def kindD : Bool → Str
  | true => "ends"
  | false => "lines"
def pS (r : Int) : Str := ⟨#[(Str.ofString ",;:|").cps.toList.getD r.toNat 0]⟩
def endD (k : Bool) (a m : Int) : PyData := if k then .str (pS ((a + m) % 4)) else .none
def remL : List PyData := [.str "#", .str "!", .str "@", .none]
def quoL : List PyData := [.str "\"", .str "'", .none]
def pairsM (m : Int) : List Str := [(0, ("()" : Str)), (1, "[]"), (2, "{}")].filterMap fun p : Int × Str => if Builtin.bitAnd (m / 2 ^ p.1.toNat) 1 == 1 then some p.2 else none
def freeM (m : Int) : List Str := pairsL.filter fun x => !(pairsM m).any fun z => z == x
def blocksM (m : Int) : List PyData := .none :: ((freeM m).map PyData.str ++ (freeM m).map PyData.str)
theorem four {r : Int} (h0 : 0 ≤ r) (h : r < 4) : r ∈ [(0 : Int), 1, 2, 3] := by
  have : r = 0 ∨ r = 1 ∨ r = 2 ∨ r = 3 := by omega
  simpa using this
theorem three {r : Int} (h0 : 0 ≤ r) (h : r < 3) : 1 + r ∈ [(1 : Int), 2, 3] := by
  have : r = 0 ∨ r = 1 ∨ r = 2 := by omega
  rcases this with rfl | rfl | rfl <;> simp
theorem seven {r : Int} (h0 : 0 ≤ r) (h : r < 7) : 1 + r ∈ [(1 : Int), 2, 3, 4, 5, 6, 7] := by
  have : r = 0 ∨ r = 1 ∨ r = 2 ∨ r = 3 ∨ r = 4 ∨ r = 5 ∨ r = 6 := by omega
  rcases this with rfl | rfl | rfl | rfl | rfl | rfl | rfl <;> simp
theorem d_kind : ∀ k, textOf kindsL (.str (kindD k)) = true := by decide +kernel
theorem d_part : ∀ r ∈ [(0 : Int), 1, 2, 3], textOf partsL (.str (pS r)) = true := by decide +kernel
theorem d_end : ∀ k, ∀ a ∈ [(0 : Int), 1, 2, 3], ∀ m ∈ [(1 : Int), 2, 3], endB partsL (kindD k) (endD k a m) = true := by decide +kernel
theorem d_rem : ∀ d ∈ remL, orNone remarksL d = true := by decide +kernel
theorem d_quo : ∀ d ∈ quoL, orNone quotesL d = true := by decide +kernel
theorem d_pairs : ∀ m ∈ [(1 : Int), 2, 3, 4, 5, 6, 7], pairsB pairsL (.tuple ((pairsM m).map PyData.str)) = true ∧ strsTup (.tuple ((pairsM m).map PyData.str)) = pairsM m ∧ (∀ b ∈ blocksM m, blockB pairsL (pairsM m) b = true) ∧ okBs ((pairsM m).map PyData.str) = true ∧ szs ((pairsM m).map PyData.str) ≤ 72 ∧ (∀ b ∈ blocksM m, okB b = true ∧ sz b ≤ 22 ∧ b.depth = 0) := by decide +kernel
theorem d_apart : ∀ k, ∀ a ∈ [(0 : Int), 1, 2, 3], ∀ m ∈ [(1 : Int), 2, 3], ∀ d ∈ remL, (distinct [] (strsG (somesOf [.str (pS a), endD k a m, d]))).length = (strsG (somesOf [.str (pS a), endD k a m, d])).length ∧ ((strsG (somesOf [.str (pS a), endD k a m, d])).map PyData.str = somesOf [.str (pS a), endD k a m, d]) ∧ (∀ y ∈ strsG (somesOf [.str (pS a), endD k a m, d]), (y = ⟨#[y.cps.toList.getD 0 0]⟩ : Bool) = true ∧ y ≠ ⟨#[36]⟩) := by decide +kernel
theorem d_small : (∀ k, okB (.str (kindD k)) = true ∧ sz (.str (kindD k)) ≤ 52 ∧ (PyData.str (kindD k)).depth = 0) ∧ (∀ r ∈ [(0 : Int), 1, 2, 3], okB (.str (pS r)) = true ∧ sz (.str (pS r)) ≤ 12 ∧ (PyData.str (pS r)).depth = 0) ∧ (∀ k, ∀ a ∈ [(0 : Int), 1, 2, 3], ∀ m ∈ [(1 : Int), 2, 3], okB (endD k a m) = true ∧ sz (endD k a m) ≤ 12 ∧ (endD k a m).depth = 0) ∧ (∀ d ∈ remL, okB d = true ∧ sz d ≤ 12 ∧ d.depth = 0) ∧ (∀ d ∈ quoL, okB d = true ∧ sz d ≤ 12 ∧ d.depth = 0) := by decide +kernel
theorem d_asc : (∀ c ∈ signs.cps.toList, c < 128) ∧ (∀ c ∈ (Str.ofString "abnz").cps.toList, c < 128 ∧ c ∈ lettersS.cps.toList) := by decide +kernel
/-- a tongue of its parts -/
def tongueD (T : List Nat) (k : Bool) (xs : List Str) (m a n : Int) (b r q : PyData) : PyData := .tuple [.str (glue T), .str (kindD k), .tuple (xs.map PyData.str), .tuple ((pairsM m).map PyData.str), .str (pS a), endD k a n, b, r, q]
structure Drawnn (T : List Nat) (xs : List Str) (k : Bool) (m a n : Int) (b r q : PyData) : Prop where
  t1 : 1 ≤ T.length
  t8 : T.length ≤ 8
  tl : ∀ c ∈ T, c ∈ (Str.ofString "abnz").cps.toList
  sg : SgInv (poolC (strsG (somesOf [.str (pS a), endD k a n, r]))) xs
  up : xs.Pairwise ltS
  xl : xs.length ≤ 9
  m7 : m ∈ [(1 : Int), 2, 3, 4, 5, 6, 7]
  a4 : a ∈ [(0 : Int), 1, 2, 3]
  n3 : n ∈ [(1 : Int), 2, 3]
  bm : b ∈ blocksM m
  rm : r ∈ remL
  qm : q ∈ quoL
theorem strs_all' {p : PyData → Bool} {xs : List Str} (h : ∀ x ∈ xs, p (.str x) = true) : (xs.map PyData.str).all p = true := by
  rw [List.all_map, List.all_eq_true]; exact h
theorem Drawnn.yes {T : List Nat} {xs : List Str} {k : Bool} {m a n : Int} {b r q : PyData} (h : Drawnn T xs k m a n b r q) : tongueB (tongueD T k xs m a n b r q) = true := by
  obtain ⟨hp1, hp2, hp3, _⟩ := d_pairs m h.m7
  obtain ⟨ha1, ha2, ha3⟩ := d_apart k a h.a4 n h.n3 r h.rm
  have pn : ∀ x ∈ xs, ∀ c ∈ x.cps.toList, c ∈ signs.cps.toList ∧ ¬ (strsG (somesOf [.str (pS a), endD k a n, r])).any (fun z => z == ⟨#[c]⟩) = true := fun x hx c hc => by
    have := h.sg.pool x hx c hc
    unfold poolC at this
    rw [List.mem_filter] at this
    exact ⟨this.1, by rw [Bool.not_eq_true]; exact Bool.not_eq_true' _ ▸ this.2⟩
  show nineB _ _ _ _ _ _ _ _ _ = true
  unfold nineB
  have n1 : nameB (.str (glue T)) = true := by
    have hl : (glue T).length = T.length := rfl
    show (decide (1 ≤ (glue T).length) && decide ((glue T).length ≤ 8) && allIn lettersS (glue T)) = true
    rw [hl]
    simp only [Bool.and_eq_true, decide_eq_true_eq]
    refine ⟨⟨h.t1, h.t8⟩, ?_⟩
    unfold allIn
    rw [List.all_eq_true]
    intro c hc
    exact decide_eq_true (d_asc.2 c (h.tl c hc)).2
  have n3 : signsB (.tuple (xs.map PyData.str)) = true := by
    show (((xs.map PyData.str).all signText && rising (strsG (xs.map PyData.str))) && (strsG (xs.map PyData.str)).all (headOk (strsG (xs.map PyData.str)))) = true
    rw [strsG_str, Bool.and_eq_true, Bool.and_eq_true]
    refine ⟨⟨strs_all' fun x hx => ?_, rising_of h.up⟩, List.all_eq_true.mpr fun x hx => ?_⟩
    · show (decide (1 ≤ x.length) && decide (x.length ≤ 3) && allIn signs x) = true
      simp only [Bool.and_eq_true, decide_eq_true_eq]
      refine ⟨h.sg.len x hx, ?_⟩
      unfold allIn
      rw [List.all_eq_true]
      intro c hc
      exact decide_eq_true (pn x hx c hc).1
    · unfold headOk
      rw [Bool.or_eq_true, decide_eq_true_eq]
      rcases h.sg.shut x hx with e | e
      · exact .inl e
      · exact .inr (List.any_eq_true.mpr ⟨_, e, beq_self_eq_true _⟩)
  have n10 : apartB (strsTup (.tuple (xs.map PyData.str))) (strsG (somesOf [.str (pS a), endD k a n, r])) = true := by
    unfold apartB
    rw [Bool.and_eq_true]
    refine ⟨decide_eq_true ha1, ?_⟩
    rw [Bool.not_eq_true', List.any_eq_false]
    intro o ho z
    rw [List.any_eq_true] at z
    obtain ⟨x, hx, hi⟩ := z
    have hx : x ∈ strsG (xs.map PyData.str) := hx
    rw [strsG_str] at hx
    have e := of_decide_eq_true (ha3 o ho).1
    rw [e, inS_one, decide_eq_true_eq] at hi
    exact (pn x hx _ hi).2 (List.any_eq_true.mpr ⟨o, ho, by rw [e]; exact beq_self_eq_true _⟩)
  rw [n1, d_kind k, n3, hp1, d_part a h.a4, hp2, hp3 b h.bm, d_rem r h.rm, d_quo q h.qm, n10]
  have := d_end k a h.a4 n h.n3
  show (true && true && true && true && true && endB partsL (kindD k) _ && true && true && true && true) = true
  rw [this]; rfl
theorem Good.of {s : Nat} {d : PyData} (h : okB d = true ∧ sz d ≤ s ∧ d.depth = 0) : Good s 0 d := ⟨h.1, h.2.1, Nat.le_of_eq h.2.2⟩
/-- what is shown of it -/
theorem Drawnn.good {T : List Nat} {xs : List Str} {k : Bool} {m a n : Int} {b r q : PyData} (h : Drawnn T xs k m a n b r q) : GoodL 1000 1 [.str (glue T), .str (kindD k), .tuple (xs.map PyData.str), .tuple ((pairsM m).map PyData.str), .str (pS a), endD k a n, b, r, q] := by
  obtain ⟨_, _, _, hp4, hp5, hp6⟩ := d_pairs m h.m7
  have g1 : Good 82 0 (.str (glue T)) := by
    refine ⟨?_, ?_, Nat.le_of_eq rfl⟩
    · show T.all _ = true
      rw [List.all_eq_true]
      intro c hc
      exact decide_eq_true (d_asc.2 c (h.tl c hc)).1
    · have hl : (glue T).length = T.length := rfl
      show 10 * (glue T).length + 2 ≤ 82
      have := h.t8
      omega
  have gx : ∀ y ∈ xs.map PyData.str, Good 32 0 y := fun y hy => by
    obtain ⟨x, hx, rfl⟩ := List.mem_map.mp hy
    refine ⟨?_, ?_, Nat.le_of_eq rfl⟩
    · show x.cps.toList.all _ = true
      rw [List.all_eq_true]
      intro c hc
      have := h.sg.pool x hx c hc
      unfold poolC at this
      rw [List.mem_filter] at this
      exact decide_eq_true (d_asc.1 c this.1)
    · show 10 * x.length + 2 ≤ 32
      have := h.sg.len x hx
      omega
  have g3 : Good 309 1 (.tuple (xs.map PyData.str)) := by
    have := (goodL_all gx).tup
    refine this.weaken ?_ (by omega)
    rw [List.length_map]
    have := h.xl
    omega
  have g4 : Good 75 1 (.tuple ((pairsM m).map PyData.str)) := by
    refine GoodL.tup (s := 72) (p := 0) ⟨hp4, hp5, ?_⟩
    have : ∀ zs : List Str, PyData.depthAll (zs.map PyData.str) = 0 := fun zs => by
      induction zs with
      | nil => rfl
      | cons z r ih => simp only [List.map_cons, PyData.depthAll, PyData.depth, ih]; rfl
    rw [this]
    exact Nat.le_refl _
  have q := ((GoodL.one g1).append <| (GoodL.one (Good.of (d_small.1 k))).append <| (GoodL.one g3).append <| (GoodL.one g4).append <| (GoodL.one (Good.of (d_small.2.1 a h.a4))).append <| (GoodL.one (Good.of (d_small.2.2.1 k a h.a4 n h.n3))).append <| (GoodL.one (Good.of (hp6 b h.bm))).append <| (GoodL.one (Good.of (d_small.2.2.2.1 r h.rm))).append (GoodL.one (Good.of (d_small.2.2.2.2 q h.qm))))
  exact q.weaken (by omega) (by omega)
end G
set_option Elab.async false
set_option linter.all false
set_option maxRecDepth 100000
set_option maxHeartbeats 1000000
/-! GTq: a tongue that is drawn -/
namespace G
open PySem PySem.Spec PyProof.Rows
theorem mkl_lit' (ds : List PyData) (vs : List Val) (st : Store) (e : vs = ds.map Val.d) (h : ds.length ≤ 1000000) : mkList false vs st = .ok (.d (.list ds)) st := by
  rw [e]; exact mkList_data (Nat.le_trans h mill)
abbrev tS1 (pi oi : Nat) : S := .asg (.name 1) (.me .join (.cst (.str "")) (.cons (.comp false (.call oi (.cons (.var 0) (.cons (.cst (.str "abnz")) .nil))) (.name 2) (.rng (.cons (.bin .add (.cst (.int 1)) (.call pi (.cons (.var 0) (.cons (.cst (.int 8)) .nil)))) .nil)) .nil [2]) .nil))
abbrev tS2 (pi oi : Nat) : S := .par3 3 4 5 (.call oi (.cons (.var 0) (.cons (.lst false (.cons (.cst (.str "ends")) (.cons (.cst (.str "lines")) .nil))) .nil))) (.call pi (.cons (.var 0) (.cons (.cst (.int 4)) .nil))) (.bin .add (.cst (.int 1)) (.call pi (.cons (.var 0) (.cons (.cst (.int 3)) .nil))))
abbrev tS3 : S := .par 6 7 (.ix (.cst (.str ",;:|")) (.var 4)) (.ite (.cmp .eq (.var 3) (.cst (.str "ends"))) (.ix (.cst (.str ",;:|")) (.bin .mod (.bin .add (.var 4) (.var 5)) (.cst (.int 4)))) (.cst .none))
abbrev tS4 (oi : Nat) : S := .par 8 9 (.call oi (.cons (.var 0) (.cons (.lst false (.cons (.cst (.str "#")) (.cons (.cst (.str "!")) (.cons (.cst (.str "@")) (.cons (.cst .none) .nil))))) .nil))) (.call oi (.cons (.var 0) (.cons (.lst false (.cons (.cst (.str "\"")) (.cons (.cst (.str "'")) (.cons (.cst .none) .nil)))) .nil)))
abbrev tS5 (pi : Nat) : S := .parn (.cons (.name 10) (.cons (.name 11) .nil)) (.cons (.bin .add (.cst (.int 1)) (.call pi (.cons (.var 0) (.cons (.cst (.int 7)) .nil)))) (.cons (.tup (.cons (.cst (.str "()")) (.cons (.cst (.str "[]")) (.cons (.cst (.str "{}")) .nil)))) .nil))
abbrev tC6 : E := .comp false (.var 13) (.tup (.cons (.name 2) (.cons (.name 13) .nil))) (.enum (.cons (.var 11) .nil)) (.cons (.cmp .eq (.bin .band (.bin .shr (.var 10) (.var 2)) (.cst (.int 1))) (.cst (.int 1))) .nil) [2, 13]
abbrev tS6 : S := .asg (.name 12) (.bi .tuple (.cons tC6 .nil))
abbrev tC7 : E := .comp false (.var 13) (.name 13) (.e (.var 11)) (.cons (.cmp .notin (.var 13) (.var 12)) .nil) [13]
abbrev tS7 (oi : Nat) : S := .asg (.name 14) (.call oi (.cons (.var 0) (.cons (.bin .add (.lst false (.cons (.cst .none) .nil)) (.bin .mul tC7 (.cst (.int 2)))) .nil)))
abbrev tC8 : E := .comp false (.var 16) (.name 16) (.e (.tup (.cons (.var 6) (.cons (.var 7) (.cons (.var 8) .nil))))) (.cons (.cmp .isnot (.var 16) (.cst .none)) .nil) [16]
abbrev tS8 (si : Nat) : S := .asg (.name 15) (.call si (.cons (.var 0) (.cons tC8 .nil)))
abbrev tS9 : S := .ret (.tup (.cons (.var 1) (.cons (.var 3) (.cons (.var 15) (.cons (.var 12) (.cons (.var 6) (.cons (.var 7) (.cons (.var 14) (.cons (.var 8) (.cons (.var 9) .nil))))))))))
theorem bDrawTongue_eq (pi oi si : Nat) : bDrawTongue pi oi si = .cons (tS1 pi oi) (.cons (tS2 pi oi) (.cons tS3 (.cons (tS4 oi) (.cons (tS5 pi) (.cons tS6 (.cons (tS7 oi) (.cons (tS8 si) (.cons tS9 .nil)))))))) := rfl
def TongueP (d : PyData) : Prop := ∃ T k xs m a n b r q, d = tongueD T k xs m a n b r q ∧ Drawnn T xs k m a n b r q
theorem ix_parts {r : Int} (h : r ∈ [(0 : Int), 1, 2, 3]) (st : Store) : oIx (.d (.str ",;:|")) (.d (.int r)) st = some (.d (.str (pS r)), st) := by
  have hs' : (Str.ofString ",;:|").length ≤ sizeLine := Nat.le_trans (by decide) mill
  have ea : ∀ r ∈ [(0 : Int), 1, 2, 3], L2.atI (Str.ofString ",;:|").cps.toList r = some ((Str.ofString ",;:|").cps.toList.getD r.toNat 0) := by decide +kernel
  show (if (Str.ofString ",;:|").length ≤ sizeLine then (L2.atI (Str.ofString ",;:|").cps.toList r).bind _ else none) = _
  rw [if_pos hs', ea r h]; rfl
theorem kind_eq (k : Bool) : (kindD k == ("ends" : Str)) = k := by cases k <;> decide +kernel
theorem sum4 {a n : Int} (ha : a ∈ [(0 : Int), 1, 2, 3]) (hn : n ∈ [(1 : Int), 2, 3]) : (a + n) % 4 ∈ [(0 : Int), 1, 2, 3] := by
  revert n; revert a; decide +kernel
theorem step3 (N : Env') (k : Bool) (a n : Int) (ha : a ∈ [(0 : Int), 1, 2, 3]) (hn : n ∈ [(1 : Int), 2, 3]) (v0 v1 v2 v6 v7 v8 v9 v10 v11 v12 v13 v14 v15 v16 : Option Val) (st : Store) :
    ex N tS3 [v0, v1, v2, some (.d (.str (kindD k))), some (.d (.int a)), some (.d (.int n)), v6, v7, v8, v9, v10, v11, v12, v13, v14, v15, v16] st = .ok (.next [v0, v1, v2, some (.d (.str (kindD k))), some (.d (.int a)), some (.d (.int n)), some (.d (.str (pS a))), some (.d (endD k a n)), v8, v9, v10, v11, v12, v13, v14, v15, v16]) st := by
  have i1 := ix_parts ha st
  have i2 := ix_parts (sum4 ha hn) st
  have m := mod_pos (a + n) 4 st (by decide)
  have q := kind_eq k
  generalize kindD k = kd at *
  cases k with
  | true => simp [i1, i2, m, q, endD]
  | false => simp [i1, q, endD]
theorem enum3 (a b c : PyData) (st : Store) : enumO [.d (.tuple [a, b, c])] st = some ([PyData.tuple [.int 0, a], .tuple [.int 1, b], .tuple [.int 2, c]].map Val.d, none) := rfl
def gM (m : Int) : PyData → Option PyData
  | .tuple [.int i, .str x] => if Builtin.bitAnd (m / 2 ^ i.toNat) 1 == 1 then some (.str x) else none
  | _ => none
theorem gM_map (m : Int) : [PyData.tuple [.int 0, .str "()"], .tuple [.int 1, .str "[]"], .tuple [.int 2, .str "{}"]].filterMap (gM m) = (pairsM m).map PyData.str := by
  have key : ∀ zs : List (Int × Str), (zs.map fun p => PyData.tuple [.int p.1, .str p.2]).filterMap (gM m) = (zs.filterMap fun p : Int × Str => if Builtin.bitAnd (m / 2 ^ p.1.toNat) 1 == 1 then some p.2 else none).map PyData.str := fun zs => by
    induction zs with
    | nil => rfl
    | cons z r ih =>
      rw [List.map_cons, List.filterMap_cons, List.filterMap_cons, ih]
      cases q : (Builtin.bitAnd (m / 2 ^ z.1.toNat) 1 == 1) <;> simp [gM, q]
  exact key [(0, "()"), (1, "[]"), (2, "{}")]
theorem step6 (N : Env') (m : Int) (v0 v1 v2 v3 v4 v5 v6 v7 v8 v9 v12 v13 v14 v15 v16 : Option Val) (st : Store) :
    ev N tC6 [v0, v1, v2, v3, v4, v5, v6, v7, v8, v9, some (.d (.int m)), some (.d (.tuple [.str "()", .str "[]", .str "{}"])), v12, v13, v14, v15, v16] st = .ok (.d (.list ((pairsM m).map PyData.str))) st := by
  refine ev_comp_data (N := N) (xs := [PyData.tuple [.int 0, .str "()"], .tuple [.int 1, .str "[]"], .tuple [.int 2, .str "{}"]]) (by
    rw [evIt_enum, evs_cons, ev_at rfl, bind_okS, evs_nil, bind_okS, bind_okS, enum3, ofOpt_someS]) (g := gM m) (fun x hx => ?_) (gM_map m) (by
    rw [← gM_map]; exact Nat.le_trans (List.length_filterMap_le _ _) s3.1)
  have key : ∀ (i : Int) (y : Str), 0 ≤ i → ((asg N (.tup (.cons (.name 2) (.cons (.name 13) .nil))) (.d (.tuple [.int i, .str y])) (wipeR [v0, v1, v2, v3, v4, v5, v6, v7, v8, v9, some (.d (.int m)), some (.d (.tuple [.str "()", .str "[]", .str "{}"])), v12, v13, v14, v15, v16] [2, 13]) st).bind fun ρ1 st3 => (evTests N (.cons (.cmp .eq (.bin .band (.bin .shr (.var 10) (.var 2)) (.cst (.int 1))) (.cst (.int 1))) .nil) ρ1 st3).bind fun b st4 => if b then (ev N (.var 13) ρ1 st4).bind fun y st5 => .ok (some y) st5 else .ok none st4) = .ok ((gM m (.tuple [.int i, .str y])).map Val.d) st := fun i y hi => by
    have sh : oShr (.d (.int m)) (.d (.int i)) st = some (.d (.int (m / 2 ^ i.toNat)), st) := by
      show guard' (0 ≤ i) _ = _
      rw [guard_pos hi]; rfl
    have ba : ∀ j, oBand (.d (.int j)) (.d (.int 1)) st = some (.d (.int (Builtin.bitAnd j 1)), st) := fun j => rfl
    have b1 : binO .shr = oShr := rfl
    have b2 : binO .band = oBand := rfl
    cases q : (Builtin.bitAnd (m / 2 ^ i.toNat) 1 == 1) <;> simp [b1, b2, sh, ba, gM, q]
  simp only [List.mem_cons, List.not_mem_nil, or_false] at hx
  rcases hx with rfl | rfl | rfl
  · exact key 0 "()" (by decide)
  · exact key 1 "[]" (by decide)
  · exact key 2 "{}" (by decide)
theorem step7 (N : Env') (m : Int) (v0 v1 v2 v3 v4 v5 v6 v7 v8 v9 v10 v13 v14 v15 v16 : Option Val) (st : Store) :
    ev N (.bin .add (.lst false (.cons (.cst .none) .nil)) (.bin .mul tC7 (.cst (.int 2)))) [v0, v1, v2, v3, v4, v5, v6, v7, v8, v9, v10, some (.d (.tuple [.str "()", .str "[]", .str "{}"])), some (.d (.tuple ((pairsM m).map PyData.str))), v13, v14, v15, v16] st = .ok (.d (.list (blocksM m))) st := by
  have hf : (pairsL.map PyData.str).filterMap (fun d => match d with | .str x => if (pairsM m).any (fun z => z == x) then none else some (PyData.str x) | _ => none) = (freeM m).map PyData.str := by
    unfold freeM
    generalize pairsM m = ps
    generalize pairsL = zs
    induction zs with
    | nil => rfl
    | cons z r ih =>
      rw [List.map_cons, List.filterMap_cons, ih, List.filter_cons]
      cases q : ps.any (fun w => w == z) <;> simp [q]
  have fl : (freeM m).length ≤ 3 := List.length_filter_le _ _
  have c := ev_comp_data (N := N) (elt := .var 13) (tg := .name 13) (it := .e (.var 11)) (ifs := .cons (.cmp .notin (.var 13) (.var 12)) .nil) (own := [13]) (ρ := [v0, v1, v2, v3, v4, v5, v6, v7, v8, v9, v10, some (.d (.tuple [.str "()", .str "[]", .str "{}"])), some (.d (.tuple ((pairsM m).map PyData.str))), v13, v14, v15, v16]) (st := st) (xs := pairsL.map PyData.str) (by
    rw [evIt_e, ev_at rfl, bind_okS]; rfl) (g := fun d => match d with | .str x => if (pairsM m).any (fun z => z == x) then none else some (PyData.str x) | _ => none) (fun x hx => by
      obtain ⟨y, hy, rfl⟩ := List.mem_map.mp hx
      have e := in_tup_strs y (pairsM m) st
      generalize pairsM m = ps at *
      cases q : ps.any (fun z => z == y) <;> rw [q] at e <;> simp [e, q]) hf (by rw [List.length_map]; exact Nat.le_trans fl s3.1)
  have mm : oMul (.d (.list ((freeM m).map PyData.str))) (.d (.int 2)) st = some (.d (.list ((freeM m).map PyData.str ++ (freeM m).map PyData.str)), st) := by
    show guard' _ _ = _
    rw [guard_pos (by
      rw [List.length_map]
      have := mill
      refine ⟨by decide, by decide, ?_⟩
      show (freeM m).length * 2 ≤ _
      omega)]
    have : ∀ ys : List PyData, repL 2 ys = ys ++ ys := fun ys => by
      show (List.replicate 2 ys).flatten = _
      simp
    rw [this]; rfl
  have ad := add_list [PyData.none] ((freeM m).map PyData.str ++ (freeM m).map PyData.str) st (by simp; omega)
  have ml := mkl_lit' [.none] [.d .none] st rfl (by decide)
  rw [ev_bin, ev_lst, evs_cons, ev_cst, bind_okS, evs_nil, bind_okS, bind_okS, ml, bind_okS, ev_bin, c, bind_okS, ev_cst, bind_okS]
  rw [binO_mul, mm, ofO_someS, bind_okS, binO_add, ad]; rfl
/-- a tongue, drawn -/
theorem tongueDr {P : Prg} {pi oi si ti : Nat} (hP : P.fns[pi]? = some fPick) (hO : P.fns[oi]? = some (fOf pi)) (hS : P.fns[si]? = some (fDrawSigns pi oi)) (hT : P.fns[ti]? = some (fDrawTongue pi oi si)) (k : Nat) : DrawnC (phi P (k + 4) ti [.loc 1]) TongueP := fun ns seed rest hk hro => by
  rw [phi_at hT _ _ rfl]
  have e0 : startR (fDrawTongue pi oi si).ns [.loc 1] = [some (.loc 1), none, none, none, none, none, none, none, none, none, none, none, none, none, none, none, none] := rfl
  rw [e0]
  show ∃ d ns' seed', finR false _ (exs _ (bDrawTongue pi oi si) _ _) = _ ∧ _
  rw [bDrawTongue_eq]
  have hv : Drawn (phi P (k + 3) oi [.loc 1, .d (.str "abnz")]) fun d => ∃ c ∈ (Str.ofString "abnz").cps.toList, d = .str ⟨#[c]⟩ := ofS hP hO (k + 1) "abnz" (by decide) (by decide)
  obtain ⟨T, n1, s1, e1, h1, T1, T2, T3⟩ := sText hP hO (k + 1) 8 (by decide) (by decide) (.cst (.str "abnz")) 2 (.d (.str "abnz")) [some (.loc 1), none, none, none, none, none, none, none, none, none, none, none, none, none, none, none, none] rfl (by simp) (by decide) _ (fun w st => ev_cst ..) hv rest ns seed hk
  have st1 : ex (P.env (k + 3)) (tS1 pi oi) [some (.loc 1), none, none, none, none, none, none, none, none, none, none, none, none, none, none, none, none] (hs ns seed rest) = .ok (.next [some (.loc 1), some (.d (.str (glue T))), none, none, none, none, none, none, none, none, none, none, none, none, none, none, none]) (hs n1 s1 rest) := by
    rw [ex_asg, e1, cat_okS, asg_name, if_pos (by simp), noExc_okS, bind_okS]; rfl
  rw [exs_next st1]
  obtain ⟨d2, n2, s2, e2, h2, m2⟩ := ofD hP hO (k + 1) [.str "ends", .str "lines"] (by simp) (by simp) n1 s1 rest h1
  obtain ⟨d3, n3, s3', e3, h3, a, rfl, a0, a4⟩ := pickD hP (k + 2) 4 (by decide) (by decide) n2 s2 rest h2
  obtain ⟨d4, n4, s4, e4, h4, r4, rfl, b0, b4⟩ := pickD hP (k + 2) 3 (by decide) (by decide) n3 s3' rest h3
  obtain ⟨kb, rfl⟩ : ∃ kb, d2 = .str (kindD kb) := by
    simp only [List.mem_cons, List.not_mem_nil, or_false] at m2
    rcases m2 with rfl | rfl
    · exact ⟨true, rfl⟩
    · exact ⟨false, rfl⟩
  have ha := four a0 a4
  have hn := three b0 b4
  have ml2 : ∀ st, mkList false [.d (.str "ends"), .d (.str "lines")] st = .ok (.d (.list [.str "ends", .str "lines"])) st := fun st => mkl_lit' _ _ st rfl (by decide)
  have st2 : ex (P.env (k + 3)) (tS2 pi oi) [some (.loc 1), some (.d (.str (glue T))), none, none, none, none, none, none, none, none, none, none, none, none, none, none, none] (hs n1 s1 rest) = .ok (.next [some (.loc 1), some (.d (.str (glue T))), none, some (.d (.str (kindD kb))), some (.d (.int a)), some (.d (.int (1 + r4))), none, none, none, none, none, none, none, none, none, none, none]) (hs n4 s4 rest) := by
    simp [e2, e3, e4, ml2]
  rw [exs_next st2]
  have st3 := step3 (P.env (k + 3)) kb a (1 + r4) ha hn (some (.loc 1)) (some (.d (.str (glue T)))) none none none none none none none none none none none none (hs n4 s4 rest)
  rw [exs_next st3]
  generalize 1 + r4 = n at hn
  obtain ⟨r, n5, s5, e5, h5, m5⟩ := ofD hP hO (k + 1) remL (by decide) (by decide) n4 s4 rest h4
  obtain ⟨q, n6, s6, e6, h6, m6⟩ := ofD hP hO (k + 1) quoL (by decide) (by decide) n5 s5 rest h5
  have ml5 : ∀ st, mkList false [.d (.str "#"), .d (.str "!"), .d (.str "@"), .d .none] st = .ok (.d (.list remL)) st := fun st => mkl_lit' _ _ st rfl (by decide)
  have ml6 : ∀ st, mkList false [.d (.str "\""), .d (.str "'"), .d .none] st = .ok (.d (.list quoL)) st := fun st => mkl_lit' _ _ st rfl (by decide)
  have st4 : ex (P.env (k + 3)) (tS4 oi) [some (.loc 1), some (.d (.str (glue T))), none, some (.d (.str (kindD kb))), some (.d (.int a)), some (.d (.int n)), some (.d (.str (pS a))), some (.d (endD kb a n)), none, none, none, none, none, none, none, none, none] (hs n4 s4 rest) =
      .ok (.next [some (.loc 1), some (.d (.str (glue T))), none, some (.d (.str (kindD kb))), some (.d (.int a)), some (.d (.int n)), some (.d (.str (pS a))), some (.d (endD kb a n)), some (.d r), some (.d q), none, none, none, none, none, none, none]) (hs n6 s6 rest) := by
    simp [e5, e6, ml5, ml6]
  rw [exs_next st4]
  obtain ⟨d7, n7, s7, e7, h7, r7, rfl, c0, c7⟩ := pickD hP (k + 2) 7 (by decide) (by decide) n6 s6 rest h6
  have hm := seven c0 c7
  have st5 : ex (P.env (k + 3)) (tS5 pi) [some (.loc 1), some (.d (.str (glue T))), none, some (.d (.str (kindD kb))), some (.d (.int a)), some (.d (.int n)), some (.d (.str (pS a))), some (.d (endD kb a n)), some (.d r), some (.d q), none, none, none, none, none, none, none] (hs n6 s6 rest) =
      .ok (.next [some (.loc 1), some (.d (.str (glue T))), none, some (.d (.str (kindD kb))), some (.d (.int a)), some (.d (.int n)), some (.d (.str (pS a))), some (.d (endD kb a n)), some (.d r), some (.d q), some (.d (.int (1 + r7))), some (.d (.tuple [.str "()", .str "[]", .str "{}"])), none, none, none, none, none]) (hs n7 s7 rest) := by
    have hd5 : datas [Val.d (.str "()"), .d (.str "[]"), .d (.str "{}")] = some [.str "()", .str "[]", .str "{}"] := rfl
    simp [e7, hd5, s3.1, s3.2.1]
  rw [exs_next st5]
  generalize 1 + r7 = m at hm
  have c6 := step6 (P.env (k + 3)) m (some (.loc 1)) (some (.d (.str (glue T)))) none (some (.d (.str (kindD kb)))) (some (.d (.int a))) (some (.d (.int n))) (some (.d (.str (pS a)))) (some (.d (endD kb a n))) (some (.d r)) (some (.d q)) none none none none none (hs n7 s7 rest)
  have st6 : ex (P.env (k + 3)) tS6 [some (.loc 1), some (.d (.str (glue T))), none, some (.d (.str (kindD kb))), some (.d (.int a)), some (.d (.int n)), some (.d (.str (pS a))), some (.d (endD kb a n)), some (.d r), some (.d q), some (.d (.int m)), some (.d (.tuple [.str "()", .str "[]", .str "{}"])), none, none, none, none, none] (hs n7 s7 rest) =
      .ok (.next [some (.loc 1), some (.d (.str (glue T))), none, some (.d (.str (kindD kb))), some (.d (.int a)), some (.d (.int n)), some (.d (.str (pS a))), some (.d (endD kb a n)), some (.d r), some (.d q), some (.d (.int m)), some (.d (.tuple [.str "()", .str "[]", .str "{}"])), some (.d (.tuple ((pairsM m).map PyData.str))), none, none, none, none]) (hs n7 s7 rest) := by
    rw [ex_asg, ev_bi, evs_cons, c6, bind_okS, evs_nil, bind_okS, bind_okS, bi_tuple_list, ofO_someS, cat_okS, asg_name, if_pos (by simp), noExc_okS, bind_okS]; rfl
  rw [exs_next st6]
  have c7 := step7 (P.env (k + 3)) m (some (.loc 1)) (some (.d (.str (glue T)))) none (some (.d (.str (kindD kb)))) (some (.d (.int a))) (some (.d (.int n))) (some (.d (.str (pS a)))) (some (.d (endD kb a n))) (some (.d r)) (some (.d q)) (some (.d (.int m))) none none none none (hs n7 s7 rest)
  have bl : (blocksM m).length ≤ 1000000 := by
    have fl : (freeM m).length ≤ 3 := List.length_filter_le _ _
    unfold blocksM
    simp only [List.length_cons, List.length_append, List.length_map]
    omega
  obtain ⟨b, n8, s8, e8, h8, m8⟩ := ofD hP hO (k + 1) (blocksM m) (by unfold blocksM; simp) bl n7 s7 rest h7
  have st7 : ex (P.env (k + 3)) (tS7 oi) [some (.loc 1), some (.d (.str (glue T))), none, some (.d (.str (kindD kb))), some (.d (.int a)), some (.d (.int n)), some (.d (.str (pS a))), some (.d (endD kb a n)), some (.d r), some (.d q), some (.d (.int m)), some (.d (.tuple [.str "()", .str "[]", .str "{}"])), some (.d (.tuple ((pairsM m).map PyData.str))), none, none, none, none] (hs n7 s7 rest) =
      .ok (.next [some (.loc 1), some (.d (.str (glue T))), none, some (.d (.str (kindD kb))), some (.d (.int a)), some (.d (.int n)), some (.d (.str (pS a))), some (.d (endD kb a n)), some (.d r), some (.d q), some (.d (.int m)), some (.d (.tuple [.str "()", .str "[]", .str "{}"])), some (.d (.tuple ((pairsM m).map PyData.str))), none, some (.d b), none, none]) (hs n8 s8 rest) := by
    rw [ex_asg, ev_call, evs_cons, ev_at rfl, bind_okS, evs_cons, c7, bind_okS, evs_nil, bind_okS, bind_okS, bind_okS]
    show (phi P (k + 3) oi [.loc 1, .d (.list (blocksM m))] (hs n7 s7 rest)).cat _ _ = _
    rw [show phi P (k + 3) oi [.loc 1, .d (.list (blocksM m))] (hs n7 s7 rest) = _ from e8, cat_okS, asg_name, if_pos (by simp), noExc_okS, bind_okS]; rfl
  rw [exs_next st7]
  obtain ⟨hd1, hd2, hd3⟩ := d_apart kb a ha n hn r m5
  have c8 := somes_comp (P.env (k + 3)) [some (.loc 1), some (.d (.str (glue T))), none, some (.d (.str (kindD kb))), some (.d (.int a)), some (.d (.int n)), some (.d (.str (pS a))), some (.d (endD kb a n)), some (.d r), some (.d q), some (.d (.int m)), some (.d (.tuple [.str "()", .str "[]", .str "{}"])), some (.d (.tuple ((pairsM m).map PyData.str))), none, some (.d b), none, none] (hs n8 s8 rest) 16 (.e (.tup (.cons (.var 6) (.cons (.var 7) (.cons (.var 8) .nil))))) [.str (pS a), endD kb a n, r] (by
    have hd8 : datas [Val.d (.str (pS a)), .d (endD kb a n), .d r] = some [.str (pS a), endD kb a n, r] := rfl
    simp [hd8, seq_tuple, s3.1]) (by simp) s3.1
  rw [← hd2] at c8
  obtain ⟨d9, n9, s9, e9, h9, xs, rfl, g1, g2, g3⟩ := signsD hP hO hS k (strsG (somesOf [.str (pS a), endD kb a n, r])) (fun y hy => (hd3 y hy).2) n8 s8 rest h8 hro
  have st8 : ex (P.env (k + 3)) (tS8 si) [some (.loc 1), some (.d (.str (glue T))), none, some (.d (.str (kindD kb))), some (.d (.int a)), some (.d (.int n)), some (.d (.str (pS a))), some (.d (endD kb a n)), some (.d r), some (.d q), some (.d (.int m)), some (.d (.tuple [.str "()", .str "[]", .str "{}"])), some (.d (.tuple ((pairsM m).map PyData.str))), none, some (.d b), none, none] (hs n8 s8 rest) =
      .ok (.next [some (.loc 1), some (.d (.str (glue T))), none, some (.d (.str (kindD kb))), some (.d (.int a)), some (.d (.int n)), some (.d (.str (pS a))), some (.d (endD kb a n)), some (.d r), some (.d q), some (.d (.int m)), some (.d (.tuple [.str "()", .str "[]", .str "{}"])), some (.d (.tuple ((pairsM m).map PyData.str))), none, some (.d b), some (.d (.tuple (xs.map PyData.str))), none]) (hs n9 s9 rest) := by
    rw [ex_asg, ev_call, evs_cons, ev_at rfl, bind_okS, evs_cons, c8, bind_okS, evs_nil, bind_okS, bind_okS, bind_okS]
    show (phi P (k + 3) si [.loc 1, _] (hs n8 s8 rest)).cat _ _ = _
    rw [e9, cat_okS, asg_name, if_pos (by simp), noExc_okS, bind_okS]; rfl
  rw [exs_next st8]
  refine ⟨tongueD T kb xs m a n b r q, n9, s9, ?_, h9, T, kb, xs, m, a, n, b, r, q, rfl, ⟨T1, by omega, T3, g1, g2, g3, hm, ha, hn, m8, m5, m6⟩⟩
  have fin : exs (P.env (k + 3)) (.cons tS9 .nil) [some (.loc 1), some (.d (.str (glue T))), none, some (.d (.str (kindD kb))), some (.d (.int a)), some (.d (.int n)), some (.d (.str (pS a))), some (.d (endD kb a n)), some (.d r), some (.d q), some (.d (.int m)), some (.d (.tuple [.str "()", .str "[]", .str "{}"])), some (.d (.tuple ((pairsM m).map PyData.str))), none, some (.d b), some (.d (.tuple (xs.map PyData.str))), none] (hs n9 s9 rest) = .ok (.ret (.d (tongueD T kb xs m a n b r q))) (hs n9 s9 rest) := by
    have hd9 : datas [Val.d (.str (glue T)), .d (.str (kindD kb)), .d (.tuple (xs.map PyData.str)), .d (.tuple ((pairsM m).map PyData.str)), .d (.str (pS a)), .d (endD kb a n), .d b, .d r, .d q] = some [.str (glue T), .str (kindD kb), .tuple (xs.map PyData.str), .tuple ((pairsM m).map PyData.str), .str (pS a), endD kb a n, b, r, q] := rfl
    have h9 : (9 : Nat) ≤ sizeLine := Nat.le_trans (by decide) mill
    simp [tongueD, hd9, h9]
  rw [fin]
  exact fin_hs _ _ _ _ _ _
end G
set_option Elab.async false
set_option linter.all false
set_option maxRecDepth 100000
set_option maxHeartbeats 1000000
/-! GTr: expressions that give data fit to be printed; literals -/
namespace G
open PySem PySem.Spec PyProof.Rows
mutual
/-- the data of a literal -/
def litE : E → Option PyData
  | .cst d => some d
  | .tup es => (litEs es).bind fun ds => if ds.length ≤ 1000 then some (.tuple ds) else none
  | .lst false es => (litEs es).bind fun ds => if ds.length ≤ 1000 then some (.list ds) else none
  | _ => none
def litEs : Es → Option (List PyData)
  | .nil => some []
  | .cons e r => (litE e).bind fun d => (litEs r).bind fun ds => some (d :: ds)
end
mutual
theorem ev_lit : ∀ (e : E) {d : PyData} (N : Env') (ρ : Rho) (st : Store), litE e = some d → ev N e ρ st = .ok (.d d) st
  | .cst d, _, N, ρ, st, h => by
    simp only [litE] at h
    cases h; exact ev_cst N ρ st d
  | .tup es, d, N, ρ, st, h => by
    simp only [litE] at h
    obtain ⟨ds, h1, h2⟩ := Option.bind_eq_some_iff.mp h
    split at h2
    · rename_i hl
      cases h2
      rw [ev_tup, evs_lit es N ρ st h1, bind_okS, datas_map]
      dsimp only
      rw [if_pos (Nat.le_trans hl (Nat.le_trans (by decide) mill))]
    · cases h2
  | .lst false es, d, N, ρ, st, h => by
    simp only [litE] at h
    obtain ⟨ds, h1, h2⟩ := Option.bind_eq_some_iff.mp h
    split at h2
    · rename_i hl
      cases h2
      rw [ev_lst, evs_lit es N ρ st h1, bind_okS, mkList_data (Nat.le_trans hl (Nat.le_trans (by decide) mill))]
    · cases h2
  | .lst true _, _, _, _, _, h => by simp only [litE] at h; cases h
  | .var _, _, _, _, _, h => by simp only [litE] at h; cases h
  | .glob _, _, _, _, _, h => by simp only [litE] at h; cases h
  | .bin .., _, _, _, _, h => by simp only [litE] at h; cases h
  | .neg _, _, _, _, _, h => by simp only [litE] at h; cases h
  | .cmp .., _, _, _, _, h => by simp only [litE] at h; cases h
  | .chain .., _, _, _, _, h => by simp only [litE] at h; cases h
  | .and _, _, _, _, _, h => by simp only [litE] at h; cases h
  | .or _, _, _, _, _, h => by simp only [litE] at h; cases h
  | .not _, _, _, _, _, h => by simp only [litE] at h; cases h
  | .ite .., _, _, _, _, h => by simp only [litE] at h; cases h
  | .dct .., _, _, _, _, h => by simp only [litE] at h; cases h
  | .ix .., _, _, _, _, h => by simp only [litE] at h; cases h
  | .slice .., _, _, _, _, h => by simp only [litE] at h; cases h
  | .rev _, _, _, _, _, h => by simp only [litE] at h; cases h
  | .step2 .., _, _, _, _, h => by simp only [litE] at h; cases h
  | .none_, _, _, _, _, h => by simp only [litE] at h; cases h
  | .inG .., _, _, _, _, h => by simp only [litE] at h; cases h
  | .ixG .., _, _, _, _, h => by simp only [litE] at h; cases h
  | .call .., _, _, _, _, h => by simp only [litE] at h; cases h
  | .bi .., _, _, _, _, h => by simp only [litE] at h; cases h
  | .isi .., _, _, _, _, h => by simp only [litE] at h; cases h
  | .me .., _, _, _, _, h => by simp only [litE] at h; cases h
  | .comp .., _, _, _, _, h => by simp only [litE] at h; cases h
  | .frz _, _, _, _, _, h => by simp only [litE] at h; cases h
  | .never, _, _, _, _, h => by simp only [litE] at h; cases h
  | .comp2 .., _, _, _, _, h => by simp only [litE] at h; cases h
  | .lenset _, _, _, _, _, h => by simp only [litE] at h; cases h
  | .lrng .., _, _, _, _, h => by simp only [litE] at h; cases h
theorem evs_lit : ∀ (es : Es) {ds : List PyData} (N : Env') (ρ : Rho) (st : Store), litEs es = some ds → evs N es ρ st = .ok (ds.map Val.d) st
  | .nil, _, N, ρ, st, h => by
    simp only [litEs] at h
    cases h; exact evs_nil N ρ st
  | .cons e r, ds, N, ρ, st, h => by
    simp only [litEs] at h
    obtain ⟨d, h1, h2⟩ := Option.bind_eq_some_iff.mp h
    obtain ⟨ds', h3, h4⟩ := Option.bind_eq_some_iff.mp h2
    cases h4
    rw [evs_cons, ev_lit e N ρ st h1, bind_okS, evs_lit r N ρ st h3, bind_okS]; rfl
end
/-- gives data fit to be printed, the store as it was -/
def EvG (N : Env') (ρ : Rho) (st : Store) (s p : Nat) (e : E) : Prop := ∃ d, ev N e ρ st = .ok (.d d) st ∧ Good s p d
def EvsG (N : Env') (ρ : Rho) (st : Store) (s p : Nat) (es : Es) : Prop := ∃ ds, evs N es ρ st = .ok (ds.map Val.d) st ∧ GoodL s p ds
def EvL (N : Env') (ρ : Rho) (st : Store) (s p : Nat) (e : E) : Prop := ∃ ds, ev N e ρ st = .ok (.d (.list ds)) st ∧ GoodL s p ds
def EvT (N : Env') (ρ : Rho) (st : Store) (s p : Nat) (e : E) : Prop := ∃ ds, ev N e ρ st = .ok (.d (.tuple ds)) st ∧ GoodL s p ds
def litG (s p : Nat) (e : E) : Bool := match litE e with
  | some d => okB d && decide (sz d ≤ s) && decide (d.depth ≤ p)
  | none => false
def litsG (s p : Nat) (es : Es) : Bool := match litEs es with
  | some ds => okBs ds && decide (szs ds ≤ s) && decide (PyData.depthAll ds ≤ p)
  | none => false
section
variable {N : Env'} {ρ : Rho} {st : Store} {s p s' p' : Nat} {e a b : E} {es : Es}
theorem EvG.lit (h : litG s p e = true) : EvG N ρ st s p e := by
  unfold litG at h
  split at h
  · rename_i d hd
    simp only [Bool.and_eq_true, decide_eq_true_eq] at h
    exact ⟨d, ev_lit e N ρ st hd, h.1.1, h.1.2, h.2⟩
  · cases h
theorem EvsG.lit (h : litsG s p es = true) : EvsG N ρ st s p es := by
  unfold litsG at h
  split at h
  · rename_i ds hd
    simp only [Bool.and_eq_true, decide_eq_true_eq] at h
    exact ⟨ds, evs_lit es N ρ st hd, h.1.1, h.1.2, h.2⟩
  · cases h
theorem EvsG.nil : EvsG N ρ st 0 0 .nil := ⟨[], evs_nil N ρ st, rfl, Nat.le_refl _, Nat.le_refl _⟩
theorem EvsG.cons (h : EvG N ρ st s p e) (h' : EvsG N ρ st s' p' es) : EvsG N ρ st (s + 2 + s') (max p p') (.cons e es) := by
  obtain ⟨d, e1, g1⟩ := h
  obtain ⟨ds, e2, g2⟩ := h'
  exact ⟨d :: ds, by rw [evs_cons, e1, bind_okS, e2, bind_okS]; rfl, (GoodL.one g1).append g2⟩
theorem EvsG.lst (h : EvsG N ρ st s p es) (hs : s ≤ 1000000) : EvL N ρ st s p (.lst false es) := by
  obtain ⟨ds, e1, g1⟩ := h
  have := szs_len ds
  have := g1.2.1
  exact ⟨ds, by rw [ev_lst, e1, bind_okS, mkList_data (Nat.le_trans (by omega) mill)], g1⟩
theorem EvsG.tup (h : EvsG N ρ st s p es) (hs : s ≤ 1000000) : EvT N ρ st s p (.tup es) := by
  obtain ⟨ds, e1, g1⟩ := h
  have := szs_len ds
  have := g1.2.1
  exact ⟨ds, by rw [ev_tup, e1, bind_okS, datas_map]; dsimp only; rw [if_pos (Nat.le_trans (by omega) mill)], g1⟩
theorem EvL.add (h : EvL N ρ st s p a) (h' : EvL N ρ st s' p' b) (hs : s + s' ≤ 1000000) : EvL N ρ st (s + s') (max p p') (.bin .add a b) := by
  obtain ⟨xs, e1, g1⟩ := h
  obtain ⟨ys, e2, g2⟩ := h'
  have := szs_len xs
  have := szs_len ys
  have := g1.2.1
  have := g2.2.1
  exact ⟨xs ++ ys, by rw [ev_bin, e1, bind_okS, e2, bind_okS, binO_add, add_list _ _ _ (by omega), ofO_someS], g1.append g2⟩
theorem EvT.add (h : EvT N ρ st s p a) (h' : EvT N ρ st s' p' b) (hs : s + s' ≤ 1000000) : EvT N ρ st (s + s') (max p p') (.bin .add a b) := by
  obtain ⟨xs, e1, g1⟩ := h
  obtain ⟨ys, e2, g2⟩ := h'
  have := szs_len xs
  have := szs_len ys
  have := g1.2.1
  have := g2.2.1
  exact ⟨xs ++ ys, by rw [ev_bin, e1, bind_okS, e2, bind_okS, binO_add, add_tup _ _ _ (by omega), ofO_someS], g1.append g2⟩
theorem EvL.var {i : Nat} {ds : List PyData} (h : ρ[i]? = some (some (.d (.list ds)))) (g : GoodL s p ds) : EvL N ρ st s p (.var i) := ⟨ds, ev_at h, g⟩
theorem EvT.var {i : Nat} {ds : List PyData} (h : ρ[i]? = some (some (.d (.tuple ds)))) (g : GoodL s p ds) : EvT N ρ st s p (.var i) := ⟨ds, ev_at h, g⟩
theorem EvT.rev (h : EvT N ρ st s p a) : EvT N ρ st s p (.rev a) := by
  obtain ⟨xs, e1, g1⟩ := h
  exact ⟨xs.reverse, by rw [ev_rev, e1, bind_okS], g1.rev⟩
theorem cutL_good {xs : List PyData} (lo hi : Option Int) (h : GoodL s p xs) : GoodL s p (cutL xs lo hi) := by
  unfold cutL; exact (h.drop _).take _
theorem EvT.from_ (h : EvT N ρ st s p a) (i : Int) : EvT N ρ st s p (.slice a (.e (.cst (.int i))) .no) := by
  obtain ⟨xs, e1, g1⟩ := h
  exact ⟨cutL xs (some i) none, by simp only [ev_slice, e1, bind_okS, evPart_e, ev_cst, evPart_no, oSlice_tuple, ofO_someS], cutL_good _ _ g1⟩
theorem EvT.upto (h : EvT N ρ st s p a) (i : Int) : EvT N ρ st s p (.slice a .no (.e (.cst (.int i)))) := by
  obtain ⟨xs, e1, g1⟩ := h
  exact ⟨cutL xs none (some i), by simp only [ev_slice, e1, bind_okS, evPart_e, ev_cst, evPart_no, oSlice_tuple, ofO_someS], cutL_good _ _ g1⟩
theorem EvT.g (h : EvT N ρ st s p a) : EvG N ρ st (s + 3) (p + 1) a := by
  obtain ⟨xs, e1, g1⟩ := h
  exact ⟨_, e1, g1.tup⟩
theorem EvL.g (h : EvL N ρ st s p a) : EvG N ρ st (s + 3) (p + 1) a := by
  obtain ⟨xs, e1, g1⟩ := h
  exact ⟨_, e1, g1.lst⟩
theorem EvG.var {i : Nat} {d : PyData} (h : ρ[i]? = some (some (.d d))) (g : Good s p d) : EvG N ρ st s p (.var i) := ⟨d, ev_at h, g⟩
theorem EvG.weaken (h : EvG N ρ st s p a) (hs : s ≤ s') (hp : p ≤ p') : EvG N ρ st s' p' a := h.imp fun d q => ⟨q.1, q.2.weaken hs hp⟩
theorem EvL.weaken (h : EvL N ρ st s p a) (hs : s ≤ s') (hp : p ≤ p') : EvL N ρ st s' p' a := h.imp fun d q => ⟨q.1, q.2.weaken hs hp⟩
/-- an item of a tuple -/
theorem GoodL.mem : ∀ {xs : List PyData} {d : PyData}, GoodL s p xs → d ∈ xs → Good s p d
  | x :: r, d, ⟨a, b, c⟩, h => by
    simp only [okBs, Bool.and_eq_true] at a
    simp only [szs] at b
    simp only [PyData.depthAll] at c
    rcases List.mem_cons.mp h with e | e
    · rw [e]; exact ⟨a.1, by omega, by omega⟩
    · exact GoodL.mem ⟨a.2, by omega, by omega⟩ e
theorem atI_some {xs : List PyData} {i : Int} (h : (0 ≤ i ∧ i < xs.length) ∨ (i < 0 ∧ -(xs.length : Int) ≤ i)) : ∃ d, L2.atI xs i = some d ∧ d ∈ xs := by
  unfold L2.atI L2.ixN
  rcases h with h | h
  · rw [if_pos h.1, if_pos h.2]
    exact ⟨xs[i.toNat]'(by omega), by rw [Option.bind_some]; exact List.getElem?_eq_getElem (by omega), List.getElem_mem _⟩
  · rw [if_neg (by omega), if_pos (by omega)]
    have hk : (i + xs.length).toNat < xs.length := by omega
    exact ⟨xs[(i + xs.length).toNat], by rw [Option.bind_some]; exact List.getElem?_eq_getElem hk, List.getElem_mem _⟩
theorem ex_app {i n : Nat} {d : PyData} {ms : List Val} (hi : ρ[i]? = some (some (.loc n))) (hc : st[n]? = some (.lst ms)) (he : ev N e ρ st = .ok (.d d) st) (hl : ms.length < 1000000) :
    ex N (.expr (.me .append (.var i) (.cons e .nil))) ρ st = .ok (.next ρ) (st.set n (.lst (ms ++ [.d d]))) := by
  have := mill
  rw [ex_expr, ev_me, ev_at hi, bind_okS, recv_app hc, if_pos rfl, evs_cons, he, bind_okS, evs_nil, bind_okS, bind_okS, app_at _ hc (by omega), ofO_someS, cat_okS]
end
end G
set_option Elab.async false
set_option linter.all false
set_option maxRecDepth 100000
namespace K01
open PySem PySem.Spec PyProof.Rows L2 G
/-- are_rising(some): 0 some 1 one 2 other -/
def b0 : Ss := (.cons (.ret (.bi .all (.cons (.comp false (.cmp .lt (.var 1) (.var 2)) (.tup (.cons (.name 1) (.cons (.name 2) .nil))) (.zip (.cons (.var 0) (.cons (.slice (.var 0) (.e (.cst (.int 1))) .no) .nil))) .nil [1, 2]) .nil))) .nil)
def f0 : Fn := ⟨1, 3, false, b0⟩
/-- is_name(thing): 0 thing 1 sign -/
def b1 : Ss := (.cons (.ret (.and (.cons (.isi (.var 0) [.str]) (.cons (.chain .le .le (.cst (.int 1)) (.bi .len (.cons (.var 0) .nil)) (.glob 1)) (.cons (.bi .all (.cons (.comp false (.cmp .isin (.var 1) (.glob 0)) (.name 1) (.e (.var 0)) .nil [1]) .nil)) .nil))))) .nil)
def f1 : Fn := ⟨1, 2, false, b1⟩
/-- is_sign_text(thing): 0 thing 1 sign -/
def b2 : Ss := (.cons (.ret (.and (.cons (.isi (.var 0) [.str]) (.cons (.chain .le .le (.cst (.int 1)) (.bi .len (.cons (.var 0) .nil)) (.glob 3)) (.cons (.bi .all (.cons (.comp false (.cmp .isin (.var 1) (.glob 2)) (.name 1) (.e (.var 0)) .nil [1]) .nil)) .nil))))) .nil)
def f2 : Fn := ⟨1, 2, false, b2⟩
/-- are_sign_texts(thing): 0 thing 1 one -/
def b3 : Ss := (.cons (.ret (.and (.cons (.isi (.var 0) [.tuple]) (.cons (.bi .all (.cons (.comp false (.call 2 (.cons (.var 1) .nil)) (.name 1) (.e (.var 0)) .nil [1]) .nil)) (.cons (.call 0 (.cons (.var 0) .nil)) .nil))))) .nil)
def f3 : Fn := ⟨1, 2, false, b3⟩
/-- are_signs(thing): 0 thing 1 one -/
def b4 : Ss := (.cons (.ret (.and (.cons (.call 3 (.cons (.var 0) .nil)) (.cons (.bi .all (.cons (.comp false (.or (.cons (.cmp .eq (.bi .len (.cons (.var 1) .nil)) (.cst (.int 1))) (.cons (.cmp .isin (.slice (.var 1) .no (.e (.neg (.cst (.int 1))))) (.var 0)) .nil))) (.name 1) (.e (.var 0)) .nil [1]) .nil)) .nil)))) .nil)
def f4 : Fn := ⟨1, 2, false, b4⟩
/-- is_text_of(thing, some): 0 thing 1 some -/
def b5 : Ss := (.cons (.ret (.and (.cons (.isi (.var 0) [.str]) (.cons (.cmp .isin (.var 0) (.var 1)) .nil)))) .nil)
def f5 : Fn := ⟨2, 2, false, b5⟩
/-- are_pairs(thing): 0 thing 1 one -/
def b6 : Ss := (.cons (.ite (.or (.cons (.not (.isi (.var 0) [.tuple])) (.cons (.cmp .eq (.bi .len (.cons (.var 0) .nil)) (.cst (.int 0))) (.cons (.not (.bi .all (.cons (.comp false (.call 5 (.cons (.var 1) (.cons (.glob 6) .nil))) (.name 1) (.e (.var 0)) .nil [1]) .nil))) .nil)))) (.cons (.ret (.cst (.bool false))) .nil) .nil) (.cons (.ret (.call 0 (.cons (.var 0) .nil))) .nil))
def f6 : Fn := ⟨1, 2, false, b6⟩
/-- is_end(kind, thing): 0 kind 1 thing -/
def b7 : Ss := (.cons (.ret (.ite (.cmp .eq (.var 0) (.glob 4)) (.call 5 (.cons (.var 1) (.cons (.glob 7) .nil))) (.cmp .is (.var 1) (.cst .none)))) .nil)
def f7 : Fn := ⟨2, 2, false, b7⟩
/-- is_block(pairs, thing): 0 pairs 1 thing -/
def b8 : Ss := (.cons (.ret (.or (.cons (.cmp .is (.var 1) (.cst .none)) (.cons (.and (.cons (.call 5 (.cons (.var 1) (.cons (.glob 6) .nil))) (.cons (.cmp .notin (.var 1) (.var 0)) .nil))) .nil)))) .nil)
def f8 : Fn := ⟨2, 2, false, b8⟩
/-- are_apart(signs, some): 0 signs 1 some 2 one 3 sign -/
def b9 : Ss := (.cons (.ret (.and (.cons (.cmp .eq (.lenset (.var 1)) (.bi .len (.cons (.var 1) .nil))) (.cons (.not (.bi .any (.cons (.comp2 false (.cmp .isin (.var 2) (.var 3)) (.name 2) (.e (.var 1)) .nil (.name 3) (.e (.var 0)) .nil [2, 3] [3]) .nil))) .nil)))) .nil)
def f9 : Fn := ⟨2, 4, false, b9⟩
/-- is_tongue(thing): 0 thing 1 name 2 kind 3 signs 4 pairs 5 part 6 end 7 block 8 remark 9 quote 10 one -/
def b10 : Ss := (.cons (.ite (.or (.cons (.not (.isi (.var 0) [.tuple])) (.cons (.cmp .ne (.bi .len (.cons (.var 0) .nil)) (.glob 10)) .nil))) (.cons (.ret (.cst (.bool false))) .nil) .nil) (.cons (.asg (.tup (.cons (.name 1) (.cons (.name 2) (.cons (.name 3) (.cons (.name 4) (.cons (.name 5) (.cons (.name 6) (.cons (.name 7) (.cons (.name 8) (.cons (.name 9) .nil)))))))))) (.var 0)) (.cons (.ite (.or (.cons (.not (.call 1 (.cons (.var 1) .nil))) (.cons (.not (.call 5 (.cons (.var 2) (.cons (.tup (.cons (.glob 4) (.cons (.glob 5) .nil))) .nil)))) (.cons (.not (.call 4 (.cons (.var 3) .nil))) (.cons (.not (.call 6 (.cons (.var 4) .nil))) .nil))))) (.cons (.ret (.cst (.bool false))) .nil) .nil) (.cons (.ite (.or (.cons (.not (.call 5 (.cons (.var 5) (.cons (.glob 7) .nil)))) (.cons (.not (.call 7 (.cons (.var 2) (.cons (.var 6) .nil)))) (.cons (.not (.call 8 (.cons (.var 4) (.cons (.var 7) .nil)))) .nil)))) (.cons (.ret (.cst (.bool false))) .nil) .nil) (.cons (.ite (.and (.cons (.cmp .isnot (.var 8) (.cst .none)) (.cons (.not (.call 5 (.cons (.var 8) (.cons (.glob 8) .nil)))) .nil))) (.cons (.ret (.cst (.bool false))) .nil) .nil) (.cons (.ite (.and (.cons (.cmp .isnot (.var 9) (.cst .none)) (.cons (.not (.call 5 (.cons (.var 9) (.cons (.glob 9) .nil)))) .nil))) (.cons (.ret (.cst (.bool false))) .nil) .nil) (.cons (.ret (.call 9 (.cons (.var 3) (.cons (.comp false (.var 10) (.name 10) (.e (.tup (.cons (.var 5) (.cons (.var 6) (.cons (.var 8) .nil))))) (.cons (.cmp .isnot (.var 10) (.cst .none)) .nil) [10]) .nil)))) .nil)))))))
def f10 : Fn := ⟨1, 11, false, b10⟩
/-- _law_hand(_law_script): 0 _law_script 1 _law_seed 2 _law_cell -/
def b11 : Ss := (.cons (.asg (.name 1) (.cst (.int 23))) (.cons (.for_ (.name 2) (.e (.slice (.var 0) .no (.e (.cst (.int 63))))) (.cons (.asg (.name 1) (.bin .mod (.bin .add (.bin .add (.bin .mul (.var 1) (.cst (.int 6364136223846793))) (.bin .mod (.var 2) (.cst (.int 2305843009213693951)))) (.cst (.int 31))) (.cst (.int 2305843009213693951)))) .nil)) (.cons (.ret (.lst true (.cons (.comp true (.var 2) (.name 2) (.e (.slice (.var 0) .no (.e (.cst (.int 63))))) (.cons (.cmp .ge (.var 2) (.bin .pow (.cst (.int 10)) (.cst (.int 18)))) .nil) [2]) (.cons (.var 1) .nil)))) .nil)))
def f11 : Fn := ⟨1, 3, true, b11⟩
/-- _law_pick(_law_hand_here, _law_many): 0 _law_hand_here 1 _law_many 2 _law_digit 3 _law_mixed -/
def b12 : Ss := (.cons (.while_ (.and (.cons (.cmp .ne (.ix (.var 0) (.cst (.int 0))) (.lst false .nil)) (.cons (.cmp .eq (.ix (.ix (.var 0) (.cst (.int 0))) (.cst (.int 0))) (.cst (.int 0))) .nil))) (.cons (.expr (.me .popat (.ix (.var 0) (.cst (.int 0))) (.cons (.cst (.int 0)) .nil))) .nil)) (.cons (.ite (.cmp .ne (.ix (.var 0) (.cst (.int 0))) (.lst false .nil)) (.cons (.asg (.name 2) (.bin .mod (.ix (.ix (.var 0) (.cst (.int 0))) (.cst (.int 0))) (.var 1))) (.cons (.asg (.sub (.ix (.var 0) (.cst (.int 0))) (.cst (.int 0))) (.bin .fdiv (.ix (.ix (.var 0) (.cst (.int 0))) (.cst (.int 0))) (.var 1))) (.cons (.ret (.var 2)) .nil))) .nil) (.cons (.asg (.sub (.var 0) (.cst (.int 1))) (.bin .mod (.bin .add (.bin .mul (.ix (.var 0) (.cst (.int 1))) (.cst (.int 3935559000370003))) (.cst (.int 2691343689449507))) (.cst (.int 2305843009213693951)))) (.cons (.asg (.name 3) (.bin .fdiv (.ix (.var 0) (.cst (.int 1))) (.cst (.int 65537)))) (.cons (.ret (.bin .mod (.bin .fdiv (.bin .mod (.bin .mul (.var 3) (.bin .add (.bin .mod (.var 3) (.cst (.int 8191))) (.cst (.int 3)))) (.cst (.int 2305843009213693921))) (.cst (.int 4099))) (.var 1))) .nil)))))
def f12 : Fn := ⟨2, 4, false, b12⟩
/-- _law_of(_law_hand_here, _law_some): 0 _law_hand_here 1 _law_some -/
def b13 : Ss := (.cons (.ret (.ix (.var 1) (.call 12 (.cons (.var 0) (.cons (.bi .len (.cons (.var 1) .nil)) .nil))))) .nil)
def f13 : Fn := ⟨2, 2, false, b13⟩
/-- _law_signs(_law_hand_here, _law_barred): 0 _law_hand_here 1 _law_barred 2 _law_pool 3 _law_found 4 _law_sign 5 _law_k 6 _law_some 7 _law_text 8 _law_at 9 _law_size -/
def b14 : Ss := (.cons (.par 2 3 (.comp false (.var 4) (.name 4) (.e (.cst (.str "!$&*+-./:<=>?@^|~"))) (.cons (.cmp .notin (.var 4) (.var 1)) .nil) [4]) (.dct true .nil)) (.cons (.for_ (.name 5) (.rng (.cons (.call 12 (.cons (.var 0) (.cons (.cst (.int 4)) .nil))) .nil)) (.cons (.asg (.name 6) (.ite (.cmp .eq (.call 12 (.cons (.var 0) (.cons (.cst (.int 2)) .nil))) (.cst (.int 0))) (.slice (.var 2) .no (.e (.cst (.int 2)))) (.var 2))) (.cons (.asg (.name 7) (.me .join (.cst (.str "")) (.cons (.comp false (.call 13 (.cons (.var 0) (.cons (.var 6) .nil))) (.name 8) (.rng (.cons (.bin .add (.cst (.int 1)) (.call 12 (.cons (.var 0) (.cons (.cst (.int 3)) .nil)))) .nil)) .nil [8]) .nil))) (.cons (.for_ (.name 9) (.rng (.cons (.cst (.int 1)) (.cons (.bin .add (.bi .len (.cons (.var 7) .nil)) (.cst (.int 1))) .nil))) (.cons (.asg (.sub (.var 3) (.slice (.var 7) .no (.e (.var 9)))) (.cst (.bool true))) .nil)) .nil)))) (.cons (.ret (.bi .tuple (.cons (.bi .sorted (.cons (.var 3) .nil)) .nil))) .nil)))
def f14 : Fn := ⟨2, 10, false, b14⟩
/-- _law_tongue(_law_hand_here): 0 _law_hand_here 1 _law_name 2 _law_k 3 _law_kind 4 _law_at 5 _law_more 6 _law_part 7 _law_end 8 _law_remark 9 _law_quote 10 _law_mask 11 _law_every 12 _law_pairs 13 _law_pair 14 _law_block 15 _law_signs_here 16 _law_one -/
def b15 : Ss := (.cons (.asg (.name 1) (.me .join (.cst (.str "")) (.cons (.comp false (.call 13 (.cons (.var 0) (.cons (.cst (.str "abnz")) .nil))) (.name 2) (.rng (.cons (.bin .add (.cst (.int 1)) (.call 12 (.cons (.var 0) (.cons (.cst (.int 8)) .nil)))) .nil)) .nil [2]) .nil))) (.cons (.par3 3 4 5 (.call 13 (.cons (.var 0) (.cons (.lst false (.cons (.cst (.str "ends")) (.cons (.cst (.str "lines")) .nil))) .nil))) (.call 12 (.cons (.var 0) (.cons (.cst (.int 4)) .nil))) (.bin .add (.cst (.int 1)) (.call 12 (.cons (.var 0) (.cons (.cst (.int 3)) .nil))))) (.cons (.par 6 7 (.ix (.cst (.str ",;:|")) (.var 4)) (.ite (.cmp .eq (.var 3) (.cst (.str "ends"))) (.ix (.cst (.str ",;:|")) (.bin .mod (.bin .add (.var 4) (.var 5)) (.cst (.int 4)))) (.cst .none))) (.cons (.par 8 9 (.call 13 (.cons (.var 0) (.cons (.lst false (.cons (.cst (.str "#")) (.cons (.cst (.str "!")) (.cons (.cst (.str "@")) (.cons (.cst .none) .nil))))) .nil))) (.call 13 (.cons (.var 0) (.cons (.lst false (.cons (.cst (.str "\"")) (.cons (.cst (.str "'")) (.cons (.cst .none) .nil)))) .nil)))) (.cons (.parn (.cons (.name 10) (.cons (.name 11) .nil)) (.cons (.bin .add (.cst (.int 1)) (.call 12 (.cons (.var 0) (.cons (.cst (.int 7)) .nil)))) (.cons (.tup (.cons (.cst (.str "()")) (.cons (.cst (.str "[]")) (.cons (.cst (.str "{}")) .nil)))) .nil))) (.cons (.asg (.name 12) (.bi .tuple (.cons (.comp false (.var 13) (.tup (.cons (.name 2) (.cons (.name 13) .nil))) (.enum (.cons (.var 11) .nil)) (.cons (.cmp .eq (.bin .band (.bin .shr (.var 10) (.var 2)) (.cst (.int 1))) (.cst (.int 1))) .nil) [2, 13]) .nil))) (.cons (.asg (.name 14) (.call 13 (.cons (.var 0) (.cons (.bin .add (.lst false (.cons (.cst .none) .nil)) (.bin .mul (.comp false (.var 13) (.name 13) (.e (.var 11)) (.cons (.cmp .notin (.var 13) (.var 12)) .nil) [13]) (.cst (.int 2)))) .nil)))) (.cons (.asg (.name 15) (.call 14 (.cons (.var 0) (.cons (.comp false (.var 16) (.name 16) (.e (.tup (.cons (.var 6) (.cons (.var 7) (.cons (.var 8) .nil))))) (.cons (.cmp .isnot (.var 16) (.cst .none)) .nil) [16]) .nil)))) (.cons (.ret (.tup (.cons (.var 1) (.cons (.var 3) (.cons (.var 15) (.cons (.var 12) (.cons (.var 6) (.cons (.var 7) (.cons (.var 14) (.cons (.var 8) (.cons (.var 9) .nil))))))))))) .nil)))))))))
def f15 : Fn := ⟨1, 17, false, b15⟩
/-- _law_one_of(_law_thing, _law_some): 0 _law_thing 1 _law_some -/
def b16 : Ss := (.cons (.ret (.and (.cons (.isi (.var 0) [.str]) (.cons (.cmp .isin (.var 0) (.var 1)) .nil)))) .nil)
def f16 : Fn := ⟨2, 2, false, b16⟩
/-- _law_rises(_law_some): 0 _law_some 1 _law_one 2 _law_other -/
def b17 : Ss := (.cons (.ret (.bi .all (.cons (.comp false (.cmp .lt (.var 1) (.var 2)) (.tup (.cons (.name 1) (.cons (.name 2) .nil))) (.zip (.cons (.var 0) (.cons (.slice (.var 0) (.e (.cst (.int 1))) .no) .nil))) .nil [1, 2]) .nil))) .nil)
def f17 : Fn := ⟨1, 3, false, b17⟩
/-- _law_are_signs(_law_thing): 0 _law_thing 1 _law_one 2 _law_sign -/
def b18 : Ss := (.cons (.ite (.or (.cons (.not (.isi (.var 0) [.tuple])) (.cons (.not (.bi .all (.cons (.comp false (.and (.cons (.isi (.var 1) [.str]) (.cons (.chain .lt .lt (.cst (.int 0)) (.bi .len (.cons (.var 1) .nil)) (.cst (.int 4))) .nil))) (.name 1) (.e (.var 0)) .nil [1]) .nil))) .nil))) (.cons (.ret (.cst (.bool false))) .nil) .nil) (.cons (.ret (.and (.cons (.bi .all (.cons (.comp false (.cmp .isin (.var 2) (.cst (.str "!$&*+-./:<=>?@^|~"))) (.name 2) (.e (.me .join (.cst (.str "")) (.cons (.var 0) .nil))) .nil [2]) .nil)) (.cons (.call 17 (.cons (.var 0) .nil)) .nil)))) .nil))
def f18 : Fn := ⟨1, 3, false, b18⟩
/-- _law_is_tongue(_law_thing): 0 _law_thing 1 _law_name 2 _law_kind 3 _law_signs_here 4 _law_pairs 5 _law_part 6 _law_end 7 _law_block 8 _law_remark 9 _law_quote 10 _law_sign 11 _law_one 12 _law_every 13 _law_bars 14 _law_pair -/
def b19 : Ss := (.cons (.ite (.or (.cons (.not (.isi (.var 0) [.tuple])) (.cons (.cmp .ne (.bi .len (.cons (.var 0) .nil)) (.cst (.int 9))) .nil))) (.cons (.ret (.cst (.bool false))) .nil) .nil) (.cons (.parn (.cons (.tup (.cons (.name 1) (.cons (.name 2) (.cons (.name 3) (.cons (.name 4) .nil))))) (.cons (.tup (.cons (.name 5) (.cons (.name 6) (.cons (.name 7) (.cons (.name 8) (.cons (.name 9) .nil)))))) .nil)) (.cons (.slice (.var 0) .no (.e (.cst (.int 4)))) (.cons (.slice (.var 0) (.e (.cst (.int 4))) .no) .nil))) (.cons (.ite (.or (.cons (.not (.isi (.var 1) [.str])) (.cons (.not (.chain .lt .lt (.cst (.int 0)) (.bi .len (.cons (.var 1) .nil)) (.cst (.int 9)))) (.cons (.not (.bi .all (.cons (.comp false (.chain .le .le (.cst (.str "a")) (.var 10) (.cst (.str "z"))) (.name 10) (.e (.var 1)) .nil [10]) .nil))) .nil)))) (.cons (.ret (.cst (.bool false))) .nil) .nil) (.cons (.ite (.or (.cons (.not (.call 16 (.cons (.var 2) (.cons (.lst false (.cons (.cst (.str "ends")) (.cons (.cst (.str "lines")) .nil))) .nil)))) (.cons (.not (.call 18 (.cons (.var 3) .nil))) .nil))) (.cons (.ret (.cst (.bool false))) .nil) .nil) (.cons (.ite (.not (.bi .all (.cons (.comp false (.and (.cons (.cmp .isin (.slice (.var 11) .no (.e (.cst (.int 1)))) (.var 3)) (.cons (.cmp .isin (.slice (.var 11) .no (.e (.cst (.int 2)))) (.var 3)) .nil))) (.name 11) (.e (.var 3)) .nil [11]) .nil))) (.cons (.ret (.cst (.bool false))) .nil) .nil) (.cons (.parn (.cons (.name 12) (.cons (.name 13) .nil)) (.cons (.lst false (.cons (.cst (.str "()")) (.cons (.cst (.str "[]")) (.cons (.cst (.str "{}")) .nil)))) (.cons (.lst false (.cons (.cst (.str ",")) (.cons (.cst (.str ";")) (.cons (.cst (.str ":")) (.cons (.cst (.str "|")) .nil))))) .nil))) (.cons (.ite (.or (.cons (.not (.isi (.var 4) [.tuple])) (.cons (.cmp .eq (.var 4) (.tup .nil)) (.cons (.not (.bi .all (.cons (.comp false (.call 16 (.cons (.var 14) (.cons (.var 12) .nil))) (.name 14) (.e (.var 4)) .nil [14]) .nil))) .nil)))) (.cons (.ret (.cst (.bool false))) .nil) .nil) (.cons (.ite (.or (.cons (.not (.call 17 (.cons (.var 4) .nil))) (.cons (.not (.call 16 (.cons (.var 5) (.cons (.var 13) .nil)))) (.cons (.and (.cons (.cmp .isnot (.var 6) (.cst .none)) (.cons (.not (.call 16 (.cons (.var 6) (.cons (.var 13) .nil)))) .nil))) .nil)))) (.cons (.ret (.cst (.bool false))) .nil) .nil) (.cons (.ite (.or (.cons (.cmp .ne (.cmp .is (.var 6) (.cst .none)) (.cmp .eq (.var 2) (.cst (.str "lines")))) (.cons (.and (.cons (.cmp .isnot (.var 7) (.cst .none)) (.cons (.or (.cons (.not (.call 16 (.cons (.var 7) (.cons (.var 12) .nil)))) (.cons (.cmp .isin (.var 7) (.var 4)) .nil))) .nil))) .nil))) (.cons (.ret (.cst (.bool false))) .nil) .nil) (.cons (.ite (.and (.cons (.cmp .isnot (.var 8) (.cst .none)) (.cons (.not (.call 16 (.cons (.var 8) (.cons (.lst false (.cons (.cst (.str "#")) (.cons (.cst (.str "!")) (.cons (.cst (.str "@")) .nil)))) .nil)))) .nil))) (.cons (.ret (.cst (.bool false))) .nil) .nil) (.cons (.ite (.or (.cons (.and (.cons (.cmp .isnot (.var 9) (.cst .none)) (.cons (.not (.call 16 (.cons (.var 9) (.cons (.lst false (.cons (.cst (.str "\"")) (.cons (.cst (.str "'")) .nil))) .nil)))) .nil))) (.cons (.cmp .eq (.var 5) (.var 6)) .nil))) (.cons (.ret (.cst (.bool false))) .nil) .nil) (.cons (.ret (.not (.bi .any (.cons (.comp false (.and (.cons (.cmp .isnot (.var 11) (.cst .none)) (.cons (.cmp .isin (.var 11) (.me .join (.cst (.str "")) (.cons (.var 3) .nil))) .nil))) (.name 11) (.e (.tup (.cons (.var 5) (.cons (.var 6) (.cons (.var 8) .nil))))) .nil [11]) .nil)))) .nil))))))))))))
def f19 : Fn := ⟨1, 15, false, b19⟩
/-- _law_others(_law_tongue_here): 0 _law_tongue_here 1 _law_signs_here 2 _law_pairs 3 _law_menu 4 _law_some 5 _law_found 6 _law_at 7 _law_one -/
def b20 : Ss := (.cons (.par 1 2 (.ix (.var 0) (.cst (.int 2))) (.ix (.var 0) (.cst (.int 3)))) (.cons (.asg (.name 3) (.lst true (.cons (.lst false (.cons (.cst (.str "")) (.cons (.cst (.str "a")) (.cons (.cst (.str "abcdefgh")) (.cons (.cst (.str "abcdefghi")) (.cons (.cst (.str "A")) (.cons (.cst (.str "a1")) (.cons (.cst .none) (.cons (.tup (.cons (.cst (.str "a")) .nil)) .nil))))))))) (.cons (.lst false (.cons (.cst (.str "ends")) (.cons (.cst (.str "lines")) (.cons (.cst (.str "end")) (.cons (.cst (.str "")) (.cons (.cst .none) .nil)))))) .nil)))) (.cons (.asg (.name 4) (.lst false (.cons (.tup .nil) (.cons (.tup (.cons (.cst (.str "+")) .nil)) (.cons (.tup (.cons (.cst (.str "+")) (.cons (.cst (.str "++")) (.cons (.cst (.str "+++")) .nil)))) (.cons (.tup (.cons (.cst (.str "++")) .nil)) (.cons (.tup (.cons (.cst (.str "+")) (.cons (.cst (.str "+++")) .nil))) (.cons (.tup (.cons (.cst (.str "+")) (.cons (.cst (.str "++")) (.cons (.cst (.str "+++")) (.cons (.cst (.str "++++")) .nil))))) (.cons (.tup (.cons (.cst (.str "=")) (.cons (.cst (.str "+")) .nil))) (.cons (.tup (.cons (.cst (.str "+")) (.cons (.cst (.str "+")) .nil))) .nil)))))))))) (.cons (.asg (.name 4) (.bin .add (.var 4) (.lst false (.cons (.tup (.cons (.cst (.str "")) .nil)) (.cons (.tup (.cons (.cst (.str "#")) .nil)) (.cons (.tup (.cons (.cst (.str "\\")) .nil)) (.cons (.tup (.cons (.cst (.str "a")) .nil)) (.cons (.lst false (.cons (.cst (.str "+")) .nil)) (.cons (.cst .none) (.cons (.bin .add (.var 1) (.tup (.cons (.cst (.str "~")) (.cons (.cst (.str "~~")) .nil)))) (.cons (.rev (.var 1)) (.cons (.slice (.var 1) (.e (.cst (.int 1))) .no) .nil)))))))))))) (.cons (.expr (.me .append (.var 3) (.cons (.bin .add (.var 4) (.lst false (.cons (.tup (.cons (.cst (.str "!")) .nil)) (.cons (.tup (.cons (.cst (.str "|")) .nil)) (.cons (.tup (.cons (.cst (.str ":")) (.cons (.cst (.str ":=")) .nil))) (.cons (.tup (.cons (.cst (.str "@")) .nil)) .nil)))))) .nil))) (.cons (.asg (.name 4) (.lst false (.cons (.tup .nil) (.cons (.tup (.cons (.cst (.str "()")) .nil)) (.cons (.tup (.cons (.cst (.str "[]")) .nil)) (.cons (.tup (.cons (.cst (.str "()")) (.cons (.cst (.str "[]")) (.cons (.cst (.str "{}")) .nil)))) (.cons (.tup (.cons (.cst (.str "[]")) (.cons (.cst (.str "()")) .nil))) (.cons (.tup (.cons (.cst (.str "()")) (.cons (.cst (.str "()")) .nil))) (.cons (.tup (.cons (.cst (.str "(]")) .nil)) (.cons (.tup (.cons (.cst (.str "<>")) .nil)) (.cons (.lst false (.cons (.cst (.str "()")) .nil)) (.cons (.cst .none) .nil)))))))))))) (.cons (.expr (.me .append (.var 3) (.cons (.bin .add (.var 4) (.lst false (.cons (.slice (.var 2) .no (.e (.cst (.int 1)))) (.cons (.rev (.var 2)) (.cons (.tup (.cons (.cst (.str "")) (.cons (.cst (.str "()")) .nil))) .nil))))) .nil))) (.cons (.expr (.me .append (.var 3) (.cons (.lst false (.cons (.cst (.str ",")) (.cons (.cst (.str ";")) (.cons (.cst (.str ":")) (.cons (.cst (.str "|")) (.cons (.cst (.str "")) (.cons (.cst (.str ",,")) (.cons (.cst (.str ".")) (.cons (.cst .none) (.cons (.ix (.var 0) (.cst (.int 5))) .nil)))))))))) .nil))) (.cons (.expr (.me .append (.var 3) (.cons (.lst false (.cons (.cst (.str ",")) (.cons (.cst (.str ";")) (.cons (.cst (.str ":")) (.cons (.cst (.str "|")) (.cons (.cst .none) (.cons (.cst (.str "")) (.cons (.ix (.var 0) (.cst (.int 4))) (.cons (.cst (.str ".")) .nil))))))))) .nil))) (.cons (.expr (.me .append (.var 3) (.cons (.lst false (.cons (.cst .none) (.cons (.cst (.str "()")) (.cons (.cst (.str "[]")) (.cons (.cst (.str "{}")) (.cons (.cst (.str "<>")) (.cons (.cst (.str "")) (.cons (.ix (.var 2) (.cst (.int 0))) (.cons (.ix (.var 2) (.neg (.cst (.int 1)))) (.cons (.lst false (.cons (.cst (.str "()")) .nil)) .nil)))))))))) .nil))) (.cons (.expr (.me .append (.var 3) (.cons (.lst false (.cons (.cst .none) (.cons (.cst (.str "#")) (.cons (.cst (.str "!")) (.cons (.cst (.str "@")) (.cons (.cst (.str "$")) (.cons (.cst (.str "##")) (.cons (.cst (.str "")) (.cons (.ix (.var 0) (.cst (.int 4))) .nil))))))))) .nil))) (.cons (.expr (.me .append (.var 3) (.cons (.lst false (.cons (.cst .none) (.cons (.cst (.str "\"")) (.cons (.cst (.str "'")) (.cons (.cst (.str "`")) (.cons (.cst (.str "")) (.cons (.cst (.str "\"\"")) .nil))))))) .nil))) (.cons (.asg (.name 5) (.lst true (.cons (.bin .add (.var 0) (.tup (.cons (.cst .none) .nil))) (.cons (.slice (.var 0) .no (.e (.cst (.int 8)))) (.cons (.bi .list (.cons (.var 0) .nil)) (.cons (.tup (.cons (.var 0) .nil)) (.cons (.tup .nil) (.cons (.cst .none) .nil)))))))) (.cons (.for_ (.name 6) (.rng (.cons (.cst (.int 9)) .nil)) (.cons (.expr (.me .extend (.var 5) (.cons (.comp false (.bin .add (.bin .add (.slice (.var 0) .no (.e (.var 6))) (.tup (.cons (.var 7) .nil))) (.slice (.var 0) (.e (.bin .add (.var 6) (.cst (.int 1)))) .no)) (.name 7) (.e (.ix (.var 3) (.var 6))) .nil [7]) .nil))) .nil)) (.cons (.ret (.frz (.var 5))) .nil)))))))))))))))
def f20 : Fn := ⟨1, 8, false, b20⟩
/-- law(_law_script): 0 _law_script 1 _law_hand_here 2 _law_turn 3 _law_tongue_here 4 _law_thing 5 _law_kept -/
def b21 : Ss := (.cons (.asg (.name 1) (.call 11 (.cons (.var 0) .nil))) (.cons (.for_ (.name 2) (.rng (.cons (.cst (.int 4)) .nil)) (.cons (.asg (.name 3) (.call 15 (.cons (.var 1) .nil))) (.cons (.ite (.or (.cons (.cmp .isnot (.call 10 (.cons (.var 3) .nil)) (.cst (.bool true))) (.cons (.not (.call 19 (.cons (.var 3) .nil))) .nil))) (.cons (.ret (.cst (.bool false))) .nil) .nil) (.cons (.for_ (.name 4) (.e (.call 20 (.cons (.var 3) .nil))) (.cons (.asg (.name 5) (.bi .repr (.cons (.var 4) .nil))) (.cons (.ite (.or (.cons (.cmp .ne (.bi .repr (.cons (.call 10 (.cons (.var 4) .nil)) .nil)) (.bi .repr (.cons (.call 19 (.cons (.var 4) .nil)) .nil))) (.cons (.cmp .ne (.bi .repr (.cons (.var 4) .nil)) (.var 5)) .nil))) (.cons (.ret (.cst (.bool false))) .nil) .nil) .nil))) .nil)))) (.cons (.ret (.cst (.bool true))) .nil)))
def f21 : Fn := ⟨1, 6, false, b21⟩
def prg : Prg := ⟨[(.str "abcdefghijklmnopqrstuvwxyz"), (.int 8), (.str "!$&*+-./:<=>?@^|~"), (.int 3), (.str "ends"), (.str "lines"), (.tuple [(.str "()"), (.str "[]"), (.str "{}")]), (.tuple [(.str ","), (.str ";"), (.str ":"), (.str "|")]), (.tuple [(.str "#"), (.str "!"), (.str "@")]), (.tuple [(.str "\""), (.str "'")]), (.int 9)], [f0, f1, f2, f3, f4, f5, f6, f7, f8, f9, f10, f11, f12, f13, f14, f15, f16, f17, f18, f19, f20, f21]⟩
end K01
set_option Elab.async false
set_option linter.all false
set_option maxRecDepth 100000
set_option maxHeartbeats 1000000
namespace K01
open PySem PySem.Spec PyProof.Rows G
abbrev oS1 : S := (.par 1 2 (.ix (.var 0) (.cst (.int 2))) (.ix (.var 0) (.cst (.int 3))))
abbrev oS2 : S := (.asg (.name 3) (.lst true (.cons (.lst false (.cons (.cst (.str "")) (.cons (.cst (.str "a")) (.cons (.cst (.str "abcdefgh")) (.cons (.cst (.str "abcdefghi")) (.cons (.cst (.str "A")) (.cons (.cst (.str "a1")) (.cons (.cst .none) (.cons (.tup (.cons (.cst (.str "a")) .nil)) .nil))))))))) (.cons (.lst false (.cons (.cst (.str "ends")) (.cons (.cst (.str "lines")) (.cons (.cst (.str "end")) (.cons (.cst (.str "")) (.cons (.cst .none) .nil)))))) .nil))))
abbrev oS3 : S := (.asg (.name 4) (.lst false (.cons (.tup .nil) (.cons (.tup (.cons (.cst (.str "+")) .nil)) (.cons (.tup (.cons (.cst (.str "+")) (.cons (.cst (.str "++")) (.cons (.cst (.str "+++")) .nil)))) (.cons (.tup (.cons (.cst (.str "++")) .nil)) (.cons (.tup (.cons (.cst (.str "+")) (.cons (.cst (.str "+++")) .nil))) (.cons (.tup (.cons (.cst (.str "+")) (.cons (.cst (.str "++")) (.cons (.cst (.str "+++")) (.cons (.cst (.str "++++")) .nil))))) (.cons (.tup (.cons (.cst (.str "=")) (.cons (.cst (.str "+")) .nil))) (.cons (.tup (.cons (.cst (.str "+")) (.cons (.cst (.str "+")) .nil))) .nil))))))))))
abbrev oS4 : S := (.asg (.name 4) (.bin .add (.var 4) (.lst false (.cons (.tup (.cons (.cst (.str "")) .nil)) (.cons (.tup (.cons (.cst (.str "#")) .nil)) (.cons (.tup (.cons (.cst (.str "\\")) .nil)) (.cons (.tup (.cons (.cst (.str "a")) .nil)) (.cons (.lst false (.cons (.cst (.str "+")) .nil)) (.cons (.cst .none) (.cons (.bin .add (.var 1) (.tup (.cons (.cst (.str "~")) (.cons (.cst (.str "~~")) .nil)))) (.cons (.rev (.var 1)) (.cons (.slice (.var 1) (.e (.cst (.int 1))) .no) .nil))))))))))))
abbrev oS5 : S := (.expr (.me .append (.var 3) (.cons (.bin .add (.var 4) (.lst false (.cons (.tup (.cons (.cst (.str "!")) .nil)) (.cons (.tup (.cons (.cst (.str "|")) .nil)) (.cons (.tup (.cons (.cst (.str ":")) (.cons (.cst (.str ":=")) .nil))) (.cons (.tup (.cons (.cst (.str "@")) .nil)) .nil)))))) .nil)))
abbrev oS6 : S := (.asg (.name 4) (.lst false (.cons (.tup .nil) (.cons (.tup (.cons (.cst (.str "()")) .nil)) (.cons (.tup (.cons (.cst (.str "[]")) .nil)) (.cons (.tup (.cons (.cst (.str "()")) (.cons (.cst (.str "[]")) (.cons (.cst (.str "{}")) .nil)))) (.cons (.tup (.cons (.cst (.str "[]")) (.cons (.cst (.str "()")) .nil))) (.cons (.tup (.cons (.cst (.str "()")) (.cons (.cst (.str "()")) .nil))) (.cons (.tup (.cons (.cst (.str "(]")) .nil)) (.cons (.tup (.cons (.cst (.str "<>")) .nil)) (.cons (.lst false (.cons (.cst (.str "()")) .nil)) (.cons (.cst .none) .nil))))))))))))
abbrev oS7 : S := (.expr (.me .append (.var 3) (.cons (.bin .add (.var 4) (.lst false (.cons (.slice (.var 2) .no (.e (.cst (.int 1)))) (.cons (.rev (.var 2)) (.cons (.tup (.cons (.cst (.str "")) (.cons (.cst (.str "()")) .nil))) .nil))))) .nil)))
abbrev oS8 : S := (.expr (.me .append (.var 3) (.cons (.lst false (.cons (.cst (.str ",")) (.cons (.cst (.str ";")) (.cons (.cst (.str ":")) (.cons (.cst (.str "|")) (.cons (.cst (.str "")) (.cons (.cst (.str ",,")) (.cons (.cst (.str ".")) (.cons (.cst .none) (.cons (.ix (.var 0) (.cst (.int 5))) .nil)))))))))) .nil)))
abbrev oS9 : S := (.expr (.me .append (.var 3) (.cons (.lst false (.cons (.cst (.str ",")) (.cons (.cst (.str ";")) (.cons (.cst (.str ":")) (.cons (.cst (.str "|")) (.cons (.cst .none) (.cons (.cst (.str "")) (.cons (.ix (.var 0) (.cst (.int 4))) (.cons (.cst (.str ".")) .nil))))))))) .nil)))
abbrev oS10 : S := (.expr (.me .append (.var 3) (.cons (.lst false (.cons (.cst .none) (.cons (.cst (.str "()")) (.cons (.cst (.str "[]")) (.cons (.cst (.str "{}")) (.cons (.cst (.str "<>")) (.cons (.cst (.str "")) (.cons (.ix (.var 2) (.cst (.int 0))) (.cons (.ix (.var 2) (.neg (.cst (.int 1)))) (.cons (.lst false (.cons (.cst (.str "()")) .nil)) .nil)))))))))) .nil)))
abbrev oS11 : S := (.expr (.me .append (.var 3) (.cons (.lst false (.cons (.cst .none) (.cons (.cst (.str "#")) (.cons (.cst (.str "!")) (.cons (.cst (.str "@")) (.cons (.cst (.str "$")) (.cons (.cst (.str "##")) (.cons (.cst (.str "")) (.cons (.ix (.var 0) (.cst (.int 4))) .nil))))))))) .nil)))
abbrev oS12 : S := (.expr (.me .append (.var 3) (.cons (.lst false (.cons (.cst .none) (.cons (.cst (.str "\"")) (.cons (.cst (.str "'")) (.cons (.cst (.str "`")) (.cons (.cst (.str "")) (.cons (.cst (.str "\"\"")) .nil))))))) .nil)))
abbrev oS13 : S := (.asg (.name 5) (.lst true (.cons (.bin .add (.var 0) (.tup (.cons (.cst .none) .nil))) (.cons (.slice (.var 0) .no (.e (.cst (.int 8)))) (.cons (.bi .list (.cons (.var 0) .nil)) (.cons (.tup (.cons (.var 0) .nil)) (.cons (.tup .nil) (.cons (.cst .none) .nil))))))))
abbrev oS14 : S := (.for_ (.name 6) (.rng (.cons (.cst (.int 9)) .nil)) (.cons (.expr (.me .extend (.var 5) (.cons (.comp false (.bin .add (.bin .add (.slice (.var 0) .no (.e (.var 6))) (.tup (.cons (.var 7) .nil))) (.slice (.var 0) (.e (.bin .add (.var 6) (.cst (.int 1)))) .no)) (.name 7) (.e (.ix (.var 3) (.var 6))) .nil [7]) .nil))) .nil))
abbrev oS15 : S := (.ret (.frz (.var 5)))
theorem b20_eq : b20 = (.cons oS1 (.cons oS2 (.cons oS3 (.cons oS4 (.cons oS5 (.cons oS6 (.cons oS7 (.cons oS8 (.cons oS9 (.cons oS10 (.cons oS11 (.cons oS12 (.cons oS13 (.cons oS14 (.cons oS15 .nil))))))))))))))) := rfl
theorem ex_asgd {N : Env'} {ρ : Rho} {st st1 : Store} {i : Nat} {e : E} {v : Val} (h : ev N e ρ st = .ok v st1) (hi : i < ρ.length) : ex N (.asg (.name i) e) ρ st = .ok (.next (ρ.set i (some v))) st1 := by
  rw [ex_asg, h, cat_okS, asg_name, if_pos hi, noExc_okS, bind_okS]
theorem ix_t {N : Env'} {ρ : Rho} {st : Store} {i : Nat} {j : Int} {e : E} {xs : List PyData} {d : PyData} (h : ρ[i]? = some (some (.d (.tuple xs)))) (he : ev N e ρ st = .ok (.d (.int j)) st) (ha : L2.atI xs j = some d) : ev N (.ix (.var i) e) ρ st = .ok (.d d) st := by
  have ei : oIx (.d (.tuple xs)) (.d (.int j)) st = some (.d d, st) := by
    show (L2.atI xs j).bind _ = _
    rw [ha]; rfl
  rw [ev_ix, ev_at h, bind_okS, he, bind_okS, ei, ofO_someS]
theorem menu_step {N : Env'} {ρ : Rho} {st : Store} {ms : List (List PyData)} {e : E} {s p : Nat} (hi : ρ[3]? = some (some (.loc st.length))) (he : EvL N ρ (st ++ [.lst ((ms.map PyData.list).map Val.d)]) s p e) (hs : s ≤ 9000) (hp : p ≤ 5) (hl : ms.length < 1000) :
    ∃ l, GoodL 9000 5 l ∧ ex N (.expr (.me .append (.var 3) (.cons e .nil))) ρ (st ++ [.lst ((ms.map PyData.list).map Val.d)]) = .ok (.next ρ) (st ++ [.lst (((ms ++ [l]).map PyData.list).map Val.d)]) := by
  obtain ⟨l, e1, g1⟩ := he
  refine ⟨l, g1.weaken hs hp, ?_⟩
  rw [ex_app hi (cell_get0 st _ _) e1 (by simp; omega), cell_set0]
  simp
theorem others_menu (k : Nat) (a b e f g h j : PyData) (xc xd : List PyData) (hg : GoodL 1000 1 [a, b, .tuple xc, .tuple xd, e, f, g, h, j]) (hd : xd ≠ []) (st : Store) (r : Ss) :
    ∃ (ms : List (List PyData)) (v4 : Option Val), ms.length = 9 ∧ (∀ m ∈ ms, GoodL 9000 5 m) ∧
      exs (prg.env k) (.cons oS1 (.cons oS2 (.cons oS3 (.cons oS4 (.cons oS5 (.cons oS6 (.cons oS7 (.cons oS8 (.cons oS9 (.cons oS10 (.cons oS11 (.cons oS12 r)))))))))))) [some (.d (.tuple [a, b, .tuple xc, .tuple xd, e, f, g, h, j])), none, none, none, none, none, none, none] st =
        exs (prg.env k) r [some (.d (.tuple [a, b, .tuple xc, .tuple xd, e, f, g, h, j])), some (.d (.tuple xc)), some (.d (.tuple xd)), some (.loc st.length), v4, none, none, none] (st ++ [.lst ((ms.map PyData.list).map Val.d)]) := by
  have gc : GoodL 1000 1 xc := (hg.mem (d := .tuple xc) (by simp)).items
  have gd : GoodL 1000 1 xd := (hg.mem (d := .tuple xd) (by simp)).items
  have ge : Good 1000 1 e := hg.mem (by simp)
  have gf : Good 1000 1 f := hg.mem (by simp)
  have st1 : ex (prg.env k) oS1 [some (.d (.tuple [a, b, .tuple xc, .tuple xd, e, f, g, h, j])), none, none, none, none, none, none, none] st = .ok (.next [some (.d (.tuple [a, b, .tuple xc, .tuple xd, e, f, g, h, j])), some (.d (.tuple xc)), some (.d (.tuple xd)), none, none, none, none, none]) st := by
    rw [ex_par, ix_t (d := .tuple xc) rfl (ev_cst ..) rfl, cat_okS, ix_t (d := .tuple xd) rfl (ev_cst ..) rfl, cat_okS, if_pos (by simp)]; rfl
  rw [exs_next st1]
  generalize hth : some (Val.d (.tuple [a, b, .tuple xc, .tuple xd, e, f, g, h, j])) = th
  obtain ⟨l0, e0, g0⟩ := EvsG.lst (N := prg.env k) (ρ := [th, some (.d (.tuple xc)), some (.d (.tuple xd)), none, none, none, none, none]) (st := st) (EvsG.lit (s := 9000) (p := 5) (es := (.cons (.cst (.str "")) (.cons (.cst (.str "a")) (.cons (.cst (.str "abcdefgh")) (.cons (.cst (.str "abcdefghi")) (.cons (.cst (.str "A")) (.cons (.cst (.str "a1")) (.cons (.cst .none) (.cons (.tup (.cons (.cst (.str "a")) .nil)) .nil))))))))) (by decide +kernel)) (by decide)
  obtain ⟨l1, e1, g1⟩ := EvsG.lst (N := prg.env k) (ρ := [th, some (.d (.tuple xc)), some (.d (.tuple xd)), none, none, none, none, none]) (st := st) (EvsG.lit (s := 9000) (p := 5) (es := (.cons (.cst (.str "ends")) (.cons (.cst (.str "lines")) (.cons (.cst (.str "end")) (.cons (.cst (.str "")) (.cons (.cst .none) .nil)))))) (by decide +kernel)) (by decide)
  have st2 := ex_asgd (N := prg.env k) (i := 3) (ρ := [th, some (.d (.tuple xc)), some (.d (.tuple xd)), none, none, none, none, none]) (by
    rw [ev_lst, evs_cons, e0, bind_okS, evs_cons, e1, bind_okS, evs_nil, bind_okS, bind_okS, bind_okS]
    exact mk_cell st _ s3.2.1) (by simp)
  rw [exs_next st2]
  show ∃ (ms : List (List PyData)) (v4 : Option Val), _ ∧ _ ∧ exs _ _ [th, some (.d (.tuple xc)), some (.d (.tuple xd)), some (.loc st.length), none, none, none, none] (st ++ [.lst (([l0, l1].map PyData.list).map Val.d)]) = _
  obtain ⟨q1, e2, g2⟩ := EvsG.lst (N := prg.env k) (ρ := [th, some (.d (.tuple xc)), some (.d (.tuple xd)), some (.loc st.length), none, none, none, none]) (st := (st ++ [.lst (([l0, l1].map PyData.list).map Val.d)])) (EvsG.lit (s := 1000) (p := 3) (es := (.cons (.tup .nil) (.cons (.tup (.cons (.cst (.str "+")) .nil)) (.cons (.tup (.cons (.cst (.str "+")) (.cons (.cst (.str "++")) (.cons (.cst (.str "+++")) .nil)))) (.cons (.tup (.cons (.cst (.str "++")) .nil)) (.cons (.tup (.cons (.cst (.str "+")) (.cons (.cst (.str "+++")) .nil))) (.cons (.tup (.cons (.cst (.str "+")) (.cons (.cst (.str "++")) (.cons (.cst (.str "+++")) (.cons (.cst (.str "++++")) .nil))))) (.cons (.tup (.cons (.cst (.str "=")) (.cons (.cst (.str "+")) .nil))) (.cons (.tup (.cons (.cst (.str "+")) (.cons (.cst (.str "+")) .nil))) .nil))))))))) (by decide +kernel)) (by decide)
  rw [exs_next (ex_asgd (i := 4) e2 (by simp))]
  show ∃ (ms : List (List PyData)) (v4 : Option Val), _ ∧ _ ∧ exs _ _ [th, some (.d (.tuple xc)), some (.d (.tuple xd)), some (.loc st.length), some (.d (.list q1)), none, none, none] (st ++ [.lst (([l0, l1].map PyData.list).map Val.d)]) = _
  have tc : ∀ (v4 : Option Val) (st' : Store), EvT (prg.env k) [th, some (.d (.tuple xc)), some (.d (.tuple xd)), some (.loc st.length), v4, none, none, none] st' 1000 1 (.var 1) := fun v4 st' => EvT.var rfl gc
  have td : ∀ (v4 : Option Val) (st' : Store), EvT (prg.env k) [th, some (.d (.tuple xc)), some (.d (.tuple xd)), some (.loc st.length), v4, none, none, none] st' 1000 1 (.var 2) := fun v4 st' => EvT.var rfl gd
  obtain ⟨q2, e3, g3⟩ := EvL.weaken (s' := 8500) (p' := 4) (EvL.add (b := (.lst false (.cons (.tup (.cons (.cst (.str "")) .nil)) (.cons (.tup (.cons (.cst (.str "#")) .nil)) (.cons (.tup (.cons (.cst (.str "\\")) .nil)) (.cons (.tup (.cons (.cst (.str "a")) .nil)) (.cons (.lst false (.cons (.cst (.str "+")) .nil)) (.cons (.cst .none) (.cons (.bin .add (.var 1) (.tup (.cons (.cst (.str "~")) (.cons (.cst (.str "~~")) .nil)))) (.cons (.rev (.var 1)) (.cons (.slice (.var 1) (.e (.cst (.int 1))) .no) .nil))))))))))) (EvL.var (N := prg.env k) (ρ := [th, some (.d (.tuple xc)), some (.d (.tuple xd)), some (.loc st.length), some (.d (.list q1)), none, none, none]) (st := (st ++ [.lst (([l0, l1].map PyData.list).map Val.d)])) (i := 4) rfl g2) (EvsG.lst (EvsG.cons (EvG.lit (s := 50) (p := 2) (by decide +kernel)) <| EvsG.cons (EvG.lit (s := 50) (p := 2) (by decide +kernel)) <| EvsG.cons (EvG.lit (s := 50) (p := 2) (by decide +kernel)) <| EvsG.cons (EvG.lit (s := 50) (p := 2) (by decide +kernel)) <| EvsG.cons (EvG.lit (s := 50) (p := 2) (by decide +kernel)) <| EvsG.cons (EvG.lit (s := 50) (p := 2) (by decide +kernel)) <| EvsG.cons (EvT.add (tc _ _) (EvsG.tup (EvsG.lit (s := 100) (p := 2) (es := (.cons (.cst (.str "~")) (.cons (.cst (.str "~~")) .nil))) (by decide +kernel)) (by decide)) (by decide)).g <| EvsG.cons (tc _ _).rev.g <| EvsG.cons ((tc _ _).from_ 1).g EvsG.nil) (by decide)) (by decide)) (by decide) (by decide)
  rw [exs_next (ex_asgd (i := 4) e3 (by simp))]
  show ∃ (ms : List (List PyData)) (v4 : Option Val), _ ∧ _ ∧ exs _ _ [th, some (.d (.tuple xc)), some (.d (.tuple xd)), some (.loc st.length), some (.d (.list q2)), none, none, none] (st ++ [.lst (([l0, l1].map PyData.list).map Val.d)]) = _
  obtain ⟨l2, g4, e4⟩ := menu_step (e := (.bin .add (.var 4) (.lst false (.cons (.tup (.cons (.cst (.str "!")) .nil)) (.cons (.tup (.cons (.cst (.str "|")) .nil)) (.cons (.tup (.cons (.cst (.str ":")) (.cons (.cst (.str ":=")) .nil))) (.cons (.tup (.cons (.cst (.str "@")) .nil)) .nil))))))) (N := prg.env k) (ρ := [th, some (.d (.tuple xc)), some (.d (.tuple xd)), some (.loc st.length), some (.d (.list q2)), none, none, none]) (st := st) (ms := [l0, l1]) rfl (EvL.add (EvL.var (i := 4) rfl g3) (EvsG.lst (EvsG.lit (s := 400) (p := 3) (es := (.cons (.tup (.cons (.cst (.str "!")) .nil)) (.cons (.tup (.cons (.cst (.str "|")) .nil)) (.cons (.tup (.cons (.cst (.str ":")) (.cons (.cst (.str ":=")) .nil))) (.cons (.tup (.cons (.cst (.str "@")) .nil)) .nil))))) (by decide +kernel)) (by decide)) (by decide)) (by decide) (by decide) (by simp)
  rw [exs_next e4]
  obtain ⟨q3, e5, g5⟩ := EvsG.lst (N := prg.env k) (ρ := [th, some (.d (.tuple xc)), some (.d (.tuple xd)), some (.loc st.length), some (.d (.list q2)), none, none, none]) (st := (st ++ [.lst ((([l0, l1] ++ [l2]).map PyData.list).map Val.d)])) (EvsG.lit (s := 1000) (p := 3) (es := (.cons (.tup .nil) (.cons (.tup (.cons (.cst (.str "()")) .nil)) (.cons (.tup (.cons (.cst (.str "[]")) .nil)) (.cons (.tup (.cons (.cst (.str "()")) (.cons (.cst (.str "[]")) (.cons (.cst (.str "{}")) .nil)))) (.cons (.tup (.cons (.cst (.str "[]")) (.cons (.cst (.str "()")) .nil))) (.cons (.tup (.cons (.cst (.str "()")) (.cons (.cst (.str "()")) .nil))) (.cons (.tup (.cons (.cst (.str "(]")) .nil)) (.cons (.tup (.cons (.cst (.str "<>")) .nil)) (.cons (.lst false (.cons (.cst (.str "()")) .nil)) (.cons (.cst .none) .nil))))))))))) (by decide +kernel)) (by decide)
  rw [exs_next (ex_asgd (i := 4) e5 (by simp))]
  show ∃ (ms : List (List PyData)) (v4 : Option Val), _ ∧ _ ∧ exs _ _ [th, some (.d (.tuple xc)), some (.d (.tuple xd)), some (.loc st.length), some (.d (.list q3)), none, none, none] (st ++ [.lst (([l0, l1, l2].map PyData.list).map Val.d)]) = _
  obtain ⟨l3, g6, e6⟩ := menu_step (e := (.bin .add (.var 4) (.lst false (.cons (.slice (.var 2) .no (.e (.cst (.int 1)))) (.cons (.rev (.var 2)) (.cons (.tup (.cons (.cst (.str "")) (.cons (.cst (.str "()")) .nil))) .nil)))))) (N := prg.env k) (ρ := [th, some (.d (.tuple xc)), some (.d (.tuple xd)), some (.loc st.length), some (.d (.list q3)), none, none, none]) (st := st) (ms := [l0, l1, l2]) rfl (EvL.add (EvL.var (i := 4) rfl g5) (EvsG.lst (EvsG.cons ((td _ _).upto 1).g <| EvsG.cons (td _ _).rev.g <| EvsG.cons (EvG.lit (s := 50) (p := 2) (by decide +kernel)) EvsG.nil) (by decide)) (by decide)) (by decide) (by decide) (by simp)
  rw [exs_next e6]
  have x5 : ∀ st' : Store, EvG (prg.env k) [th, some (.d (.tuple xc)), some (.d (.tuple xd)), some (.loc st.length), some (.d (.list q3)), none, none, none] st' 1000 1 (.ix (.var 0) (.cst (.int 5))) := fun st' => ⟨f, by subst hth; exact ix_t rfl (ev_cst ..) rfl, gf⟩
  have x4 : ∀ st' : Store, EvG (prg.env k) [th, some (.d (.tuple xc)), some (.d (.tuple xd)), some (.loc st.length), some (.d (.list q3)), none, none, none] st' 1000 1 (.ix (.var 0) (.cst (.int 4))) := fun st' => ⟨e, by subst hth; exact ix_t rfl (ev_cst ..) rfl, ge⟩
  obtain ⟨d0, hd0, md0⟩ := atI_some (xs := xd) (i := 0) (.inl ⟨by decide, by have := List.length_pos_iff.mpr hd; omega⟩)
  obtain ⟨d1, hd1, md1⟩ := atI_some (xs := xd) (i := -1) (.inr ⟨by decide, by have := List.length_pos_iff.mpr hd; omega⟩)
  have y0 : ∀ st' : Store, EvG (prg.env k) [th, some (.d (.tuple xc)), some (.d (.tuple xd)), some (.loc st.length), some (.d (.list q3)), none, none, none] st' 1000 1 (.ix (.var 2) (.cst (.int 0))) := fun st' => ⟨d0, ix_t rfl (ev_cst ..) hd0, gd.mem md0⟩
  have y1 : ∀ st' : Store, EvG (prg.env k) [th, some (.d (.tuple xc)), some (.d (.tuple xd)), some (.loc st.length), some (.d (.list q3)), none, none, none] st' 1000 1 (.ix (.var 2) (.neg (.cst (.int 1)))) := fun st' => ⟨d1, ix_t rfl (by rw [ev_neg, ev_cst, bind_okS]) hd1, gd.mem md1⟩
  obtain ⟨l4, g7, e7⟩ := menu_step (e := (.lst false (.cons (.cst (.str ",")) (.cons (.cst (.str ";")) (.cons (.cst (.str ":")) (.cons (.cst (.str "|")) (.cons (.cst (.str "")) (.cons (.cst (.str ",,")) (.cons (.cst (.str ".")) (.cons (.cst .none) (.cons (.ix (.var 0) (.cst (.int 5))) .nil))))))))))) (N := prg.env k) (ρ := [th, some (.d (.tuple xc)), some (.d (.tuple xd)), some (.loc st.length), some (.d (.list q3)), none, none, none]) (st := st) (ms := [l0, l1, l2, l3]) rfl (EvsG.lst (EvsG.cons (EvG.lit (s := 100) (p := 2) (by decide +kernel)) <| EvsG.cons (EvG.lit (s := 100) (p := 2) (by decide +kernel)) <| EvsG.cons (EvG.lit (s := 100) (p := 2) (by decide +kernel)) <| EvsG.cons (EvG.lit (s := 100) (p := 2) (by decide +kernel)) <| EvsG.cons (EvG.lit (s := 100) (p := 2) (by decide +kernel)) <| EvsG.cons (EvG.lit (s := 100) (p := 2) (by decide +kernel)) <| EvsG.cons (EvG.lit (s := 100) (p := 2) (by decide +kernel)) <| EvsG.cons (EvG.lit (s := 100) (p := 2) (by decide +kernel)) <| EvsG.cons (x5 _) EvsG.nil) (by decide)) (by decide) (by decide) (by simp)
  rw [show ([l0, l1, l2] ++ [l3]) = [l0, l1, l2, l3] from rfl, exs_next e7]
  obtain ⟨l5, g8, e8⟩ := menu_step (e := (.lst false (.cons (.cst (.str ",")) (.cons (.cst (.str ";")) (.cons (.cst (.str ":")) (.cons (.cst (.str "|")) (.cons (.cst .none) (.cons (.cst (.str "")) (.cons (.ix (.var 0) (.cst (.int 4))) (.cons (.cst (.str ".")) .nil)))))))))) (N := prg.env k) (ρ := [th, some (.d (.tuple xc)), some (.d (.tuple xd)), some (.loc st.length), some (.d (.list q3)), none, none, none]) (st := st) (ms := [l0, l1, l2, l3, l4]) rfl (EvsG.lst (EvsG.cons (EvG.lit (s := 100) (p := 2) (by decide +kernel)) <| EvsG.cons (EvG.lit (s := 100) (p := 2) (by decide +kernel)) <| EvsG.cons (EvG.lit (s := 100) (p := 2) (by decide +kernel)) <| EvsG.cons (EvG.lit (s := 100) (p := 2) (by decide +kernel)) <| EvsG.cons (EvG.lit (s := 100) (p := 2) (by decide +kernel)) <| EvsG.cons (EvG.lit (s := 100) (p := 2) (by decide +kernel)) <| EvsG.cons (x4 _) <| EvsG.cons (EvG.lit (s := 50) (p := 2) (by decide +kernel)) EvsG.nil) (by decide)) (by decide) (by decide) (by simp)
  rw [show ([l0, l1, l2, l3] ++ [l4]) = [l0, l1, l2, l3, l4] from rfl, exs_next e8]
  obtain ⟨l6, g9, e9⟩ := menu_step (e := (.lst false (.cons (.cst .none) (.cons (.cst (.str "()")) (.cons (.cst (.str "[]")) (.cons (.cst (.str "{}")) (.cons (.cst (.str "<>")) (.cons (.cst (.str "")) (.cons (.ix (.var 2) (.cst (.int 0))) (.cons (.ix (.var 2) (.neg (.cst (.int 1)))) (.cons (.lst false (.cons (.cst (.str "()")) .nil)) .nil))))))))))) (N := prg.env k) (ρ := [th, some (.d (.tuple xc)), some (.d (.tuple xd)), some (.loc st.length), some (.d (.list q3)), none, none, none]) (st := st) (ms := [l0, l1, l2, l3, l4, l5]) rfl (EvsG.lst (EvsG.cons (EvG.lit (s := 100) (p := 2) (by decide +kernel)) <| EvsG.cons (EvG.lit (s := 100) (p := 2) (by decide +kernel)) <| EvsG.cons (EvG.lit (s := 100) (p := 2) (by decide +kernel)) <| EvsG.cons (EvG.lit (s := 100) (p := 2) (by decide +kernel)) <| EvsG.cons (EvG.lit (s := 100) (p := 2) (by decide +kernel)) <| EvsG.cons (EvG.lit (s := 100) (p := 2) (by decide +kernel)) <| EvsG.cons (y0 _) <| EvsG.cons (y1 _) <| EvsG.cons (EvG.lit (s := 50) (p := 2) (by decide +kernel)) EvsG.nil) (by decide)) (by decide) (by decide) (by simp)
  rw [show ([l0, l1, l2, l3, l4] ++ [l5]) = [l0, l1, l2, l3, l4, l5] from rfl, exs_next e9]
  obtain ⟨l7, g10, e10⟩ := menu_step (e := (.lst false (.cons (.cst .none) (.cons (.cst (.str "#")) (.cons (.cst (.str "!")) (.cons (.cst (.str "@")) (.cons (.cst (.str "$")) (.cons (.cst (.str "##")) (.cons (.cst (.str "")) (.cons (.ix (.var 0) (.cst (.int 4))) .nil)))))))))) (N := prg.env k) (ρ := [th, some (.d (.tuple xc)), some (.d (.tuple xd)), some (.loc st.length), some (.d (.list q3)), none, none, none]) (st := st) (ms := [l0, l1, l2, l3, l4, l5, l6]) rfl (EvsG.lst (EvsG.cons (EvG.lit (s := 100) (p := 2) (by decide +kernel)) <| EvsG.cons (EvG.lit (s := 100) (p := 2) (by decide +kernel)) <| EvsG.cons (EvG.lit (s := 100) (p := 2) (by decide +kernel)) <| EvsG.cons (EvG.lit (s := 100) (p := 2) (by decide +kernel)) <| EvsG.cons (EvG.lit (s := 100) (p := 2) (by decide +kernel)) <| EvsG.cons (EvG.lit (s := 100) (p := 2) (by decide +kernel)) <| EvsG.cons (EvG.lit (s := 100) (p := 2) (by decide +kernel)) <| EvsG.cons (x4 _) EvsG.nil) (by decide)) (by decide) (by decide) (by simp)
  rw [show ([l0, l1, l2, l3, l4, l5] ++ [l6]) = [l0, l1, l2, l3, l4, l5, l6] from rfl, exs_next e10]
  obtain ⟨l8, g11, e11⟩ := menu_step (e := (.lst false (.cons (.cst .none) (.cons (.cst (.str "\"")) (.cons (.cst (.str "'")) (.cons (.cst (.str "`")) (.cons (.cst (.str "")) (.cons (.cst (.str "\"\"")) .nil)))))))) (N := prg.env k) (ρ := [th, some (.d (.tuple xc)), some (.d (.tuple xd)), some (.loc st.length), some (.d (.list q3)), none, none, none]) (st := st) (ms := [l0, l1, l2, l3, l4, l5, l6, l7]) rfl (EvsG.lst (EvsG.lit (s := 400) (p := 3) (es := (.cons (.cst .none) (.cons (.cst (.str "\"")) (.cons (.cst (.str "'")) (.cons (.cst (.str "`")) (.cons (.cst (.str "")) (.cons (.cst (.str "\"\"")) .nil))))))) (by decide +kernel)) (by decide)) (by decide) (by decide) (by simp)
  rw [show ([l0, l1, l2, l3, l4, l5, l6] ++ [l7]) = [l0, l1, l2, l3, l4, l5, l6, l7] from rfl, exs_next e11]
  refine ⟨[l0, l1, l2, l3, l4, l5, l6, l7, l8], some (.d (.list q3)), rfl, fun m hm => ?_, rfl⟩
  simp only [List.mem_cons, List.not_mem_nil, or_false] at hm
  rcases hm with rfl | rfl | rfl | rfl | rfl | rfl | rfl | rfl | rfl
  · exact g0
  · exact g1
  · exact g4
  · exact g6
  · exact g7
  · exact g8
  · exact g9
  · exact g10
  · exact g11
theorem oth_len {a b c d e f g h j : PyData} : [a, b, c, d, e, f, g, h, j].length = 9 := rfl
/-- one round of the last walk -/
theorem oth_round (k : Nat) (xs : List PyData) (hg : GoodL 1000 1 xs) (h9 : xs.length = 9) (st : Store) (ms : List (List PyData)) (hm : ms.length = 9) (hmg : ∀ m ∈ ms, GoodL 9000 5 m) (fs : List PyData) (hf : fs.length ≤ 100000) (i : Nat) (hi : i < 9) (v1 v2 v4 v6 v7 : Option Val) :
    ∃ ys, (∀ y ∈ ys, Good 1000000 60 y) ∧ ys.length ≤ 9000 ∧ ((asg (prg.env k) (.name 6) (.d (.int (0 + (i : Nat)))) [some (.d (.tuple xs)), v1, v2, some (.loc st.length), v4, some (.loc (st.length + 1)), v6, v7] (st ++ [Cell.lst ((ms.map PyData.list).map Val.d), Cell.lst (fs.map Val.d)])).noExc.bind fun ρ2 st3 => exs (prg.env k) (.cons (.expr (.me .extend (.var 5) (.cons (.comp false (.bin .add (.bin .add (.slice (.var 0) .no (.e (.var 6))) (.tup (.cons (.var 7) .nil))) (.slice (.var 0) (.e (.bin .add (.var 6) (.cst (.int 1)))) .no)) (.name 7) (.e (.ix (.var 3) (.var 6))) .nil [7]) .nil))) .nil) ρ2 st3) =
      .ok (.next [some (.d (.tuple xs)), v1, v2, some (.loc st.length), v4, some (.loc (st.length + 1)), some (.d (.int (0 + (i : Nat)))), v7]) (st ++ [Cell.lst ((ms.map PyData.list).map Val.d), Cell.lst ((fs ++ ys).map Val.d)]) := by
  have hil : i < ms.length := by omega
  have gm := hmg ms[i] (List.getElem_mem hil)
  have gl : ms[i].length ≤ 4500 := by
    have h1 := szs_len ms[i]
    have h2 := gm.2.1
    omega
  have h1m := mill
  have ha : asg (prg.env k) (.name 6) (.d (.int (0 + (i : Nat)))) [some (.d (.tuple xs)), v1, v2, some (.loc st.length), v4, some (.loc (st.length + 1)), v6, v7] (st ++ [Cell.lst ((ms.map PyData.list).map Val.d), Cell.lst (fs.map Val.d)]) = .ok [some (.d (.tuple xs)), v1, v2, some (.loc st.length), v4, some (.loc (st.length + 1)), some (.d (.int (0 + (i : Nat)))), v7] (st ++ [Cell.lst ((ms.map PyData.list).map Val.d), Cell.lst (fs.map Val.d)]) := by
    rw [asg_name, if_pos (by simp)]; rfl
  rw [ha, noExc_okS, bind_okS]
  clear ha
  have c0 : (st ++ [Cell.lst ((ms.map PyData.list).map Val.d), Cell.lst (fs.map Val.d)])[st.length]? = some (.lst ((ms.map PyData.list).map Val.d)) := cell_get0 st _ _
  have c1 : (st ++ [Cell.lst ((ms.map PyData.list).map Val.d), Cell.lst (fs.map Val.d)])[st.length + 1]? = some (.lst (fs.map Val.d)) := cell_get st _ 1
  have cs : ∀ c, (st ++ [Cell.lst ((ms.map PyData.list).map Val.d), Cell.lst (fs.map Val.d)]).set (st.length + 1) c = st ++ [Cell.lst ((ms.map PyData.list).map Val.d), c] := fun c => cell_set st _ 1 c
  generalize hS : st ++ [Cell.lst ((ms.map PyData.list).map Val.d), Cell.lst (fs.map Val.d)] = S at *
  have t1 := cut_to' xs (0 + (i : Nat)) (by omega)
  have t2 := cut_from' xs (0 + (i : Nat) + 1) (by omega)
  have ei : ev (prg.env k) (.ix (.var 3) (.var 6)) [some (.d (.tuple xs)), v1, v2, some (.loc st.length), v4, some (.loc (st.length + 1)), some (.d (.int (0 + (i : Nat)))), v7] S = .ok (.d (.list ms[i])) S := by
    have eo : oIx (.loc st.length) (.d (.int (0 + (i : Nat)))) S = some (.d (.list ms[i]), S) := by
      have at1 : L2.atI ((ms.map PyData.list).map Val.d) (0 + (i : Nat)) = some (.d (.list ms[i])) := by
        unfold L2.atI L2.ixN
        rw [if_pos (by omega), if_pos (by simp; omega), Option.bind_some]
        have : (0 + (i : Int)).toNat = i := by omega
        rw [this]
        simp [hil]
      unfold oIx tyOf lsOf
      simp only [c0, Option.bind_some, at1]
    rw [ev_ix, ev_at rfl, bind_okS, ev_at rfl, bind_okS, eo, ofO_someS]
  have hc := ev_comp_data (N := prg.env k) (elt := (.bin .add (.bin .add (.slice (.var 0) .no (.e (.var 6))) (.tup (.cons (.var 7) .nil))) (.slice (.var 0) (.e (.bin .add (.var 6) (.cst (.int 1)))) .no))) (tg := .name 7) (it := .e (.ix (.var 3) (.var 6))) (ifs := .nil) (own := [7]) (ρ := [some (.d (.tuple xs)), v1, v2, some (.loc st.length), v4, some (.loc (st.length + 1)), some (.d (.int (0 + (i : Nat)))), v7]) (st := S) (xs := ms[i]) (ys := ms[i].map fun x => .tuple ((xs.take i ++ [x]) ++ xs.drop (i + 1)))
    (by rw [evIt_e, ei, bind_okS, seq_list, ofOpt_someS]) (g := fun x => some (.tuple ((xs.take i ++ [x]) ++ xs.drop (i + 1)))) (fun x hx => by
      have e1 : (0 + (i : Int)).toNat = i := by omega
      have e2 : (0 + (i : Int) + 1).toNat = i + 1 := by omega
      rw [e1] at t1
      rw [e2] at t2
      have a1 := add_tup (xs.take i) [x] S (by rw [List.length_take]; simp; omega)
      have a2 := add_tup (xs.take i ++ [x]) (xs.drop (i + 1)) S (by simp; omega)
      have hd1 : datas [Val.d x] = some [x] := rfl
      generalize xs.take i = P at *
      generalize xs.drop (i + 1) = Q at *
      clear ei e1 e2
      generalize (0 + (i : Int)) = z at *
      simp [t1, t2, a1, a2, hd1, s3.2.2]) (by simp) (by rw [List.length_map]; omega)
  refine ⟨ms[i].map fun x => PyData.tuple ((xs.take i ++ [x]) ++ xs.drop (i + 1)), fun y hy => ?_, by rw [List.length_map]; omega, ?_⟩
  · obtain ⟨x, hx, rfl⟩ := List.mem_map.mp hy
    exact (((hg.take i).append (GoodL.one (gm.mem hx))).append (hg.drop (i + 1))).tup.weaken (by decide) (by decide)
  · have he := ext_at (ys := ms[i].map fun x => PyData.tuple ((xs.take i ++ [x]) ++ xs.drop (i + 1))) c1 (by simp; omega)
    rw [exs_cons, ex_expr, ev_me, ev_at rfl, bind_okS, recv_ext c1, if_pos rfl, evs_cons, hc, bind_okS, evs_nil, bind_okS, bind_okS, he, ofO_someS, cat_okS, noX_okS, bind_okS]
    dsimp only
    rw [exs_nil, cs, List.map_append]
theorem others (k : Nat) (a b e f g h j : PyData) (xc xd : List PyData) (hg : GoodL 1000 1 [a, b, .tuple xc, .tuple xd, e, f, g, h, j]) (hd : xd ≠ []) (st : Store) :
    ∃ zs, phi prg (k + 1) 20 [.d (.tuple [a, b, .tuple xc, .tuple xd, e, f, g, h, j])] st = .ok (.d (.list zs)) st ∧ ∀ z ∈ zs, Good 1000000 60 z := by
  obtain ⟨ms, v4, hm, hmg, em⟩ := others_menu k a b e f g h j xc xd hg hd st (.cons oS13 (.cons oS14 (.cons oS15 .nil)))
  have h9 : [a, b, .tuple xc, .tuple xd, e, f, g, h, j].length = 9 := rfl
  rw [phi_at (fn := f20) rfl _ _ rfl]
  have e0 : startR f20.ns [.d (.tuple [a, b, .tuple xc, .tuple xd, e, f, g, h, j])] = [some (.d (.tuple [a, b, .tuple xc, .tuple xd, e, f, g, h, j])), none, none, none, none, none, none, none] := rfl
  rw [e0]
  show ∃ zs, finR false st (exs _ b20 _ _) = _ ∧ _
  rw [b20_eq, em]
  clear em e0
  generalize [a, b, .tuple xc, .tuple xd, e, f, g, h, j] = xs at hg h9
  have tx : ∀ (st' : Store), EvT (prg.env k) [some (.d (.tuple xs)), some (.d (.tuple xc)), some (.d (.tuple xd)), some (.loc st.length), v4, none, none, none] st' 1000 1 (.var 0) := fun st' => EvT.var rfl hg
  have xl : EvL (prg.env k) [some (.d (.tuple xs)), some (.d (.tuple xc)), some (.d (.tuple xd)), some (.loc st.length), v4, none, none, none] (st ++ [.lst ((ms.map PyData.list).map Val.d)]) 1000 1 (.bi .list (.cons (.var 0) .nil)) := by
    have bl : biO .list [.d (.tuple xs)] (st ++ [Cell.lst ((ms.map PyData.list).map Val.d)]) = some (.d (.list xs), st ++ [Cell.lst ((ms.map PyData.list).map Val.d)]) := bi_list_tuple _ _
    exact ⟨xs, by rw [ev_bi, evs_cons, ev_at rfl, bind_okS, evs_nil, bind_okS, bind_okS, bl, ofO_someS], hg⟩
  obtain ⟨fs, ef, gf⟩ := EvsG.cons ((tx (st ++ [.lst ((ms.map PyData.list).map Val.d)])).add (EvsG.tup (EvsG.lit (s := 50) (p := 2) (es := .cons (.cst .none) .nil) (by decide +kernel)) (by decide)) (by decide)).g <| EvsG.cons ((tx (st ++ [.lst ((ms.map PyData.list).map Val.d)])).upto 8).g <| EvsG.cons xl.g <| EvsG.cons (EvsG.tup (EvsG.cons (tx (st ++ [.lst ((ms.map PyData.list).map Val.d)])).g EvsG.nil) (by decide)).g <| EvsG.cons (EvG.lit (s := 50) (p := 2) (e := .tup .nil) (by decide +kernel)) <| EvsG.cons (EvG.lit (s := 50) (p := 2) (e := .cst .none) (by decide +kernel)) EvsG.nil
  have fl := szs_len fs
  have fz := gf.2.1
  have st13 := ex_asgd (N := prg.env k) (i := 5) (ρ := [some (.d (.tuple xs)), some (.d (.tuple xc)), some (.d (.tuple xd)), some (.loc st.length), v4, none, none, none]) (by
    rw [ev_lst, ef, bind_okS]
    exact mk_cell _ _ (by rw [List.length_map]; exact Nat.le_trans (by omega) mill)) (by simp)
  rw [exs_next st13]
  have hl : (st ++ [Cell.lst ((ms.map PyData.list).map Val.d)]).length = st.length + 1 := by simp
  rw [hl, List.append_assoc]
  show ∃ zs, finR false st (exs _ _ [some (.d (.tuple xs)), some (.d (.tuple xc)), some (.d (.tuple xd)), some (.loc st.length), v4, some (.loc (st.length + 1)), none, none] (st ++ [Cell.lst ((ms.map PyData.list).map Val.d), Cell.lst (fs.map Val.d)])) = _ ∧ _
  let I : Nat → Rho → Store → Prop := fun i ρ st' => ∃ (v6 v7 : Option Val) (fs : List PyData), ρ = [some (.d (.tuple xs)), some (.d (.tuple xc)), some (.d (.tuple xd)), some (.loc st.length), v4, some (.loc (st.length + 1)), v6, v7] ∧ st' = st ++ [Cell.lst ((ms.map PyData.list).map Val.d), Cell.lst (fs.map Val.d)] ∧ fs.length ≤ 10000 * (i + 1) ∧ ∀ z ∈ fs, Good 1000000 60 z
  obtain ⟨ρ', st', ef, v6, v7, zs, rfl, rfl, z1, z2⟩ := forL_inv (f := fun x ρ1 st2 => (asg (prg.env k) (.name 6) x ρ1 st2).noExc.bind fun ρ2 st3 => exs (prg.env k) (.cons (.expr (.me .extend (.var 5) (.cons (.comp false (.bin .add (.bin .add (.slice (.var 0) .no (.e (.var 6))) (.tup (.cons (.var 7) .nil))) (.slice (.var 0) (.e (.bin .add (.var 6) (.cst (.int 1)))) .no)) (.name 7) (.e (.ix (.var 3) (.var 6))) .nil [7]) .nil))) .nil) ρ2 st3) (g := none) (I := I) (xs := rng 0 9 1) 0 ⟨none, none, fs, rfl, rfl, by omega, fun z hz => (gf.mem hz).weaken (by decide) (by decide)⟩ (fun _ _ _ _ => trivial) (fun i x ρ st' hx hI => by
    rw [Nat.zero_add] at hI ⊢
    obtain ⟨v6, v7, fs, rfl, rfl, z1, z2⟩ := hI
    obtain ⟨hi, rfl⟩ := rng_get hx
    obtain ⟨ys, y1, y2, e⟩ := oth_round k xs hg h9 st ms hm hmg fs (by omega) i hi (some (.d (.tuple xc))) (some (.d (.tuple xd))) v4 v6 v7
    refine ⟨_, _, .inl e, _, _, fs ++ ys, rfl, rfl, by rw [List.length_append]; omega, fun z hz => ?_⟩
    rcases List.mem_append.mp hz with q | q
    · exact z2 z q
    · exact y1 z q)
  have sf := ex_for (prg.env k) [some (.d (.tuple xs)), some (.d (.tuple xc)), some (.d (.tuple xd)), some (.loc st.length), v4, some (.loc (st.length + 1)), none, none] (st ++ [Cell.lst ((ms.map PyData.list).map Val.d), Cell.lst (fs.map Val.d)]) (.name 6) (.rng (.cons (.cst (.int 9)) .nil)) (.cons (.expr (.me .extend (.var 5) (.cons (.comp false (.bin .add (.bin .add (.slice (.var 0) .no (.e (.var 6))) (.tup (.cons (.var 7) .nil))) (.slice (.var 0) (.e (.bin .add (.var 6) (.cst (.int 1)))) .no)) (.name 7) (.e (.ix (.var 3) (.var 6))) .nil [7]) .nil))) .nil)
  rw [it_rng1 (ev_cst ..) (small_of (by decide) (by decide)), cat_okS] at sf
  dsimp only at sf
  rw [show (9 : Int).toNat = 9 from rfl, ef] at sf
  rw [exs_next sf]
  refine ⟨zs, ?_, z2⟩
  have c1 : (st ++ [Cell.lst ((ms.map PyData.list).map Val.d), Cell.lst (zs.map Val.d)])[st.length + 1]? = some (.lst (zs.map Val.d)) := cell_get st _ 1
  have ez := frz_at (N := prg.env k) (i := 5) (ρ := [some (.d (.tuple xs)), some (.d (.tuple xc)), some (.d (.tuple xd)), some (.loc st.length), v4, some (.loc (st.length + 1)), v6, v7]) rfl c1
  rw [exs_cons, ex_ret, ez, cat_okS, noX_okS, bind_okS, cell_set st _ 1]
  exact fin_own st _ (.list zs)
end K01
set_option Elab.async false
set_option linter.all false
set_option maxRecDepth 100000
set_option maxHeartbeats 1000000
namespace K01
open PySem PySem.Spec PyProof.Rows G
theorem isT : IsTongue prg 10 1 5 4 6 7 8 9 10 4 5 7 8 9 2 2 3 3 0 6 0 1 := ⟨rfl, rfl, rfl, rfl, rfl, rfl, rfl, rfl, rfl, rfl, rfl, rfl, rfl, rfl, rfl, rfl, rfl, rfl, rfl, rfl, rfl, rfl⟩
theorem q10 (k : Nat) (d : PyData) (st : Store) (hd : fitB d = true) : phi prg (k + 4) 10 [.d d] st = .ok (.d (.bool (tongueB d))) st := r_tongue isT k d st hd
theorem q19 (k : Nat) (d : PyData) (st : Store) (hd : fitB d = true) : phi prg (k + 4) 19 [.d d] st = .ok (.d (.bool (tongueB d))) st := r_lawTongue (cO := 16) (cS := 18) (cR := 17) rfl rfl rfl rfl k d st hd
theorem ne_same' (x : Str) : (!(x == x)) = false := by simp
abbrev innerB : Ss := (.cons (.asg (.name 5) (.bi .repr (.cons (.var 4) .nil))) (.cons (.ite (.or (.cons (.cmp .ne (.bi .repr (.cons (.call 10 (.cons (.var 4) .nil)) .nil)) (.bi .repr (.cons (.call 19 (.cons (.var 4) .nil)) .nil))) (.cons (.cmp .ne (.bi .repr (.cons (.var 4) .nil)) (.var 5)) .nil))) (.cons (.ret (.cst (.bool false))) .nil) .nil) .nil))
abbrev turnB : Ss := (.cons (.asg (.name 3) (.call 15 (.cons (.var 1) .nil))) (.cons (.ite (.or (.cons (.cmp .isnot (.call 10 (.cons (.var 3) .nil)) (.cst (.bool true))) (.cons (.not (.call 19 (.cons (.var 3) .nil))) .nil))) (.cons (.ret (.cst (.bool false))) .nil) .nil) (.cons (.for_ (.name 4) (.e (.call 20 (.cons (.var 3) .nil))) (.cons (.asg (.name 5) (.bi .repr (.cons (.var 4) .nil))) (.cons (.ite (.or (.cons (.cmp .ne (.bi .repr (.cons (.call 10 (.cons (.var 4) .nil)) .nil)) (.bi .repr (.cons (.call 19 (.cons (.var 4) .nil)) .nil))) (.cons (.cmp .ne (.bi .repr (.cons (.var 4) .nil)) (.var 5)) .nil))) (.cons (.ret (.cst (.bool false))) .nil) .nil) .nil))) .nil)))
theorem inner_for (st : Store) (a b c d e f : Option Val) (zs : List PyData) (hz : ∀ z ∈ zs, Good 1000000 60 z) : ∃ e' f', forL (fun x ρ1 st2 => (asg (prg.env 63) (.name 4) x ρ1 st2).noExc.bind fun ρ2 st3 => exs (prg.env 63) innerB ρ2 st3) none (zs.map Val.d) [a, b, c, d, e, f] st = .ok (.next [a, b, c, d, e', f']) st := by
  let I : Nat → Rho → Store → Prop := fun i ρ st' => st' = st ∧ ∃ e f, ρ = [a, b, c, d, e, f]
  obtain ⟨ρ', st', ef, rfl, e', f', rfl⟩ := forL_inv (f := fun x ρ1 st2 => (asg (prg.env 63) (.name 4) x ρ1 st2).noExc.bind fun ρ2 st3 => exs (prg.env 63) innerB ρ2 st3) (g := none) (I := I) (xs := zs.map Val.d) 0 ⟨rfl, e, f, rfl⟩ (fun _ _ _ _ => trivial) (fun i x ρ st' hx hI => by
    obtain ⟨rfl, e, f, rfl⟩ := hI
    rw [List.getElem?_map] at hx
    obtain ⟨z, hz1, rfl⟩ := Option.map_eq_some_iff.mp hx
    have hg := hz z (List.mem_of_getElem? hz1)
    have hf : fitB z = true := fit_sz _ hg.2.1
    have e1 := q10 59 z st' hf
    have e2 := q19 59 z st' hf
    have e3 := bi_repr_bool (tongueB z) st'
    have e4 := bi_repr hg (by decide) (by decide) st'
    refine ⟨_, _, .inl ?_, rfl, some (.d z), some (.d (.str z.shown)), rfl⟩
    simp [e1, e2, e3, e4])
  exact ⟨e', f', ef⟩
theorem turn_ok (ns : List Int) (seed : Int) (h : HandOk ns seed) (a c d e f : Option Val) (x : Val) : ∃ ns' seed' d' e' f', ((asg (prg.env 63) (.name 2) x [a, some (.loc 1), c, d, e, f] (hs ns seed [])).noExc.bind fun ρ2 st3 => exs (prg.env 63) turnB ρ2 st3) = .ok (.next [a, some (.loc 1), some x, d', e', f']) (hs ns' seed' []) ∧ HandOk ns' seed' := by
  have ha : (asg (prg.env 63) (.name 2) x [a, some (.loc 1), c, d, e, f] (hs ns seed [])).noExc = .ok [a, some (.loc 1), some x, d, e, f] (hs ns seed []) := by
    rw [asg_name, if_pos (by simp), noExc_okS]; rfl
  rw [ha, bind_okS]
  obtain ⟨t, n1, s1, e1, h1, T, kb, xs, m, aa, n, bb, r, q, rfl, dr⟩ := tongueDr (P := prg) (pi := 12) (oi := 13) (si := 14) (ti := 15) rfl rfl rfl rfl 59 ns seed [] h rfl
  have e1' : phi prg 63 15 [.loc 1] (hs ns seed []) = .ok (.d (tongueD T kb xs m aa n bb r q)) (hs n1 s1 []) := e1
  have st1 : ex (prg.env 63) (.asg (.name 3) (.call 15 (.cons (.var 1) .nil))) [a, some (.loc 1), some x, d, e, f] (hs ns seed []) = .ok (.next [a, some (.loc 1), some x, some (.d (tongueD T kb xs m aa n bb r q)), e, f]) (hs n1 s1 []) :=
    ex_asgd (by rw [ev_call, evs_cons, ev_at rfl, bind_okS, evs_nil, bind_okS, bind_okS]; exact e1') (by simp)
  rw [exs_next st1]
  have gd := dr.good
  have hfit : fitB (tongueD T kb xs m aa n bb r q) = true := fit_sz _ (Nat.le_trans gd.tup.2.1 (by decide))
  have hyes := dr.yes
  have e2 := q10 59 _ (hs n1 s1 []) hfit
  have e3 := q19 59 _ (hs n1 s1 []) hfit
  rw [hyes] at e2 e3
  have isq : isO (.d (.bool true)) (.d (.bool true)) = some true := rfl
  have hne : (pairsM m).map PyData.str ≠ [] := fun z => by
    have := (d_pairs m dr.m7).1
    rw [z] at this
    cases this
  obtain ⟨zs, e4, hz⟩ := others 62 (.str (glue T)) (.str (kindD kb)) (.str (pS aa)) (endD kb aa n) bb r q (xs.map PyData.str) ((pairsM m).map PyData.str) gd hne (hs n1 s1 [])
  have e4' : phi prg 63 20 [.d (tongueD T kb xs m aa n bb r q)] (hs n1 s1 []) = .ok (.d (.list zs)) (hs n1 s1 []) := e4
  clear e4
  generalize tongueD T kb xs m aa n bb r q = t at *
  have st2 : ex (prg.env 63) (.ite (.or (.cons (.cmp .isnot (.call 10 (.cons (.var 3) .nil)) (.cst (.bool true))) (.cons (.not (.call 19 (.cons (.var 3) .nil))) .nil))) (.cons (.ret (.cst (.bool false))) .nil) .nil) [a, some (.loc 1), some x, some (.d t), e, f] (hs n1 s1 []) = .ok (.next [a, some (.loc 1), some x, some (.d t), e, f]) (hs n1 s1 []) := by
    simp [e2, e3, isq]
  rw [exs_next st2]
  obtain ⟨e', f', ef⟩ := inner_for (hs n1 s1 []) a (some (.loc 1)) (some x) (some (.d t)) e f zs hz
  have sf := ex_for (prg.env 63) [a, some (.loc 1), some x, some (.d t), e, f] (hs n1 s1 []) (.name 4) (.e (.call 20 (.cons (.var 3) .nil))) innerB
  have hi : evIt (prg.env 63) (.e (.call 20 (.cons (.var 3) .nil))) [a, some (.loc 1), some x, some (.d t), e, f] (hs n1 s1 []) = .ok (zs.map Val.d, none) (hs n1 s1 []) := by
    rw [evIt_e, ev_call, evs_cons, ev_at rfl, bind_okS, evs_nil, bind_okS, bind_okS]
    show (phi prg 63 20 [.d t] (hs n1 s1 [])).bind _ = _
    rw [e4', bind_okS, seq_list, ofOpt_someS]
  rw [hi, cat_okS] at sf
  dsimp only at sf
  rw [ef] at sf
  rw [exs_next sf, exs_nil]
  exact ⟨n1, s1, some (.d t), e', f', rfl, h1⟩
theorem law_run (ns : List Int) (h : ns.length ≤ 63) : ∃ st, phi prg 64 21 [.scr ns] [] = .ok (.d (.bool true)) st := by
  refine ⟨[], ?_⟩
  rw [phi_at (fn := f21) rfl _ _ rfl]
  have e0 : startR f21.ns [.scr ns] = [some (.scr ns), none, none, none, none, none] := rfl
  rw [e0]
  obtain ⟨n1, s1, e1, h1⟩ := handD (P := prg) (hi := 11) rfl 62 ns h
  have st1 : ex (prg.env 63) (.asg (.name 1) (.call 11 (.cons (.var 0) .nil))) [some (.scr ns), none, none, none, none, none] [] = .ok (.next [some (.scr ns), some (.loc 1), none, none, none, none]) (hs n1 s1 []) :=
    ex_asgd (by rw [ev_call, evs_cons, ev_at rfl, bind_okS, evs_nil, bind_okS, bind_okS]; exact e1) (by simp)
  let I : Nat → Rho → Store → Prop := fun i ρ st' => ∃ (ns' : List Int) (seed' : Int) (c d e f : Option Val), ρ = [some (.scr ns), some (.loc 1), c, d, e, f] ∧ st' = hs ns' seed' [] ∧ HandOk ns' seed'
  obtain ⟨ρ', st', ef, n2, s2, c, d, e, f, rfl, rfl, h2⟩ := forL_inv (f := fun x ρ1 st2 => (asg (prg.env 63) (.name 2) x ρ1 st2).noExc.bind fun ρ2 st3 => exs (prg.env 63) turnB ρ2 st3) (g := none) (I := I) (xs := rng 0 4 1) 0 ⟨n1, s1, none, none, none, none, rfl, rfl, h1⟩ (fun _ _ _ _ => trivial) (fun i x ρ st' hx hI => by
    obtain ⟨n3, s3', c, d, e, f, rfl, rfl, h3⟩ := hI
    obtain ⟨n4, s4, d', e', f', q, h4⟩ := turn_ok n3 s3' h3 (some (.scr ns)) c d e f x
    exact ⟨_, _, .inl q, n4, s4, _, _, _, _, rfl, rfl, h4⟩)
  have sf := ex_for (prg.env 63) [some (.scr ns), some (.loc 1), none, none, none, none] (hs n1 s1 []) (.name 2) (.rng (.cons (.cst (.int 4)) .nil)) turnB
  rw [it_rng1 (ev_cst ..) (small_of (by decide) (by decide)), cat_okS] at sf
  dsimp only at sf
  rw [show (4 : Int).toNat = 4 from rfl, ef] at sf
  unfold f21 b21
  dsimp only
  rw [exs_next st1, exs_next sf, exs_cons, ex_ret, ev_cst]
  show (match leaveS false [] true (hs n2 s2 []) with | some st2 => R.ok (Val.d (.bool true)) st2 | none => .no) = _
  have : leaveS false [] true (hs n2 s2 []) = some [] := by
    unfold leaveS
    rw [if_neg (by simp [hs]), if_pos ⟨rfl, .inl (by simp)⟩]
    simp
  rw [this]
end K01
set_option Elab.async false
set_option linter.all false
set_option maxRecDepth 100000
namespace K01
open PySem PySem.Spec PyProof.Rows L2 G
abbrev topS (i : Nat) : Stmt := PySem.Challenge.pw_laidtongues_k01_tongues_looked_at.main.body.getD i (.Pass ⟨0, 0, 0, 0⟩)
abbrev d0 : Dfn := ⟨"are_rising", topS 1, ["some", "one", "other"], f0⟩
abbrev d1 : Dfn := ⟨"is_name", topS 14, ["thing", "sign"], f1⟩
abbrev d2 : Dfn := ⟨"is_sign_text", topS 15, ["thing", "sign"], f2⟩
abbrev d3 : Dfn := ⟨"are_sign_texts", topS 16, ["thing", "one"], f3⟩
abbrev d4 : Dfn := ⟨"are_signs", topS 17, ["thing", "one"], f4⟩
abbrev d5 : Dfn := ⟨"is_text_of", topS 18, ["thing", "some"], f5⟩
abbrev d6 : Dfn := ⟨"are_pairs", topS 19, ["thing", "one"], f6⟩
abbrev d7 : Dfn := ⟨"is_end", topS 20, ["kind", "thing"], f7⟩
abbrev d8 : Dfn := ⟨"is_block", topS 21, ["pairs", "thing"], f8⟩
abbrev d9 : Dfn := ⟨"are_apart", topS 22, ["signs", "some", "one", "sign"], f9⟩
abbrev d10 : Dfn := ⟨"is_tongue", topS 23, ["thing", "name", "kind", "signs", "pairs", "part", "end", "block", "remark", "quote", "one"], f10⟩
abbrev d11 : Dfn := ⟨"_law_hand", topS 25, ["_law_script", "_law_seed", "_law_cell"], f11⟩
abbrev d12 : Dfn := ⟨"_law_pick", topS 26, ["_law_hand_here", "_law_many", "_law_digit", "_law_mixed"], f12⟩
abbrev d13 : Dfn := ⟨"_law_of", topS 27, ["_law_hand_here", "_law_some"], f13⟩
abbrev d14 : Dfn := ⟨"_law_signs", topS 28, ["_law_hand_here", "_law_barred", "_law_pool", "_law_found", "_law_sign", "_law_k", "_law_some", "_law_text", "_law_at", "_law_size"], f14⟩
abbrev d15 : Dfn := ⟨"_law_tongue", topS 29, ["_law_hand_here", "_law_name", "_law_k", "_law_kind", "_law_at", "_law_more", "_law_part", "_law_end", "_law_remark", "_law_quote", "_law_mask", "_law_every", "_law_pairs", "_law_pair", "_law_block", "_law_signs_here", "_law_one"], f15⟩
abbrev d16 : Dfn := ⟨"_law_one_of", topS 30, ["_law_thing", "_law_some"], f16⟩
abbrev d17 : Dfn := ⟨"_law_rises", topS 31, ["_law_some", "_law_one", "_law_other"], f17⟩
abbrev d18 : Dfn := ⟨"_law_are_signs", topS 32, ["_law_thing", "_law_one", "_law_sign"], f18⟩
abbrev d19 : Dfn := ⟨"_law_is_tongue", topS 33, ["_law_thing", "_law_name", "_law_kind", "_law_signs_here", "_law_pairs", "_law_part", "_law_end", "_law_block", "_law_remark", "_law_quote", "_law_sign", "_law_one", "_law_every", "_law_bars", "_law_pair"], f19⟩
abbrev d20 : Dfn := ⟨"_law_others", topS 34, ["_law_tongue_here", "_law_signs_here", "_law_pairs", "_law_menu", "_law_some", "_law_found", "_law_at", "_law_one"], f20⟩
abbrev d21 : Dfn := ⟨"law", topS 35, ["_law_script", "_law_hand_here", "_law_turn", "_law_tongue_here", "_law_thing", "_law_kept"], f21⟩
def tab : Tab := ⟨["are_rising", "is_name", "is_sign_text", "are_sign_texts", "are_signs", "is_text_of", "are_pairs", "is_end", "is_block", "are_apart", "is_tongue", "_law_hand", "_law_pick", "_law_of", "_law_signs", "_law_tongue", "_law_one_of", "_law_rises", "_law_are_signs", "_law_is_tongue", "_law_others", "law"], [("LETTERS", false), ("MOST_LETTERS", false), ("SIGN_SIGNS", false), ("MOST_SIGNS", false), ("ENDS", false), ("LINES", false), ("PAIRS", false), ("PART_SIGNS", false), ("REMARK_SIGNS", false), ("QUOTE_SIGNS", false), ("SIZE", false)], ["all", "zip", "len", "isinstance", "str", "tuple", "any", "set", "sorted", "range", "enumerate", "list", "repr"]⟩
def defs : List Dfn := [d0, d1, d2, d3, d4, d5, d6, d7, d8, d9, d10, d11, d12, d13, d14, d15, d16, d17, d18, d19, d20, d21]
theorem c0 : chkD tab d0 = true := by decide +kernel
theorem c1 : chkD tab d1 = true := by decide +kernel
theorem c2 : chkD tab d2 = true := by decide +kernel
theorem c3 : chkD tab d3 = true := by decide +kernel
theorem c4 : chkD tab d4 = true := by decide +kernel
theorem c5 : chkD tab d5 = true := by decide +kernel
theorem c6 : chkD tab d6 = true := by decide +kernel
theorem c7 : chkD tab d7 = true := by decide +kernel
theorem c8 : chkD tab d8 = true := by decide +kernel
theorem c9 : chkD tab d9 = true := by decide +kernel
theorem c10 : chkD tab d10 = true := by decide +kernel
theorem c11 : chkD tab d11 = true := by decide +kernel
theorem c12 : chkD tab d12 = true := by decide +kernel
theorem c13 : chkD tab d13 = true := by decide +kernel
theorem c14 : chkD tab d14 = true := by decide +kernel
theorem c15 : chkD tab d15 = true := by decide +kernel
theorem c16 : chkD tab d16 = true := by decide +kernel
theorem c17 : chkD tab d17 = true := by decide +kernel
theorem c18 : chkD tab d18 = true := by decide +kernel
theorem c19 : chkD tab d19 = true := by decide +kernel
theorem c20 : chkD tab d20 = true := by decide +kernel
theorem c21 : chkD tab d21 = true := by decide +kernel
theorem all_chk : defs.all (chkD tab) = true := by
  unfold defs
  simp only [List.all_cons, List.all_nil, Bool.and_true, Bool.and_eq_true]
  exact ⟨c0, c1, c2, c3, c4, c5, c6, c7, c8, c9, c10, c11, c12, c13, c14, c15, c16, c17, c18, c19, c20, c21⟩
end K01
set_option Elab.async false
set_option linter.all false
set_option maxRecDepth 100000
namespace K01
open PySem G
theorem law_true (ns : List Int) (h : ns.length ≤ 63) (hb : ∀ z ∈ ns, Builtin.Int.intBits z ≤ 1048576) : ∃ st, phi prg 64 21 [.scr ns] [] = .ok (.d (.bool true)) st := law_run ns h
end K01
open PySem PySem.W PyProof.Rows
set_option maxHeartbeats 0 in
theorem PySem.Challenge.cw_laidtongues_k01_tongues_looked_at_holds : PySem.Challenge.rw_laidtongues_k01_tongues_looked_at.Holds := by
  w_on; o_law; k_head; (case hw => w_witness2)
  k_fill
  refine G.walk_G (l := PySem.Challenge.rw_laidtongues_k01_tongues_looked_at) (n := 63) (k := 64) (i := 21) (T := K01.tab) (Pr := K01.prg) (defs := K01.defs) (dd := K01.d21) (x := "_law_script") rfl (by decide) rfl ⟨rfl, by decide, by decide⟩ rfl (fun w h Y => PySem.W.kIn_of Y) rfl rfl K01.all_chk rfl rfl rfl K01.law_true ?A
  case A =>
    intro w mg h KX GX
    refine G.facts_of ?F ?G ?B
    case F =>
      refine' (.cons ?f0 (.cons ?f1 (.cons ?f2 (.cons ?f3 (.cons ?f4 (.cons ?f5 (.cons ?f6 (.cons ?f7 (.cons ?f8 (.cons ?f9 (.cons ?f10 (.cons ?f11 (.cons ?f12 (.cons ?f13 (.cons ?f14 (.cons ?f15 (.cons ?f16 (.cons ?f17 (.cons ?f18 (.cons ?f19 (.cons ?f20 (.cons ?f21 .nil))))))))))))))))))))))
      case f0 =>
        refine' G.fn_fact KX GX ?a ?l ?c ?k ?b
        (case a => k_is); (case l => k_is); (case c => k_is); (case k => k_is)
        case b => exact fun _ _ _ _ _ _ us hl => match us, hl with | [_], _ => rfl
      case f1 =>
        refine' G.fn_fact KX GX ?a ?l ?c ?k ?b
        (case a => k_is); (case l => k_is); (case c => k_is); (case k => k_is)
        case b => exact fun _ _ _ _ _ _ us hl => match us, hl with | [_], _ => rfl
      case f2 =>
        refine' G.fn_fact KX GX ?a ?l ?c ?k ?b
        (case a => k_is); (case l => k_is); (case c => k_is); (case k => k_is)
        case b => exact fun _ _ _ _ _ _ us hl => match us, hl with | [_], _ => rfl
      case f3 =>
        refine' G.fn_fact KX GX ?a ?l ?c ?k ?b
        (case a => k_is); (case l => k_is); (case c => k_is); (case k => k_is)
        case b => exact fun _ _ _ _ _ _ us hl => match us, hl with | [_], _ => rfl
      case f4 =>
        refine' G.fn_fact KX GX ?a ?l ?c ?k ?b
        (case a => k_is); (case l => k_is); (case c => k_is); (case k => k_is)
        case b => exact fun _ _ _ _ _ _ us hl => match us, hl with | [_], _ => rfl
      case f5 =>
        refine' G.fn_fact KX GX ?a ?l ?c ?k ?b
        (case a => k_is); (case l => k_is); (case c => k_is); (case k => k_is)
        case b => exact fun _ _ _ _ _ _ us hl => match us, hl with | [_, _], _ => rfl
      case f6 =>
        refine' G.fn_fact KX GX ?a ?l ?c ?k ?b
        (case a => k_is); (case l => k_is); (case c => k_is); (case k => k_is)
        case b => exact fun _ _ _ _ _ _ us hl => match us, hl with | [_], _ => rfl
      case f7 =>
        refine' G.fn_fact KX GX ?a ?l ?c ?k ?b
        (case a => k_is); (case l => k_is); (case c => k_is); (case k => k_is)
        case b => exact fun _ _ _ _ _ _ us hl => match us, hl with | [_, _], _ => rfl
      case f8 =>
        refine' G.fn_fact KX GX ?a ?l ?c ?k ?b
        (case a => k_is); (case l => k_is); (case c => k_is); (case k => k_is)
        case b => exact fun _ _ _ _ _ _ us hl => match us, hl with | [_, _], _ => rfl
      case f9 =>
        refine' G.fn_fact KX GX ?a ?l ?c ?k ?b
        (case a => k_is); (case l => k_is); (case c => k_is); (case k => k_is)
        case b => exact fun _ _ _ _ _ _ us hl => match us, hl with | [_, _], _ => rfl
      case f10 =>
        refine' G.fn_fact KX GX ?a ?l ?c ?k ?b
        (case a => k_is); (case l => k_is); (case c => k_is); (case k => k_is)
        case b => exact fun _ _ _ _ _ _ us hl => match us, hl with | [_], _ => rfl
      case f11 =>
        refine' G.fn_fact KX GX ?a ?l ?c ?k ?b
        (case a => k_is); (case l => k_is); (case c => k_is); (case k => k_is)
        case b => exact fun _ _ _ _ _ _ us hl => match us, hl with | [_], _ => rfl
      case f12 =>
        refine' G.fn_fact KX GX ?a ?l ?c ?k ?b
        (case a => k_is); (case l => k_is); (case c => k_is); (case k => k_is)
        case b => exact fun _ _ _ _ _ _ us hl => match us, hl with | [_, _], _ => rfl
      case f13 =>
        refine' G.fn_fact KX GX ?a ?l ?c ?k ?b
        (case a => k_is); (case l => k_is); (case c => k_is); (case k => k_is)
        case b => exact fun _ _ _ _ _ _ us hl => match us, hl with | [_, _], _ => rfl
      case f14 =>
        refine' G.fn_fact KX GX ?a ?l ?c ?k ?b
        (case a => k_is); (case l => k_is); (case c => k_is); (case k => k_is)
        case b => exact fun _ _ _ _ _ _ us hl => match us, hl with | [_, _], _ => rfl
      case f15 =>
        refine' G.fn_fact KX GX ?a ?l ?c ?k ?b
        (case a => k_is); (case l => k_is); (case c => k_is); (case k => k_is)
        case b => exact fun _ _ _ _ _ _ us hl => match us, hl with | [_], _ => rfl
      case f16 =>
        refine' G.fn_fact KX GX ?a ?l ?c ?k ?b
        (case a => k_is); (case l => k_is); (case c => k_is); (case k => k_is)
        case b => exact fun _ _ _ _ _ _ us hl => match us, hl with | [_, _], _ => rfl
      case f17 =>
        refine' G.fn_fact KX GX ?a ?l ?c ?k ?b
        (case a => k_is); (case l => k_is); (case c => k_is); (case k => k_is)
        case b => exact fun _ _ _ _ _ _ us hl => match us, hl with | [_], _ => rfl
      case f18 =>
        refine' G.fn_fact KX GX ?a ?l ?c ?k ?b
        (case a => k_is); (case l => k_is); (case c => k_is); (case k => k_is)
        case b => exact fun _ _ _ _ _ _ us hl => match us, hl with | [_], _ => rfl
      case f19 =>
        refine' G.fn_fact KX GX ?a ?l ?c ?k ?b
        (case a => k_is); (case l => k_is); (case c => k_is); (case k => k_is)
        case b => exact fun _ _ _ _ _ _ us hl => match us, hl with | [_], _ => rfl
      case f20 =>
        refine' G.fn_fact KX GX ?a ?l ?c ?k ?b
        (case a => k_is); (case l => k_is); (case c => k_is); (case k => k_is)
        case b => exact fun _ _ _ _ _ _ us hl => match us, hl with | [_], _ => rfl
      case f21 =>
        refine' G.fn_fact KX GX ?a ?l ?c ?k ?b
        (case a => k_is); (case l => k_is); (case c => k_is); (case k => k_is)
        case b => exact fun _ _ _ _ _ _ us hl => match us, hl with | [_], _ => rfl
    case G =>
      refine' (.cons ?gg0 (.cons ?gg1 (.cons ?gg2 (.cons ?gg3 (.cons ?gg4 (.cons ?gg5 (.cons ?gg6 (.cons ?gg7 (.cons ?gg8 (.cons ?gg9 (.cons ?gg10 .nil)))))))))))
      case gg0 =>
        refine' G.gf_plain KX GX ?a ?r
        (case a => k_is); (case r => rfl)
      case gg1 =>
        refine' G.gf_plain KX GX ?a ?r
        (case a => k_is); (case r => rfl)
      case gg2 =>
        refine' G.gf_plain KX GX ?a ?r
        (case a => k_is); (case r => rfl)
      case gg3 =>
        refine' G.gf_plain KX GX ?a ?r
        (case a => k_is); (case r => rfl)
      case gg4 =>
        refine' G.gf_plain KX GX ?a ?r
        (case a => k_is); (case r => rfl)
      case gg5 =>
        refine' G.gf_plain KX GX ?a ?r
        (case a => k_is); (case r => rfl)
      case gg6 =>
        refine' G.gf_plain KX GX ?a ?r
        (case a => k_is); (case r => rfl)
      case gg7 =>
        refine' G.gf_plain KX GX ?a ?r
        (case a => k_is); (case r => rfl)
      case gg8 =>
        refine' G.gf_plain KX GX ?a ?r
        (case a => k_is); (case r => rfl)
      case gg9 =>
        refine' G.gf_plain KX GX ?a ?r
        (case a => k_is); (case r => rfl)
      case gg10 =>
        refine' G.gf_plain KX GX ?a ?r
        (case a => k_is); (case r => rfl)
    case B =>
      refine' (.cons (mg_none_of KX GX ?bb0) (.cons (mg_none_of KX GX ?bb1) (.cons (mg_none_of KX GX ?bb2) (.cons (mg_none_of KX GX ?bb3) (.cons (mg_none_of KX GX ?bb4) (.cons (mg_none_of KX GX ?bb5) (.cons (mg_none_of KX GX ?bb6) (.cons (mg_none_of KX GX ?bb7) (.cons (mg_none_of KX GX ?bb8) (.cons (mg_none_of KX GX ?bb9) (.cons (mg_none_of KX GX ?bb10) (.cons (mg_none_of KX GX ?bb11) (.cons (mg_none_of KX GX ?bb12) .nil)))))))))))))
      (case bb0 => k_is)
      (case bb1 => k_is)
      (case bb2 => k_is)
      (case bb3 => k_is)
      (case bb4 => k_is)
      (case bb5 => k_is)
      (case bb6 => k_is)
      (case bb7 => k_is)
      (case bb8 => k_is)
      (case bb9 => k_is)
      (case bb10 => k_is)
      (case bb11 => k_is)
      (case bb12 => k_is)
