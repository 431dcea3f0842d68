import PyProof.Rows.All
import Wide.All
import OpenK.AllK
import Wide.FinOn
import HandS.ForMost
import HandS.IsInst
import HandS.Dict
import KE.KTupSum
import KE.KDictKeyed
import HandS.TupAny
import HandS.TupLe
import HandS.Style
import HandS.Deep
import HandS.Walk
import HandS.Zip
import HandS.Wide
import KE.DataEq
import KE.DataCmp
import KE.DataMinMax
import HandS.Iter
import HandS.TupLen
import KE.KDictDisplayH
import HandS.Conv
import KE.SortData
import HandS.DictComp
import KE.KEqDict
import KE.KDictZip
import PyProof.Rows.RowBridgeK
import HandS.OwnEq
import PySem.Challenge.RW_jobsenders_k46_whole_fifo
set_option Elab.async false
set_option linter.all false
set_option maxRecDepth 100000
namespace Vd
open PySem L2
/-! ### data and its bearing in the heap -/
abbrev Dt := PyData
structure Kx where
  fr : PySem.W.Frag
  w : World
instance : Coe Kx PySem.W.Frag := ⟨Kx.fr⟩
/-- what a field of an object holds -/
inductive Fd where
  | im (d : Dt)
  | ow (ds : List Dt)
  | od (kvs : List (Dt × Dt))
abbrev ObF := List (Str × Fd)
/-- what may be changed of the entry's things; of which of them a name may hold the root -/
structure Ow where
  has : Addr → Prop
  top : Addr → Prop
instance : CoeFun Ow fun _ => Addr → Prop := ⟨Ow.has⟩
def Ow.nil : Ow := ⟨fun _ => False, fun _ => False⟩
def Ow.one (p : Addr) : Ow := ⟨(· = p), (· = p)⟩
inductive Sl where
  | im (d : Dt)
  /-- a list of one's own; io: it is the caller's -/
  | ow (io : Bool) (ds : List Dt)
  /-- a dict of one's own -/
  | od (io : Bool) (kvs : List (Dt × Dt))
  /-- a list of lists, all one's own -/
  | ol (io : Bool) (dss : List (List Dt))
  /-- a dict of lists, all one's own -/
  | og (io : Bool) (kvs : List (Dt × List Dt))
  /-- a dict that is walked: its object, its entries -/
  | fd (o : Obj) (es : List (NestedKey × Addr × V)) (kvs : List (Dt × Dt))
  /-- an instance of one's own: its class, its fields -/
  | ob (io : Bool) (nm : Str) (fs : ObF)
  /-- a dict of one's own with the one key None -/
  | on (io : Bool) (d : Dt)
def Sl.io : Sl → Bool
  | .im _ => false
  | .ow b _ => b
  | .od b _ => b
  | .ol b _ => b
  | .og b _ => b
  | .fd _ _ _ => false
  | .ob b _ _ => b
  | .on b _ => b
/-- what the names hold, by slots -/
abbrev Nv := List (Option Sl)

/-- keys of dicts -/
def pAll (o : Option NestedKey) (r : Option (List NestedKey)) : Option (List NestedKey) := match o, r with
  | some k, some ks => some (k :: ks)
  | _, _ => none
def pTup : Option (List NestedKey) → Option NestedKey
  | some ks => some (.tup ks)
  | none => none
mutual
def kOf : Dt → Option NestedKey
  | .none => some .none
  | .bool b => some (.num (if b = true then 1 else 0))
  | .int i => some (.num i)
  | .str x => some (.text x)
  | .tuple ds => pTup (ksOf ds)
  | .list _ => none
  | .dict _ => none
def ksOf : List Dt → Option (List NestedKey)
  | [] => some []
  | d :: ds => pAll (kOf d) (ksOf ds)
end
def keyOf : Dt → Option NestedKey
  | .tuple ds => match kOf (.tuple ds) with
    | some k => if k.depth ≤ 8 then some k else none
    | none => none
  | _ => none

/-- a dict with keys that are tuples: for each entry the key, where its tuple stands, the value -/
abbrev Ent := NestedKey × Addr × V
def EntOk (w : World) (p : Ent) (e : DictEntry) : Prop := e.hash = p.1.hash w ∧ e.key = .ref p.2.1 ∧ RelV p.2.2 e.val
def DRaw (w : World) (a : Addr) (es : List Ent) (h : Heap) : Prop :=
  es.length ≤ sizeLine ∧ (a == sysModules) = false ∧ (es.map (·.1)).Nodup ∧ ∃ o ar ep, h.get? a = some o ∧ o.ExactDict ∧ o.data = .dict ar ep ∧ Paired (EntOk w) es ar.toList
def dN (w : World) (a : Addr) (es : List Ent) : HO := .ext (DRaw w a es)

/-- a dict with the one key None -/
def DOne (w : World) (a : Addr) (v : V) (h : Heap) : Prop :=
  (a == sysModules) = false ∧ ∃ o ar ep en, h.get? a = some o ∧ o.ExactDict ∧ o.data = .dict ar ep ∧ ar.toList = [en] ∧ en.hash = NestedKey.none.hash w ∧ en.key = .none ∧ RelV v en.val
def dO (w : World) (a : Addr) (v : V) : HO := .ext (DOne w a v)

/-- a list that never changes any more -/
def FzL (K : PySem.W.Frag) (H : Hp) (a : Addr) (xs : List V) : Prop :=
  (∃ o, H a = some (.frz o (.lst xs))) ∨
    ∃ (o : Obj) (its : Array Value) (n : Nat), K.lookup a = some o ∧ o.cls = .type "list" ∧ o.dict = none ∧ o.data = .seq its n ∧ its.size ≤ sizeLine ∧ Vals xs its.toList
theorem FzL.sq {K : PySem.W.Frag} {H : Hp} {a : Addr} {xs : List V} (h : FzL K H a xs) : SqL K H a xs := by
  rcases h with ⟨o, h⟩ | h
  · exact .inl (.inr ⟨o, h⟩)
  · exact .inr h

mutual
def Rp (K : Kx) (H : Hp) : Dt → V → Prop
  | .none, v => v = .non
  | .bool b, v => v = .bl b
  | .int i, v => v = .int i
  | .str x, v => v = .str x
  | .list ds, v => ∃ a xs, v = .ref a ∧ FzL K H a xs ∧ RpL K H ds xs
  | .tuple ds, v => ∃ a xs, v = .ref a ∧ SqT K H a xs ∧ RpL K H ds xs
  | .dict kvs, v => ∃ a es o, v = .ref a ∧ H a = some (.frz o (dN K.w a es)) ∧ RpD K H kvs es
def RpL (K : Kx) (H : Hp) : List Dt → List V → Prop
  | [], xs => xs = []
  | d :: ds, xs => ∃ v r, xs = v :: r ∧ Rp K H d v ∧ RpL K H ds r
def RpD (K : Kx) (H : Hp) : List (Dt × Dt) → List Ent → Prop
  | [], es => es = []
  | p :: r, es => ∃ e r', es = e :: r' ∧ RpP K H p e ∧ RpD K H r r'
def RpP (K : Kx) (H : Hp) : Dt × Dt → Ent → Prop
  | (k, d), e => keyOf k = some e.1 ∧ Rp K H k (.ref e.2.1) ∧ Rp K H d e.2.2
end

/-- what never changes is kept -/
def Kp (H H' : Hp) : Prop := (∀ a xs, H a = some (.tup xs) → H' a = some (.tup xs)) ∧ ∀ a o u, H a = some (.frz o u) → H' a = some (.frz o u)
theorem Kp.refl (H : Hp) : Kp H H := ⟨fun _ _ h => h, fun _ _ _ h => h⟩
theorem Kp.trans {H H1 H2 : Hp} (a : Kp H H1) (b : Kp H1 H2) : Kp H H2 := ⟨fun x xs h => b.1 x xs (a.1 x xs h), fun x o u h => b.2 x o u (a.2 x o u h)⟩
theorem Kp.of_same {H H' : Hp} (e : Same H H') : Kp H H' := ⟨fun a _ h => e a _ h, fun a _ _ h => e a _ h⟩
theorem same_upd {H : Hp} {p : Addr} {o : HO} (h : H p = none) : Same H (upd H p o) := fun b x e => by
  rw [upd_ne (ne_of_none e h)]
  exact e
theorem Kp.new {H : Hp} {p : Addr} {o : HO} (h : H p = none) : Kp H (upd H p o) := .of_same (same_upd h)
theorem Kp.lst {H : Hp} {p : Addr} {xs : List V} {o : HO} (h : H p = some (.lst xs)) : Kp H (upd H p o) :=
  ⟨fun a ys e => by rw [upd_ne (ne_of e h (fun z => nomatch z))]; exact e, fun a ob u e => by rw [upd_ne (ne_of e h (fun z => nomatch z))]; exact e⟩
theorem Kp.ext {H : Hp} {p : Addr} {φ : Heap → Prop} {o : HO} (h : H p = some (.ext φ)) : Kp H (upd H p o) :=
  ⟨fun a ys e => by rw [upd_ne (ne_of e h (fun z => nomatch z))]; exact e, fun a ob u e => by rw [upd_ne (ne_of e h (fun z => nomatch z))]; exact e⟩

section
variable {K : Kx} {H H' : Hp}
theorem FzL.kp {K : PySem.W.Frag} {a : Addr} {xs : List V} (k : Kp H H') (h : FzL K H a xs) : FzL K H' a xs := by
  rcases h with ⟨o, h⟩ | h
  · exact .inl ⟨o, k.2 _ _ _ h⟩
  · exact .inr h
theorem SqT.kp {K : PySem.W.Frag} {a : Addr} {xs : List V} (k : Kp H H') (h : SqT K H a xs) : SqT K H' a xs := by
  rcases h with (h | ⟨o, h⟩) | h
  · exact .inl (.inl (k.1 _ _ h))
  · exact .inl (.inr ⟨o, k.2 _ _ _ h⟩)
  · exact .inr h
mutual
theorem Rp.kp (k : Kp H H') : ∀ (d : Dt) (v : V), Rp K H d v → Rp K H' d v
  | .none, _, h => h
  | .bool _, _, h => h
  | .int _, _, h => h
  | .str _, _, h => h
  | .list ds, _, h => by
    obtain ⟨a, xs, e, f, r⟩ := h
    exact ⟨a, xs, e, f.kp k, RpL.kp k ds xs r⟩
  | .tuple ds, _, h => by
    obtain ⟨a, xs, e, f, r⟩ := h
    exact ⟨a, xs, e, SqT.kp k f, RpL.kp k ds xs r⟩
  | .dict kvs, _, h => by
    obtain ⟨a, es, o, e, f, r⟩ := h
    exact ⟨a, es, o, e, k.2 _ _ _ f, RpD.kp k kvs es r⟩
theorem RpL.kp (k : Kp H H') : ∀ (ds : List Dt) (xs : List V), RpL K H ds xs → RpL K H' ds xs
  | [], _, h => h
  | d :: ds, _, h => by
    obtain ⟨v, r, e, h1, h2⟩ := h
    exact ⟨v, r, e, Rp.kp k d v h1, RpL.kp k ds r h2⟩
theorem RpD.kp (k : Kp H H') : ∀ (ds : List (Dt × Dt)) (xs : List Ent), RpD K H ds xs → RpD K H' ds xs
  | [], _, h => h
  | p :: ds, _, h => by
    obtain ⟨v, r, e, h1, h2⟩ := h
    exact ⟨v, r, e, RpP.kp k p v h1, RpD.kp k ds r h2⟩
theorem RpP.kp (k : Kp H H') : ∀ (p : Dt × Dt) (e : Ent), RpP K H p e → RpP K H' p e
  | (a, d), e, h => by
    obtain ⟨h1, h2, h3⟩ := h
    exact ⟨h1, Rp.kp k a _ h2, Rp.kp k d _ h3⟩
end
theorem RpL.length : ∀ {ds : List Dt} {xs : List V}, RpL K H ds xs → xs.length = ds.length
  | [], _, h => by cases h; rfl
  | d :: ds, _, h => by
    obtain ⟨v, r, rfl, _, h2⟩ := h
    simp [RpL.length h2]
theorem RpL.get : ∀ {ds : List Dt} {xs : List V} {i : Nat} {d : Dt}, RpL K H ds xs → ds[i]? = some d → ∃ v, xs[i]? = some v ∧ Rp K H d v
  | [], _, _, _, _, e => by simp at e
  | d :: ds, _, 0, _, h, e => by
    obtain ⟨v, r, rfl, h1, _⟩ := h
    simp at e; subst e
    exact ⟨v, rfl, h1⟩
  | d :: ds, _, i + 1, d', h, e => by
    obtain ⟨v, r, rfl, _, h2⟩ := h
    obtain ⟨u, e1, e2⟩ := RpL.get (i := i) h2 (by simpa using e)
    exact ⟨u, by simpa using e1, e2⟩
theorem RpL.append : ∀ {ds es : List Dt} {xs ys : List V}, RpL K H ds xs → RpL K H es ys → RpL K H (ds ++ es) (xs ++ ys)
  | [], _, _, _, h, h' => by cases h; exact h'
  | d :: ds, _, _, _, h, h' => by
    obtain ⟨v, r, rfl, h1, h2⟩ := h
    exact ⟨v, _, rfl, h1, RpL.append h2 h'⟩
theorem RpL.one {d : Dt} {v : V} (h : Rp K H d v) : RpL K H [d] [v] := ⟨v, [], rfl, h, rfl⟩
theorem RpL.drop : ∀ {ds : List Dt} {xs : List V} (n : Nat), RpL K H ds xs → RpL K H (ds.drop n) (xs.drop n)
  | _, _, 0, h => h
  | [], _, n + 1, h => by cases h; rfl
  | d :: ds, _, n + 1, h => by
    obtain ⟨v, r, rfl, _, h2⟩ := h
    exact RpL.drop n h2
theorem RpL.take : ∀ {ds : List Dt} {xs : List V} (n : Nat), RpL K H ds xs → RpL K H (ds.take n) (xs.take n)
  | [], _, n, h => by cases h; cases n <;> rfl
  | d :: ds, _, 0, h => rfl
  | d :: ds, _, n + 1, h => by
    obtain ⟨v, r, rfl, h1, h2⟩ := h
    exact ⟨v, _, rfl, h1, RpL.take n h2⟩
theorem RpL.set : ∀ {ds : List Dt} {xs : List V} {d : Dt} {v : V} (n : Nat), RpL K H ds xs → Rp K H d v → RpL K H (ds.set n d) (xs.set n v)
  | [], _, _, _, n, h, _ => by cases h; cases n <;> rfl
  | d :: ds, _, _, _, 0, h, h' => by
    obtain ⟨v, r, rfl, h1, h2⟩ := h
    exact ⟨_, _, rfl, h', h2⟩
  | d :: ds, _, _, _, n + 1, h, h' => by
    obtain ⟨v, r, rfl, h1, h2⟩ := h
    exact ⟨_, _, rfl, h1, RpL.set n h2 h'⟩
theorem RpL.reverse : ∀ {ds : List Dt} {xs : List V}, RpL K H ds xs → RpL K H ds.reverse xs.reverse
  | [], _, h => by cases h; rfl
  | d :: ds, _, h => by
    obtain ⟨v, r, rfl, h1, h2⟩ := h
    rw [List.reverse_cons, List.reverse_cons]
    exact (RpL.reverse h2).append (.one h1)
theorem RpL.eraseIdx : ∀ {ds : List Dt} {xs : List V} (n : Nat), RpL K H ds xs → RpL K H (ds.eraseIdx n) (xs.eraseIdx n)
  | [], _, n, h => by cases h; cases n <;> rfl
  | d :: ds, _, 0, h => by
    obtain ⟨v, r, rfl, h1, h2⟩ := h
    exact h2
  | d :: ds, _, n + 1, h => by
    obtain ⟨v, r, rfl, h1, h2⟩ := h
    exact ⟨v, _, rfl, h1, RpL.eraseIdx n h2⟩
end

/-- lists of one's own, at the addresses -/
def Rows (K : Kx) (H : Hp) : List (List Dt) → List Addr → Prop
  | [], as => as = []
  | ds :: r, as => ∃ a r' ys, as = a :: r' ∧ H a = some (.lst ys) ∧ RpL K H ds ys ∧ Rows K H r r'
def RowsD (K : Kx) (H : Hp) : List (Dt × List Dt) → List Ent → List Addr → Prop
  | [], es, as => es = [] ∧ as = []
  | p :: r, es, as => ∃ e es' a r' ys, es = e :: es' ∧ as = a :: r' ∧ keyOf p.1 = some e.1 ∧ Rp K H p.1 (.ref e.2.1) ∧ e.2.2 = .ref a ∧ H a = some (.lst ys) ∧ RpL K H p.2 ys ∧ RowsD K H r es' r'
/-- the fields of an instance -/
def FdsOk (K : Kx) (H : Hp) : ObF → List (Str × V) → List Addr → Prop
  | [], vs, as => vs = [] ∧ as = []
  | (n, .im d) :: r, vs, as => ∃ v vs', vs = (n, v) :: vs' ∧ Rp K H d v ∧ FdsOk K H r vs' as
  | (n, .ow ds) :: r, vs, as => ∃ b ys vs' as', vs = (n, .ref b) :: vs' ∧ as = b :: as' ∧ H b = some (.lst ys) ∧ RpL K H ds ys ∧ FdsOk K H r vs' as'
  | (n, .od kvs) :: r, vs, as => ∃ b es vs' as', vs = (n, .ref b) :: vs' ∧ as = b :: as' ∧ H b = some (dN K.w b es) ∧ RpD K H kvs es ∧ FdsOk K H r vs' as'
/-- the class of that name in the text -/
def ClsAt (K : Kx) (nm : Str) (C : Addr) : Prop := PySem.W.nsIn K.fr mainGlobals nm = some (some (.ref C))
def SlOk (K : Kx) (H : Hp) (v : V) : Sl → List Addr → Prop
  | .im d, fp => Rp K H d v ∧ fp = []
  | .ow _ ds, fp => ∃ a xs, v = .ref a ∧ fp = [a] ∧ H a = some (.lst xs) ∧ RpL K H ds xs
  | .od _ kvs, fp => ∃ a es, v = .ref a ∧ fp = [a] ∧ H a = some (dN K.w a es) ∧ RpD K H kvs es
  | .ol _ dss, fp => ∃ a as, v = .ref a ∧ fp = a :: as ∧ fp.Nodup ∧ H a = some (.lst (as.map V.ref)) ∧ Rows K H dss as
  | .og _ kvs, fp => ∃ a es as, v = .ref a ∧ fp = a :: as ∧ fp.Nodup ∧ H a = some (dN K.w a es) ∧ RowsD K H kvs es as
  | .fd o es kvs, fp => ∃ a, v = .ref a ∧ H a = some (.frz o (dN K.w a es)) ∧ RpD K H kvs es ∧ fp = []
  | .ob _ nm fs, fp => ∃ a C dx vs as, v = .ref a ∧ fp = a :: as ∧ fp.Nodup ∧ ClsAt K nm C ∧ H a = some (.ins C dx vs) ∧ FdsOk K H fs vs as
  | .on _ d, fp => ∃ a x, v = .ref a ∧ fp = [a] ∧ H a = some (dO K.w a x) ∧ Rp K H d x
section
variable {K : Kx} {H H' : Hp}
theorem Rows.kp (k : Kp H H') : ∀ {dss : List (List Dt)} {as : List Addr}, (∀ b ∈ as, ∀ u, H b = some u → H' b = some u) → Rows K H dss as → Rows K H' dss as
  | [], _, _, h => h
  | ds :: r, _, ho, h => by
    obtain ⟨a, r', ys, rfl, h1, h2, h3⟩ := h
    exact ⟨a, r', ys, rfl, ho a List.mem_cons_self _ h1, RpL.kp k _ _ h2, Rows.kp k (fun b hb => ho b (List.mem_cons_of_mem _ hb)) h3⟩
theorem RowsD.kp (k : Kp H H') : ∀ {dss : List (Dt × List Dt)} {es : List Ent} {as : List Addr}, (∀ b ∈ as, ∀ u, H b = some u → H' b = some u) → RowsD K H dss es as → RowsD K H' dss es as
  | [], _, _, _, h => h
  | ds :: r, _, _, ho, h => by
    obtain ⟨e, es', a, r', ys, rfl, rfl, h0, h1, h2, h3, h4, h5⟩ := h
    exact ⟨e, es', a, r', ys, rfl, rfl, h0, Rp.kp k _ _ h1, h2, ho a List.mem_cons_self _ h3, RpL.kp k _ _ h4, RowsD.kp k (fun b hb => ho b (List.mem_cons_of_mem _ hb)) h5⟩
theorem Rows.there : ∀ {dss : List (List Dt)} {as : List Addr}, Rows K H dss as → ∀ b ∈ as, ∃ ys, H b = some (.lst ys)
  | [], _, h, b, hb => by cases h; cases hb
  | ds :: r, _, h, b, hb => by
    obtain ⟨a, r', ys, rfl, h1, h2, h3⟩ := h
    rcases List.mem_cons.mp hb with rfl | hb
    · exact ⟨ys, h1⟩
    · exact Rows.there h3 b hb
theorem RowsD.there : ∀ {dss : List (Dt × List Dt)} {es : List Ent} {as : List Addr}, RowsD K H dss es as → ∀ b ∈ as, ∃ ys, H b = some (.lst ys)
  | [], _, _, h, b, hb => by obtain ⟨rfl, rfl⟩ := h; cases hb
  | ds :: r, _, _, h, b, hb => by
    obtain ⟨e, es', a, r', ys, rfl, rfl, h0, h1, h2, h3, h4, h5⟩ := h
    rcases List.mem_cons.mp hb with rfl | hb
    · exact ⟨ys, h3⟩
    · exact RowsD.there h5 b hb
theorem FdsOk.kp (k : Kp H H') : ∀ {fs : ObF} {vs : List (Str × V)} {as : List Addr}, (∀ b ∈ as, ∀ u, H b = some u → H' b = some u) → FdsOk K H fs vs as → FdsOk K H' fs vs as
  | [], _, _, _, h => h
  | (n, .im d) :: r, _, _, ho, h => by
    obtain ⟨v, vs', rfl, h1, h2⟩ := h
    exact ⟨v, vs', rfl, Rp.kp k _ _ h1, FdsOk.kp k ho h2⟩
  | (n, .ow ds) :: r, _, _, ho, h => by
    obtain ⟨b, ys, vs', as', rfl, rfl, h1, h2, h3⟩ := h
    exact ⟨b, ys, vs', as', rfl, rfl, ho b List.mem_cons_self _ h1, RpL.kp k _ _ h2, FdsOk.kp k (fun c hc => ho c (List.mem_cons_of_mem _ hc)) h3⟩
  | (n, .od kvs) :: r, _, _, ho, h => by
    obtain ⟨b, es, vs', as', rfl, rfl, h1, h2, h3⟩ := h
    exact ⟨b, es, vs', as', rfl, rfl, ho b List.mem_cons_self _ h1, RpD.kp k _ _ h2, FdsOk.kp k (fun c hc => ho c (List.mem_cons_of_mem _ hc)) h3⟩
theorem FdsOk.there : ∀ {fs : ObF} {vs : List (Str × V)} {as : List Addr}, FdsOk K H fs vs as → ∀ b ∈ as, ∃ u, H b = some u ∧ ((∃ ys, u = .lst ys) ∨ ∃ es, u = dN K.w b es)
  | [], _, _, h, b, hb => by obtain ⟨_, rfl⟩ := h; cases hb
  | (n, .im d) :: r, _, _, h, b, hb => by
    obtain ⟨v, vs', rfl, h1, h2⟩ := h
    exact FdsOk.there h2 b hb
  | (n, .ow ds) :: r, _, _, h, c, hc => by
    obtain ⟨b, ys, vs', as', rfl, rfl, h1, h2, h3⟩ := h
    rcases List.mem_cons.mp hc with rfl | hc
    · exact ⟨_, h1, .inl ⟨ys, rfl⟩⟩
    · exact FdsOk.there h3 c hc
  | (n, .od kvs) :: r, _, _, h, c, hc => by
    obtain ⟨b, es, vs', as', rfl, rfl, h1, h2, h3⟩ := h
    rcases List.mem_cons.mp hc with rfl | hc
    · exact ⟨_, h1, .inr ⟨es, rfl⟩⟩
    · exact FdsOk.there h3 c hc
theorem SlOk.kp {v : V} {s : Sl} {fp : List Addr} (k : Kp H H') (ho : ∀ b ∈ fp, ∀ u, H b = some u → H' b = some u) (h : SlOk K H v s fp) : SlOk K H' v s fp := by
  cases s with
  | im d => exact ⟨Rp.kp k d v h.1, h.2⟩
  | ow _ ds =>
    obtain ⟨a, xs, e, rfl, h1, h2⟩ := h
    exact ⟨a, xs, e, rfl, ho a List.mem_cons_self _ h1, h2.kp k⟩
  | od _ kvs =>
    obtain ⟨a, xs, e, rfl, h1, h2⟩ := h
    exact ⟨a, xs, e, rfl, ho a List.mem_cons_self _ h1, h2.kp k⟩
  | ol _ dss =>
    obtain ⟨a, as, e, rfl, nd, h1, h2⟩ := h
    exact ⟨a, as, e, rfl, nd, ho a List.mem_cons_self _ h1, h2.kp k fun b hb => ho b (List.mem_cons_of_mem _ hb)⟩
  | og _ kvs =>
    obtain ⟨a, es, as, e, rfl, nd, h1, h2⟩ := h
    exact ⟨a, es, as, e, rfl, nd, ho a List.mem_cons_self _ h1, h2.kp k fun b hb => ho b (List.mem_cons_of_mem _ hb)⟩
  | fd o es kvs =>
    obtain ⟨a, e, h1, h2, h3⟩ := h
    exact ⟨a, e, k.2 _ _ _ h1, h2.kp k, h3⟩
  | ob _ nm fs =>
    obtain ⟨a, C, dx, vs, as, e, rfl, nd, hc, h1, h2⟩ := h
    exact ⟨a, C, dx, vs, as, e, rfl, nd, hc, ho a List.mem_cons_self _ h1, h2.kp k fun b hb => ho b (List.mem_cons_of_mem _ hb)⟩
  | on _ d =>
    obtain ⟨a, x, e, rfl, h1, h2⟩ := h
    exact ⟨a, x, e, rfl, ho a List.mem_cons_self _ h1, Rp.kp k _ _ h2⟩
theorem SlOk.there {v : V} {s : Sl} {fp : List Addr} (h : SlOk K H v s fp) : ∀ b ∈ fp, H b ≠ none := by
  cases s with
  | im d => obtain ⟨_, rfl⟩ := h; exact fun b hb => by cases hb
  | ow _ ds =>
    obtain ⟨a, xs, e, rfl, h1, h2⟩ := h
    intro b hb
    cases List.mem_singleton.mp hb
    rw [h1]; exact fun z => nomatch z
  | od _ kvs =>
    obtain ⟨a, xs, e, rfl, h1, h2⟩ := h
    intro b hb
    cases List.mem_singleton.mp hb
    rw [h1]; exact fun z => nomatch z
  | ol _ dss =>
    obtain ⟨a, as, e, rfl, nd, h1, h2⟩ := h
    intro b hb
    rcases List.mem_cons.mp hb with rfl | hb
    · rw [h1]; exact fun z => nomatch z
    · obtain ⟨ys, e⟩ := h2.there b hb
      rw [e]; exact fun z => nomatch z
  | og _ kvs =>
    obtain ⟨a, es, as, e, rfl, nd, h1, h2⟩ := h
    intro b hb
    rcases List.mem_cons.mp hb with rfl | hb
    · rw [h1]; exact fun z => nomatch z
    · obtain ⟨ys, e⟩ := h2.there b hb
      rw [e]; exact fun z => nomatch z
  | fd o es kvs => obtain ⟨_, _, _, _, rfl⟩ := h; exact fun b hb => by cases hb
  | ob _ nm fs =>
    obtain ⟨a, C, dx, vs, as, e, rfl, nd, hc, h1, h2⟩ := h
    intro b hb
    rcases List.mem_cons.mp hb with rfl | hb
    · rw [h1]; exact fun z => nomatch z
    · obtain ⟨u, e, _⟩ := h2.there b hb
      rw [e]; exact fun z => nomatch z
  | on _ d =>
    obtain ⟨a, xs, e, rfl, h1, h2⟩ := h
    intro b hb
    cases List.mem_singleton.mp hb
    rw [h1]; exact fun z => nomatch z
end

/-- the places' own things stand apart -/
structure Fps (K : Kx) (O : Ow) (H0 H : Hp) (W : L2.St) (E : Nv) (F : Nat → List Addr) : Prop where
  ok : ∀ (i : Nat) (s : Sl), E[i]? = some (some s) → ∃ v, W[i]? = some (some v) ∧ SlOk K H v s (F i)
  mine : ∀ (i : Nat) (s : Sl), E[i]? = some (some s) → ∀ b ∈ F i, O b ∨ H0 b = none
  apart : ∀ (i j : Nat) (s t : Sl), i ≠ j → E[i]? = some (some s) → E[j]? = some (some t) → ∀ b ∈ F i, b ∉ F j
/-- the state: W the values of all live places (slots, then those on the way), E what is known of them; O: what may be changed of the entry's; H0: the entry -/
structure Sto (K : Kx) (O : Ow) (H0 H : Hp) (W : L2.St) (E : Nv) : Prop where
  len : W.length = E.length
  fps : ∃ F, Fps K O H0 H W E F
  root : ∀ (i : Nat) (s : Sl) (a : Addr), E[i]? = some (some s) → s.io = true → W[i]? = some (some (.ref a)) → O.top a
  frame : ∀ a u, H0 a = some u → ¬ O a → H a = some u
  live : ∀ a, O a → H a ≠ none

section
variable {K : Kx} {O : Ow} {H0 H H' : Hp} {W W' : L2.St} {E E' : Nv}
theorem live_same {H H' : Hp} {a : Addr} (e : Same H H') (h : H a ≠ none) : H' a ≠ none := by
  cases q : H a with
  | none => exact absurd q h
  | some u => rw [e a u q]; exact fun z => nomatch z
theorem live_upd {H : Hp} {a p : Addr} {o : HO} (h : H a ≠ none) : upd H p o a ≠ none := by
  by_cases e : a = p
  · subst e; rw [upd_same]; exact fun z => nomatch z
  · rw [upd_ne e]; exact h
theorem Sto.ok (S : Sto K O H0 H W E) (i : Nat) (s : Sl) (h : E[i]? = some (some s)) : ∃ v, W[i]? = some (some v) ∧ ∃ fp, SlOk K H v s fp := by
  obtain ⟨F, f⟩ := S.fps
  obtain ⟨v, h1, h2⟩ := f.ok i s h
  exact ⟨v, h1, _, h2⟩
theorem Sto.same (S : Sto K O H0 H W E) (e : Same H H') : Sto K O H0 H' W E := by
  obtain ⟨F, f⟩ := S.fps
  refine ⟨S.len, ⟨F, fun i s h => ?_, f.mine, f.apart⟩, S.root, fun a u h1 h2 => e a u (S.frame a u h1 h2), fun a ha => live_same e (S.live a ha)⟩
  obtain ⟨v, h1, h2⟩ := f.ok i s h
  exact ⟨v, h1, h2.kp (.of_same e) fun b _ u h3 => e b u h3⟩
theorem get_push {α : Type} {l : List α} {x y : α} {i : Nat} (h : (l ++ [x])[i]? = some y) : l[i]? = some y ∨ (i = l.length ∧ x = y) := by
  by_cases hi : i < l.length
  · rw [List.getElem?_append_left hi] at h; exact .inl h
  · rw [List.getElem?_append_right (by omega)] at h
    by_cases h0 : i = l.length
    · subst h0; simp at h; exact .inr ⟨rfl, h⟩
    · rw [List.getElem?_eq_none (by simp; omega)] at h; cases h
theorem get_left {α : Type} {l r : List α} {y : α} {i : Nat} (h : l[i]? = some y) : (l ++ r)[i]? = some y := by
  rw [List.getElem?_append_left (List.getElem?_eq_some_iff.mp h).1]; exact h
theorem get_last {α : Type} {l : List α} {x : α} {i : Nat} (h : i = l.length) : (l ++ [x])[i]? = some x := by subst h; simp
theorem get_set {α : Type} {l : List α} {x y : α} {i j : Nat} (h : (l.set i x)[j]? = some y) : (j ≠ i ∧ l[j]? = some y) ∨ (j = i ∧ i < l.length ∧ x = y) := by
  by_cases hj : j = i
  · subst hj
    have hl : j < l.length := by have := (List.getElem?_eq_some_iff.mp h).1; simpa using this
    rw [List.getElem?_set_self hl] at h
    exact .inr ⟨rfl, hl, Option.some.inj h⟩
  · rw [List.getElem?_set_ne (Ne.symm hj)] at h
    exact .inl ⟨hj, h⟩
/-- places taken from others -/
theorem Sto.embed (S : Sto K O H0 H W E) (hl : W'.length = E'.length) (φ : Nat → Nat) (h : ∀ (i : Nat) (s : Sl), E'[i]? = some (some s) → E[φ i]? = some (some s) ∧ W'[i]? = W[φ i]?)
    (inj : ∀ (i j : Nat) (s t : Sl), E'[i]? = some (some s) → E'[j]? = some (some t) → φ i = φ j → i = j) : Sto K O H0 H W' E' := by
  obtain ⟨F, f⟩ := S.fps
  refine ⟨hl, ⟨fun i => F (φ i), fun i s e => ?_, fun i s e => f.mine _ s (h i s e).1, fun i j s t ne e1 e2 => ?_⟩, fun i s a e o q => ?_, S.frame, S.live⟩
  · obtain ⟨h1, h2⟩ := h i s e
    obtain ⟨v, h3, h4⟩ := f.ok _ s h1
    exact ⟨v, h2.trans h3, h4⟩
  · exact f.apart _ _ s t (fun z => ne (inj i j s t e1 e2 z)) (h i s e1).1 (h j t e2).1
  · exact S.root _ s a (h i s e).1 o ((h i s e).2 ▸ q)
theorem Sto.pushO (S : Sto K O H0 H W E) (e : Same H H') {v : V} {s : Sl} {fp : List Addr} (ok : SlOk K H' v s fp) (fr : ∀ b ∈ fp, H b = none) (io : s.io = false) : Sto K O H0 H' (W ++ [some v]) (E ++ [some s]) := by
  have S' := S.same e
  obtain ⟨F, f⟩ := S.fps
  have le := S.len
  have h0 : ∀ b ∈ fp, O b ∨ H0 b = none := fun b hb => by
    by_cases ho : O b
    · exact .inl ho
    · cases q : H0 b with
      | none => exact .inr rfl
      | some u => have := S.frame b u q ho; rw [fr b hb] at this; cases this
  have there : ∀ (i : Nat) (t : Sl), E[i]? = some (some t) → ∀ b ∈ F i, b ∉ fp := fun i t h b hb hb' => by
    obtain ⟨x, _, h2⟩ := f.ok i t h
    exact h2.there b hb (fr b hb')
  have lt : ∀ {i : Nat} {t : Sl}, E[i]? = some (some t) → i < E.length := fun h => (List.getElem?_eq_some_iff.mp h).1
  refine ⟨by simp [le], ⟨fun i => if i < E.length then F i else fp, fun i t h => ?_, fun i t h => ?_, fun i j t u ne h1 h2 => ?_⟩, fun i t a h o q => ?_, S'.frame, S'.live⟩
  · rcases get_push h with h | ⟨rfl, q⟩
    · obtain ⟨x, h1, h2⟩ := f.ok i t h
      rw [if_pos (lt h)]
      exact ⟨x, get_left h1, h2.kp (.of_same e) fun b _ u h3 => e b u h3⟩
    · cases q
      rw [if_neg (Nat.lt_irrefl _)]
      exact ⟨v, get_last le.symm, ok⟩
  · rcases get_push h with h | ⟨rfl, q⟩
    · rw [if_pos (lt h)]; exact f.mine i t h
    · rw [if_neg (Nat.lt_irrefl _)]; exact h0
  · rcases get_push h1 with h1 | ⟨rfl, q1⟩
    · rw [if_pos (lt h1)]
      rcases get_push h2 with h2 | ⟨rfl, q2⟩
      · rw [if_pos (lt h2)]; exact f.apart i j t u ne h1 h2
      · rw [if_neg (Nat.lt_irrefl _)]; exact there i t h1
    · rw [if_neg (Nat.lt_irrefl _)]
      rcases get_push h2 with h2 | ⟨rfl, q2⟩
      · rw [if_pos (lt h2)]; exact fun b hb hb' => there j u h2 b hb' hb
      · exact absurd rfl ne
  · rcases get_push h with h | ⟨rfl, q'⟩
    · have := lt h
      rw [List.getElem?_append_left (by omega)] at q
      exact S.root i t a h o q
    · cases q'
      rw [io] at o; cases o
/-- one more place that is not own -/
theorem Sto.push (S : Sto K O H0 H W E) {v : V} {d : Dt} (r : Rp K H d v) : Sto K O H0 H (W ++ [some v]) (E ++ [some (.im d)]) :=
  S.pushO (fp := []) (Same.refl H) ⟨r, rfl⟩ (fun b hb => by cases hb) rfl
/-- a place of which nothing is known -/
theorem Sto.pushN (S : Sto K O H0 H W E) (w : Option V) : Sto K O H0 H (W ++ [w]) (E ++ [none]) := by
  have le := S.len
  refine S.embed (by simp [le]) id (fun i s h => ?_) fun i j _ _ _ _ z => z
  rcases get_push h with h | ⟨_, e⟩
  · have := (List.getElem?_eq_some_iff.mp h).1
    exact ⟨h, List.getElem?_append_left (by omega)⟩
  · cases e
/-- a new list of one's own -/
theorem Sto.pushNew (S : Sto K O H0 H W E) {p : Addr} {xs : List V} {ds : List Dt} (hp : H p = none) (r : RpL K H ds xs) : Sto K O H0 (upd H p (.lst xs)) (W ++ [some (.ref p)]) (E ++ [some (.ow false ds)]) :=
  S.pushO (same_upd hp) (fp := [p]) ⟨p, xs, rfl, rfl, upd_same, r.kp (.new hp)⟩ (fun b hb => by cases List.mem_singleton.mp hb; exact hp) rfl
theorem Sto.pop {w : Option V} {e : Option Sl} (S : Sto K O H0 H (W ++ [w]) (E ++ [e])) : Sto K O H0 H W E := by
  have hl : W.length = E.length := by have := S.len; simpa using this
  refine S.embed hl id (fun i s h => ⟨get_left h, ?_⟩) fun i j _ _ _ _ z => z
  have := (List.getElem?_eq_some_iff.mp h).1
  exact (List.getElem?_append_left (by omega)).symm
theorem Sto.top {v : V} {s : Sl} (S : Sto K O H0 H (W ++ [some v]) (E ++ [some s])) : ∃ fp, SlOk K H v s fp := by
  have hl : W.length = E.length := by have := S.len; simpa using this
  obtain ⟨x, h1, h2⟩ := S.ok E.length s (get_last rfl)
  rw [get_last hl.symm] at h1
  cases h1
  exact h2
/-- a place set anew to nothing -/
theorem Sto.forget (S : Sto K O H0 H W E) (i : Nat) (w : Option V) : Sto K O H0 H (W.set i w) (E.set i none) := by
  refine S.embed (by simp [S.len]) id (fun j s h => ?_) fun i j _ _ _ _ z => z
  rcases get_set h with ⟨hj, h⟩ | ⟨_, _, e⟩
  · exact ⟨h, List.getElem?_set_ne (Ne.symm hj)⟩
  · cases e
/-- a place on the way goes into slot i; the place is forgotten -/
theorem Sto.moveAt (S : Sto K O H0 H W E) {i j : Nat} {v : V} {s : Sl} (hj : W[j]? = some (some v)) (ej : E[j]? = some (some s)) (hij : i ≠ j) : Sto K O H0 H (W.set i (some v)) ((E.set j none).set i (some s)) := by
  have le := S.len
  have g : ∀ {k : Nat} {t : Sl}, ((E.set j none).set i (some s))[k]? = some (some t) → (k = i ∧ i < E.length ∧ t = s) ∨ (k ≠ i ∧ k ≠ j ∧ E[k]? = some (some t)) := fun {k t} h => by
    rcases get_set h with ⟨hk, h⟩ | ⟨rfl, hi, e⟩
    · rcases get_set h with ⟨hk2, h⟩ | ⟨_, _, e⟩
      · exact .inr ⟨hk, hk2, h⟩
      · cases e
    · cases e
      exact .inl ⟨rfl, by simpa using hi, rfl⟩
  refine S.embed (by simp [le]) (fun k => if k = i then j else k) (fun k t h => ?_) fun k l t u h1 h2 z => ?_
  · rcases g h with ⟨rfl, hi, rfl⟩ | ⟨hk, hk2, h⟩
    · rw [if_pos rfl]
      exact ⟨ej, by rw [List.getElem?_set_self (by omega), hj]⟩
    · rw [if_neg hk]
      exact ⟨h, List.getElem?_set_ne (Ne.symm hk)⟩
  · rcases g h1 with ⟨rfl, _, _⟩ | ⟨hk, hk2, _⟩
    · rcases g h2 with ⟨rfl, _, _⟩ | ⟨hl, hl2, _⟩
      · rfl
      · rw [if_pos rfl, if_neg hl] at z
        exact absurd z.symm hl2
    · rcases g h2 with ⟨rfl, _, _⟩ | ⟨hl, hl2, _⟩
      · rw [if_pos rfl, if_neg hk] at z
        exact absurd z hk2
      · rw [if_neg hk, if_neg hl] at z
        exact z
/-- what is on the top of the way goes into place i -/
theorem Sto.move {v : V} {s : Sl} (S : Sto K O H0 H (W ++ [some v]) (E ++ [some s])) (i : Nat) : Sto K O H0 H (W.set i (some v)) (E.set i (some s)) := by
  have hl : W.length = E.length := by have := S.len; simpa using this
  by_cases hi : i < E.length
  · have h := S.moveAt (i := i) (j := E.length) (get_last hl.symm) (get_last rfl) (by omega)
    rw [List.set_append_right _ _ (Nat.le_refl _), Nat.sub_self, List.set_append_left _ _ (by omega), List.set_append_left _ _ hi] at h
    exact h.pop
  · rw [List.set_eq_of_length_le (by omega), List.set_eq_of_length_le (by omega)]
    exact S.pop
/-- what a place has of its own is changed -/
theorem Sto.step (S : Sto K O H0 H W E) {i : Nat} {v : V} {s s' : Sl} (hi : E[i]? = some (some s)) (hw : W[i]? = some (some v)) (k : Kp H H') (lv : ∀ b, H b ≠ none → H' b ≠ none)
    (new : ∀ fp, SlOk K H v s fp → (∀ b u, b ∉ fp → H b = some u → H' b = some u) ∧ ∃ fp', SlOk K H' v s' fp' ∧ ∀ b ∈ fp', b ∈ fp ∨ H b = none) (io : s'.io = true → s.io = true) : Sto K O H0 H' W (E.set i (some s')) := by
  obtain ⟨F, f⟩ := S.fps
  obtain ⟨v', h1, h2⟩ := f.ok i s hi
  rw [hw] at h1; cases h1
  obtain ⟨out, fp', n1, n2⟩ := new _ h2
  have il := (List.getElem?_eq_some_iff.mp hi).1
  have mn : ∀ b ∈ fp', O b ∨ H0 b = none := fun b hb => by
    rcases n2 b hb with q | q
    · exact f.mine i s hi b q
    · by_cases ho : O b
      · exact .inl ho
      · cases q0 : H0 b with
        | none => exact .inr rfl
        | some u => have := S.frame b u q0 ho; rw [q] at this; cases this
  have ap : ∀ (j : Nat) (t : Sl), j ≠ i → E[j]? = some (some t) → ∀ b ∈ F j, b ∉ fp' := fun j t hj h b hb hb' => by
    rcases n2 b hb' with q | q
    · exact f.apart j i t s hj h hi b hb q
    · obtain ⟨x, _, h3⟩ := f.ok j t h
      exact h3.there b hb q
  refine ⟨by simp [S.len], ⟨fun j => if j = i then fp' else F j, fun j t h => ?_, fun j t h => ?_, fun j l t u ne h1 h2 => ?_⟩, fun j t a h o q => ?_, fun a u h1 h2 => ?_, fun a ha => lv a (S.live a ha)⟩
  · rcases get_set h with ⟨hj, h⟩ | ⟨rfl, _, e⟩
    · rw [if_neg hj]
      obtain ⟨x, e1, e2⟩ := f.ok j t h
      exact ⟨x, e1, e2.kp k fun b hb u e => out b u (f.apart j i t s hj h hi b hb) e⟩
    · cases e
      rw [if_pos rfl]
      exact ⟨v, hw, n1⟩
  · rcases get_set h with ⟨hj, h⟩ | ⟨rfl, _, e⟩
    · rw [if_neg hj]; exact f.mine j t h
    · rw [if_pos rfl]; exact mn
  · rcases get_set h1 with ⟨hj, h1⟩ | ⟨ej, _, e1⟩
    · rw [if_neg hj]
      rcases get_set h2 with ⟨hl, h2⟩ | ⟨el, _, e2⟩
      · rw [if_neg hl]; exact f.apart j l t u ne h1 h2
      · rw [if_pos el]; exact ap j t hj h1
    · rw [if_pos ej]
      rcases get_set h2 with ⟨hl, h2⟩ | ⟨el, _, e2⟩
      · rw [if_neg hl]; exact fun b hb hb' => ap l u hl h2 b hb' hb
      · exact absurd (ej.trans el.symm) ne
  · rcases get_set h with ⟨hj, h⟩ | ⟨rfl, _, e⟩
    · exact S.root j t a h o q
    · cases e
      exact S.root j s a hi (io o) q
  · refine out a u (fun hb => ?_) (S.frame a u h1 h2)
    rcases f.mine i s hi a hb with q | q
    · exact h2 q
    · rw [q] at h1; cases h1
/-- an own list is written anew -/
theorem Sto.write (S : Sto K O H0 H W E) {i : Nat} {a : Addr} {io : Bool} {ds ds' : List Dt} {ys : List V} (hi : E[i]? = some (some (.ow io ds))) (hw : W[i]? = some (some (.ref a))) (r : RpL K H ds' ys) :
    Sto K O H0 (upd H a (.lst ys)) W (E.set i (some (.ow io ds'))) := by
  obtain ⟨v, h1, fp, a', xs, rfl, _, h3, h4⟩ := S.ok i _ hi
  rw [hw] at h1; cases h1
  refine S.step hi hw (.lst h3) (fun b hb => live_upd hb) (fun fp h => ?_) id
  obtain ⟨a2, xs2, e, rfl, _⟩ := h
  cases e
  exact ⟨fun b u hb q => by rw [upd_ne (fun z => hb (by simp [z]))]; exact q, [a], ⟨a, ys, rfl, rfl, upd_same, r.kp (.lst h3)⟩, fun b hb => .inl hb⟩
/-- an own list is frozen -/
theorem Sto.freeze (S : Sto K O H0 H W E) {i : Nat} {a : Addr} {io : Bool} {ds : List Dt} {ys : List V} (ob : Obj) (hi : E[i]? = some (some (.ow io ds))) (hw : W[i]? = some (some (.ref a))) (hy : H a = some (.lst ys)) :
    Sto K O H0 (upd H a (.frz ob (.lst ys))) W (E.set i (some (.im (.list ds)))) := by
  refine S.step hi hw (.lst hy) (fun b hb => live_upd hb) (fun fp h => ?_) (fun z => by cases z)
  obtain ⟨a2, xs2, e, rfl, h1, h2⟩ := h
  cases e
  rw [hy] at h1; cases h1
  exact ⟨fun b u hb q => by rw [upd_ne (fun z => hb (by simp [z]))]; exact q, [], ⟨⟨a, ys, rfl, .inl ⟨ob, upd_same⟩, h2.kp (.lst hy)⟩, rfl⟩, fun b hb => by cases hb⟩
end
abbrev _root_.L2.Cx.kx (X : L2.Cx) : Vd.Kx := ⟨X.K, X.w⟩

/-! ### slots, and what is on the way -/
structure Sg (K : Kx) (O : Ow) (H0 H : Hp) (σ : L2.St) (env : Nv) (τ : L2.St) (ts : Nv) : Prop where
  st : Sto K O H0 H (σ ++ τ) (env ++ ts)
  le : σ.length = env.length
section
variable {K : Kx} {O : Ow} {H0 H H' : Hp} {σ τ : L2.St} {env env' ts : Nv}
theorem Sg.len2 (S : Sg K O H0 H σ env τ ts) : τ.length = ts.length := by
  have h1 := S.st.len
  have h2 := S.le
  rw [List.length_append, List.length_append] at h1
  omega
theorem Sg.same (S : Sg K O H0 H σ env τ ts) (e : Same H H') : Sg K O H0 H' σ env τ ts := ⟨S.st.same e, S.le⟩
theorem Sg.push (S : Sg K O H0 H σ env τ ts) {v : V} {d : Dt} (r : Rp K H d v) : Sg K O H0 H σ env (τ ++ [some v]) (ts ++ [some (.im d)]) :=
  ⟨by rw [← List.append_assoc, ← List.append_assoc]; exact S.st.push r, S.le⟩
theorem Sg.pushO (S : Sg K O H0 H σ env τ ts) (e : Same H H') {v : V} {s : Sl} {fp : List Addr} (ok : SlOk K H' v s fp) (fr : ∀ b ∈ fp, H b = none) (io : s.io = false) : Sg K O H0 H' σ env (τ ++ [some v]) (ts ++ [some s]) :=
  ⟨by rw [← List.append_assoc, ← List.append_assoc]; exact S.st.pushO e ok fr io, S.le⟩
theorem Sg.pushN (S : Sg K O H0 H σ env τ ts) (w : Option V) : Sg K O H0 H σ env (τ ++ [w]) (ts ++ [none]) :=
  ⟨by rw [← List.append_assoc, ← List.append_assoc]; exact S.st.pushN w, S.le⟩
theorem Sg.pushNew (S : Sg K O H0 H σ env τ ts) {p : Addr} {xs : List V} {ds : List Dt} (hp : H p = none) (r : RpL K H ds xs) : Sg K O H0 (upd H p (.lst xs)) σ env (τ ++ [some (.ref p)]) (ts ++ [some (.ow false ds)]) :=
  ⟨by rw [← List.append_assoc, ← List.append_assoc]; exact S.st.pushNew hp r, S.le⟩
theorem Sg.pop {w : Option V} {e : Option Sl} (S : Sg K O H0 H σ env (τ ++ [w]) (ts ++ [e])) : Sg K O H0 H σ env τ ts :=
  ⟨by have := S.st; rw [← List.append_assoc, ← List.append_assoc] at this; exact this.pop, S.le⟩
theorem Sg.top {v : V} {s : Sl} (S : Sg K O H0 H σ env (τ ++ [some v]) (ts ++ [some s])) : ∃ fp, SlOk K H v s fp := by
  have := S.st; rw [← List.append_assoc, ← List.append_assoc] at this; exact this.top
theorem Sg.rp {v : V} {d : Dt} (S : Sg K O H0 H σ env (τ ++ [some v]) (ts ++ [some (.im d)])) : Rp K H d v := let ⟨_, r, _⟩ := S.top; r
theorem Sg.topO {v : V} {io : Bool} {ds : List Dt} (S : Sg K O H0 H σ env (τ ++ [some v]) (ts ++ [some (.ow io ds)])) : ∃ p xs, v = .ref p ∧ H p = some (.lst xs) ∧ RpL K H ds xs := by
  obtain ⟨_, p, xs, e, _, h1, h2⟩ := S.top
  exact ⟨p, xs, e, h1, h2⟩
theorem Sg.slot (S : Sg K O H0 H σ env τ ts) {i : Nat} {s : Sl} (h : env[i]? = some (some s)) : ∃ v, σ[i]? = some (some v) ∧ ∃ fp, SlOk K H v s fp := by
  obtain ⟨v, h1, h2⟩ := S.st.ok i s (get_left h)
  have hi := (List.getElem?_eq_some_iff.mp h).1
  have := S.le
  rw [List.getElem?_append_left (by omega)] at h1
  exact ⟨v, h1, h2⟩
theorem Sg.slotI (S : Sg K O H0 H σ env τ ts) {i : Nat} {d : Dt} (h : env[i]? = some (some (.im d))) : ∃ v, σ[i]? = some (some v) ∧ Rp K H d v := by
  obtain ⟨v, h1, _, h2, _⟩ := S.slot h
  exact ⟨v, h1, h2⟩
theorem Sg.slotO (S : Sg K O H0 H σ env τ ts) {i : Nat} {io : Bool} {ds : List Dt} (h : env[i]? = some (some (.ow io ds))) : ∃ v, σ[i]? = some (some v) ∧ ∃ p xs, v = .ref p ∧ H p = some (.lst xs) ∧ RpL K H ds xs := by
  obtain ⟨v, h1, _, p, xs, e, _, h2, h3⟩ := S.slot h
  exact ⟨v, h1, p, xs, e, h2, h3⟩
theorem Sg.set {v : V} {s : Sl} (S : Sg K O H0 H σ env (τ ++ [some v]) (ts ++ [some s])) (i : Nat) (hi : i < env.length) : Sg K O H0 H (σ.set i (some v)) (env.set i (some s)) τ ts := by
  have h := S.st
  rw [← List.append_assoc, ← List.append_assoc] at h
  have h := h.move i
  have := S.le
  rw [List.set_append_left _ _ (by omega), List.set_append_left _ _ hi] at h
  exact ⟨h, by simpa using S.le⟩
theorem Sg.forget (S : Sg K O H0 H σ env τ ts) (i : Nat) (w : Option V) (hi : i < env.length) : Sg K O H0 H (σ.set i w) (env.set i none) τ ts := by
  have h := S.st.forget i w
  have := S.le
  rw [List.set_append_left _ _ (by omega), List.set_append_left _ _ hi] at h
  exact ⟨h, by simpa using S.le⟩
theorem Sg.write (S : Sg K O H0 H σ env τ ts) {i : Nat} {a : Addr} {io : Bool} {ds ds' : List Dt} {ys : List V} (hi : env[i]? = some (some (.ow io ds))) (hw : σ[i]? = some (some (.ref a))) (r : RpL K H ds' ys) :
    Sg K O H0 (upd H a (.lst ys)) σ (env.set i (some (.ow io ds'))) τ ts := by
  have h := S.st.write (get_left hi) (get_left hw) r
  rw [List.set_append_left _ _ (List.getElem?_eq_some_iff.mp hi).1] at h
  exact ⟨h, by simpa using S.le⟩
theorem Sg.freeze (S : Sg K O H0 H σ env τ ts) {i : Nat} {a : Addr} {io : Bool} {ds : List Dt} {ys : List V} (ob : Obj) (hi : env[i]? = some (some (.ow io ds))) (hw : σ[i]? = some (some (.ref a))) (hy : H a = some (.lst ys)) :
    Sg K O H0 (upd H a (.frz ob (.lst ys))) σ (env.set i (some (.im (.list ds)))) τ ts := by
  have h := S.st.freeze ob (get_left hi) (get_left hw) hy
  rw [List.set_append_left _ _ (List.getElem?_eq_some_iff.mp hi).1] at h
  exact ⟨h, by simpa using S.le⟩
/-- the last on the way, a list of one's own, is frozen -/
theorem Sg.freezeT {a : Addr} {io : Bool} {ds : List Dt} {ys : List V} (S : Sg K O H0 H σ env (τ ++ [some (.ref a)]) (ts ++ [some (.ow io ds)])) (ob : Obj) (hy : H a = some (.lst ys)) :
    Sg K O H0 (upd H a (.frz ob (.lst ys))) σ env (τ ++ [some (.ref a)]) (ts ++ [some (.im (.list ds))]) := by
  have l2 := S.len2
  simp only [List.length_append, List.length_cons, List.length_nil] at l2
  have h0 := S.st
  have e1 : (env ++ (ts ++ [some (Sl.ow io ds)]))[env.length + ts.length]? = some (some (Sl.ow io ds)) := by
    rw [List.getElem?_append_right (by omega), show env.length + ts.length - env.length = ts.length from by omega]
    exact get_last rfl
  have e2 : (σ ++ (τ ++ [some (V.ref a)]))[env.length + ts.length]? = some (some (V.ref a)) := by
    have := S.le
    rw [List.getElem?_append_right (by omega), show env.length + ts.length - σ.length = τ.length from by omega]
    exact get_last rfl
  have h := h0.freeze ob e1 e2 hy
  rw [List.set_append_right _ _ (by omega), show env.length + ts.length - env.length = ts.length from by omega, List.set_append_right _ _ (Nat.le_refl _), Nat.sub_self] at h
  exact ⟨h, S.le⟩
theorem Sg.writeT {a : Addr} {io : Bool} {ds ds' : List Dt} {ys : List V} (S : Sg K O H0 H σ env (τ ++ [some (.ref a)]) (ts ++ [some (.ow io ds)])) (r : RpL K H ds' ys) :
    Sg K O H0 (upd H a (.lst ys)) σ env (τ ++ [some (.ref a)]) (ts ++ [some (.ow io ds')]) := by
  have l2 := S.len2
  simp only [List.length_append, List.length_cons, List.length_nil] at l2
  have h0 := S.st
  have e1 : (env ++ (ts ++ [some (Sl.ow io ds)]))[env.length + ts.length]? = some (some (Sl.ow io ds)) := by
    rw [List.getElem?_append_right (by omega), show env.length + ts.length - env.length = ts.length from by omega]
    exact get_last rfl
  have e2 : (σ ++ (τ ++ [some (V.ref a)]))[env.length + ts.length]? = some (some (V.ref a)) := by
    have := S.le
    rw [List.getElem?_append_right (by omega), show env.length + ts.length - σ.length = τ.length from by omega]
    exact get_last rfl
  have h := h0.write e1 e2 r
  rw [List.set_append_right _ _ (by omega), show env.length + ts.length - env.length = ts.length from by omega, List.set_append_right _ _ (Nat.le_refl _), Nat.sub_self] at h
  exact ⟨h, S.le⟩
/-- all of the last ones on the way -/
theorem Sg.args : ∀ {ds : List Dt} {vs : List V} {τ : L2.St} {ts : Nv}, vs.length = ds.length → Sg K O H0 H σ env (τ ++ vs.map some) (ts ++ ds.map fun d => some (.im d)) → RpL K H ds vs ∧ Sg K O H0 H σ env τ ts
  | [], [], τ, ts, _, S => ⟨rfl, by simpa using S⟩
  | [], _ :: _, _, _, h, _ => by simp at h
  | _ :: _, [], _, _, h, _ => by simp at h
  | d :: ds, v :: vs, τ, ts, h, S => by
    have S' : Sg K O H0 H σ env ((τ ++ [some v]) ++ vs.map some) ((ts ++ [some (.im d)]) ++ ds.map fun d => some (.im d)) := by simpa using S
    obtain ⟨h1, h2⟩ := Sg.args (by simpa using h) S'
    exact ⟨⟨v, vs, rfl, h2.rp, h1⟩, h2.pop⟩
end

/-! ### what the code comes to, in data -/
abbrev EF := Nv → Option (Dt × Nv)
abbrev NF := Nv → Option (List Dt × Nv)
abbrev TF := Nv → Option (Bool × Nv)
abbrev AF := Nv → Option (List Sl × Nv)

def RunsI (K : Kx) (t : TE) (f : EF) : Prop := ∀ (O : Ow) (H0 H : Hp) (σ : L2.St) (env : Nv) (τ : L2.St) (ts : Nv) (d : Dt) (env' : Nv) (Q : VK), Sg K O H0 H σ env τ ts → f env = some (d, env') →
  (∀ v H', Sg K O H0 H' σ env' (τ ++ [some v]) (ts ++ [some (.im d)]) → Q v H') → t σ H Q
def RunsN (K : Kx) (t : TE) (f : NF) : Prop := ∀ (O : Ow) (H0 H : Hp) (σ : L2.St) (env : Nv) (τ : L2.St) (ts : Nv) (ds : List Dt) (env' : Nv) (Q : VK), Sg K O H0 H σ env τ ts → f env = some (ds, env') →
  (∀ v H', Sg K O H0 H' σ env' (τ ++ [some v]) (ts ++ [some (.ow false ds)]) → Q v H') → t σ H Q
def RunsT (K : Kx) (t : TT) (f : TF) : Prop := ∀ (O : Ow) (H0 H : Hp) (σ : L2.St) (env : Nv) (τ : L2.St) (ts : Nv) (b : Bool) (env' : Nv) (Q : Bool → Hp → Prop), Sg K O H0 H σ env τ ts → f env = some (b, env') →
  (∀ H', Sg K O H0 H' σ env' τ ts → Q b H') → t σ H Q
def RunsA (K : Kx) (t : TA) (f : AF) : Prop := ∀ (O : Ow) (H0 H : Hp) (σ : L2.St) (env : Nv) (τ : L2.St) (ts : Nv) (ss : List Sl) (env' : Nv) (Q : List V → Hp → Prop), Sg K O H0 H σ env τ ts → f env = some (ss, env') →
  (∀ vs H', vs.length = ss.length → Sg K O H0 H' σ env' (τ ++ vs.map some) (ts ++ ss.map some) → Q vs H') → t σ H Q

/-- an expression that comes to data; to a new list; a test; expressions in a row -/
def EI (X : Cx) (e : Expr) (f : EF) : Prop := ∃ t, PE X e t ∧ RunsI X.kx t f
def EN (X : Cx) (e : Expr) (f : NF) : Prop := ∃ t, PE X e t ∧ RunsN X.kx t f
def ET (X : Cx) (e : Expr) (f : TF) : Prop := ∃ t, PT X e t ∧ RunsT X.kx t f
def EW (X : Cx) (e : Expr) (f : TF) : Prop := ∃ t, PW X e t ∧ RunsT X.kx t f
def EA (X : Cx) (es : List Expr) (f : AF) : Prop := ∃ t, PA X es t ∧ RunsA X.kx t f

section
variable {X : Cx} {e a b c : Expr} {es rest : List Expr} {pos : Pos}

/-! ### names and constants -/
def eVar (i : Nat) : EF := fun env => match env[i]? with
  | some (some (.im d)) => some (d, env)
  | some (some (.ow _ ds)) => some (.list ds, env.set i (some (.im (.list ds))))
  | _ => none
def tVarF (i : Nat) : TE := fun σ H Q => ∃ v, σ[i]? = some (some v) ∧ (Q v H ∨ ∃ p xs, v = .ref p ∧ H p = some (.lst xs) ∧ ∀ o, Q v (upd H p (.frz o (.lst xs))))
theorem ei_var (i : Nat) {x : Str} (hN : X.N[i]? = some x := by rfl) (hv : Vis X.env.scope x := by first | exact Or.inl rfl | exact Or.inr (Or.inl rfl) | exact Or.inr (Or.inr rfl)) (hd : (x == ("__debug__" : Str)) = false := by decide)
    (hcd : (x == ("__classdict__" : Str)) = false := by decide) : EI X (.Name x pos) (eVar i) := by
  refine ⟨tVarF i, ⟨fun pins s σ H Q I h => ?_⟩, ?_⟩
  · obtain ⟨v, e, h⟩ := h
    refine thn ((pe_var (pos := pos) hN hv hd hcd).run pins s σ H (fun u H' => u = v ∧ H' = H) I ⟨v, e, rfl, rfl⟩) fun u s' ⟨v', H', I', r, ev, eH⟩ => ?_
    subst ev; subst eH
    rcases h with h | ⟨p, xs, rfl, hp, h⟩
    · exact ⟨v', H', I', r, h⟩
    · obtain ⟨od, I2⟩ := I'.lock hp trivial
      exact ⟨_, _, I2, r, h od⟩
  · intro O H0 H σ env τ ts d env' Q S h k
    unfold eVar at h
    split at h
    · rename_i d' he
      cases h
      obtain ⟨v, h1, h2⟩ := S.slotI he
      exact ⟨v, h1, .inl (k v H (S.push h2))⟩
    · rename_i io ds he
      cases h
      obtain ⟨v, h1, p, xs, rfl, h3, h4⟩ := S.slotO he
      refine ⟨_, h1, .inr ⟨p, xs, rfl, h3, fun o => k _ _ ?_⟩⟩
      have S' := S.freeze o he h1 h3
      exact S'.push ⟨p, xs, rfl, .inl ⟨o, upd_same⟩, h4.kp (.lst h3)⟩
    · cases h
def eC (d : Dt) : EF := fun env => some (d, env)
theorem runs_c {K : Kx} {v : V} {d : Dt} (r : ∀ H, Rp K H d v) : RunsI K (tC v) (eC d) := fun O H0 H σ env τ ts d' env' Q S h k => by
  cases h
  exact k v H (S.push (r H))
theorem ei_int {i : Int} {j : Nat} : EI X (.Constant (.int i) j pos) (eC (.int i)) := ⟨_, pe_int, runs_c fun _ => rfl⟩
theorem ei_bl {i : Bool} {j : Nat} : EI X (.Constant (.bool i) j pos) (eC (.bool i)) := ⟨_, pe_bl, runs_c fun _ => rfl⟩
theorem ei_non {j : Nat} : EI X (.Constant .none j pos) (eC .none) := ⟨_, pe_non, runs_c fun _ => rfl⟩
theorem ei_str {x : Str} {j : Nat} : EI X (.Constant (.str x) j pos) (eC (.str x)) := ⟨_, pe_str, runs_c fun _ => rfl⟩
/-- a module's constant -/
theorem ei_glob {x : Str} {v : V} {u : Value} {d : Dt} (hg : Gl X x) (hm : X.mg x = some u) (r : RelV v u) (rp : ∀ H, Rp X.kx H d v) (hd : (x == ("__debug__" : Str)) = false := by decide) : EI X (.Name x pos) (eC d) := ⟨_, pe_glob hg hm r hd, runs_c rp⟩

/-! ### a new list as data -/
def eNew (f : NF) : EF := fun env => match f env with
  | some (ds, e) => some (.list ds, e)
  | none => none
def tFrzE (t : TE) : TE := fun σ H Q => t σ H fun v H1 => ∃ p xs, v = .ref p ∧ H1 p = some (.lst xs) ∧ ∀ o, Q v (upd H1 p (.frz o (.lst xs)))
theorem pe_frz {t : TE} (h : PE X e t) : PE X e (tFrzE t) := ⟨fun pins s σ H Q I hw => by
  refine thn (h.run pins s σ H _ I hw) fun u s' ⟨v, H', I', r, p, xs, e, hp, q⟩ => ?_
  subst e
  obtain ⟨od, I2⟩ := I'.lock hp trivial
  exact ⟨_, _, I2, r, q od⟩⟩
theorem ei_new {f : NF} (h : EN X e f) : EI X e (eNew f) := by
  obtain ⟨t, h1, h2⟩ := h
  refine ⟨_, pe_frz h1, fun O H0 H σ env τ ts d env' Q S hf k => ?_⟩
  unfold eNew at hf
  split at hf
  · rename_i ds e' he
    cases hf
    refine h2 O H0 H σ env τ ts ds _ _ S he fun v H1 S1 => ?_
    obtain ⟨p, xs, rfl, h3, h4⟩ := S1.topO
    exact ⟨p, xs, rfl, h3, fun o => k _ _ (S1.freezeT o h3)⟩
  · cases hf

/-! ### operators -/
/-- an operation on values comes to g on data -/
def OpD (K : Kx) (r : R2) (g : Dt → Dt → Option Dt) : Prop := ∀ (H : Hp) (x y : V) (a b d : Dt) (Q : VK), Rp K H a x → Rp K H b y → g a b = some d → (∀ v H', Same H H' → Rp K H' d v → Q v H') → r x y H Q
def OpN (K : Kx) (r : R2) (g : Dt → Dt → Option (List Dt)) : Prop := ∀ (H : Hp) (x y : V) (a b : Dt) (ds : List Dt) (Q : VK), Rp K H a x → Rp K H b y → g a b = some ds → (∀ p xs, H p = none → RpL K H ds xs → Q (.ref p) (upd H p (.lst xs))) → r x y H Q
def eOp (g : Dt → Dt → Option Dt) (fa fb : EF) : EF := fun env => match fa env with
  | some (x, e1) => match fb e1 with
    | some (y, e2) => match g x y with
      | some z => some (z, e2)
      | none => none
    | none => none
  | none => none
def nOp (g : Dt → Dt → Option (List Dt)) (fa fb : EF) : NF := fun env => match fa env with
  | some (x, e1) => match fb e1 with
    | some (y, e2) => match g x y with
      | some z => some (z, e2)
      | none => none
    | none => none
  | none => none
theorem runs_op {K : Kx} {r : R2} {g : Dt → Dt → Option Dt} {ta tb : TE} {fa fb : EF} (hr : OpD K r g) (ha : RunsI K ta fa) (hb : RunsI K tb fb) : RunsI K (tOp r ta tb) (eOp g fa fb) := by
  intro O H0 H σ env τ ts d env' Q S h k
  unfold eOp at h
  split at h
  · rename_i x e1 h1
    split at h
    · rename_i y e2 h2
      split at h
      · rename_i z h3
        cases h
        refine ha O H0 H σ env τ ts x e1 _ S h1 fun v1 H1 S1 => ?_
        refine hb O H0 H1 σ e1 _ _ y env' _ S1 h2 fun v2 H2 S2 => ?_
        have r2 := S2.rp
        have S3 := S2.pop
        have r1 := S3.rp
        refine hr H2 v1 v2 x y d Q r1 r2 h3 fun v H' e r => ?_
        exact k v H' ((S3.pop.same e).push r)
      · cases h
    · cases h
  · cases h
theorem runs_opN {K : Kx} {r : R2} {g : Dt → Dt → Option (List Dt)} {ta tb : TE} {fa fb : EF} (hr : OpN K r g) (ha : RunsI K ta fa) (hb : RunsI K tb fb) : RunsN K (tOp r ta tb) (nOp g fa fb) := by
  intro O H0 H σ env τ ts d env' Q S h k
  unfold nOp at h
  split at h
  · rename_i x e1 h1
    split at h
    · rename_i y e2 h2
      split at h
      · rename_i z h3
        cases h
        refine ha O H0 H σ env τ ts x e1 _ S h1 fun v1 H1 S1 => ?_
        refine hb O H0 H1 σ e1 _ _ y env' _ S1 h2 fun v2 H2 S2 => ?_
        have r2 := S2.rp
        have S3 := S2.pop
        have r1 := S3.rp
        refine hr H2 v1 v2 x y d Q r1 r2 h3 fun p xs hp r => ?_
        exact k _ _ (S3.pop.pushNew hp r)
      · cases h
    · cases h
  · cases h
theorem ei_op {op : Operator} {r : R2} {g : Dt → Dt → Option Dt} {fa fb : EF} (ho : OpR X (binaryOp op) r) (hr : OpD X.kx r g) (ha : EI X a fa) (hb : EI X b fb) : EI X (.BinOp a op b pos) (eOp g fa fb) := by
  obtain ⟨ta, h1, h2⟩ := ha
  obtain ⟨tb, h3, h4⟩ := hb
  exact ⟨_, pe_op ho h1 h3, runs_op hr h2 h4⟩
theorem en_op {op : Operator} {r : R2} {g : Dt → Dt → Option (List Dt)} {fa fb : EF} (ho : OpR X (binaryOp op) r) (hr : OpN X.kx r g) (ha : EI X a fa) (hb : EI X b fb) : EN X (.BinOp a op b pos) (nOp g fa fb) := by
  obtain ⟨ta, h1, h2⟩ := ha
  obtain ⟨tb, h3, h4⟩ := hb
  exact ⟨_, pe_op ho h1 h3, runs_opN hr h2 h4⟩
theorem ei_cmp {op : CmpOp} {r : R2} {g : Dt → Dt → Option Dt} {fa fb : EF} (ho : OpR X (compareOp op) r) (hr : OpD X.kx r g) (ha : EI X a fa) (hb : EI X b fb) (hm : behindInMarks op b = false) : EI X (.Compare a [op] [b] pos) (eOp g fa fb) := by
  obtain ⟨ta, h1, h2⟩ := ha
  obtain ⟨tb, h3, h4⟩ := hb
  exact ⟨_, pe_cmpR ho h1 h3 hm, runs_op hr h2 h4⟩
def tVal (f : EF) : TF := fun env => match f env with
  | some (.bool b, e) => some (b, e)
  | _ => none
theorem runs_tst {K : Kx} {t : TE} {f : EF} (h : RunsI K t f) : RunsT K (tTest t) (tVal f) := by
  intro O H0 H σ env τ ts b env' Q S hf k
  unfold tVal at hf
  split at hf
  · rename_i b' e' he
    cases hf
    refine h O H0 H σ env τ ts _ _ _ S he fun v H' S' => ?_
    exact ⟨b, S'.rp, k H' S'.pop⟩
  · cases hf
theorem et_cmp {op : CmpOp} {r : R2} {g : Dt → Dt → Option Dt} {fa fb : EF} (ho : OpR X (compareOp op) r) (hr : OpD X.kx r g) (ha : EI X a fa) (hb : EI X b fb) (hm : behindInMarks op b = false) : ET X (.Compare a [op] [b] pos) (tVal (eOp g fa fb)) := by
  obtain ⟨ta, h1, h2⟩ := ha
  obtain ⟨tb, h3, h4⟩ := hb
  exact ⟨_, pt_cmpR ho h1 h3 hm, runs_tst (runs_op hr h2 h4)⟩
theorem et_val {f : EF} (h : EI X e f) (he : ∀ whole, isTrue e X.env whole = (do let v ← whole; standAt e.pos; holding [v] (truthy v)) := by intro _; rfl) : ET X e (tVal f) := by
  obtain ⟨t, h1, h2⟩ := h
  exact ⟨_, pt_val h1 he, runs_tst h2⟩
/-- a unary operation -/
def UnD (K : Kx) (r : V → Hp → VK → Prop) (g : Dt → Option Dt) : Prop := ∀ (H : Hp) (x : V) (a d : Dt) (Q : VK), Rp K H a x → g a = some d → (∀ v H', Same H H' → Rp K H' d v → Q v H') → r x H Q
def eUn (g : Dt → Option Dt) (fa : EF) : EF := fun env => match fa env with
  | some (x, e1) => match g x with
    | some z => some (z, e1)
    | none => none
  | none => none
theorem runs_un {K : Kx} {r : V → Hp → VK → Prop} {g : Dt → Option Dt} {ta : TE} {fa : EF} (hr : UnD K r g) (ha : RunsI K ta fa) : RunsI K (tUn r ta) (eUn g fa) := by
  intro O H0 H σ env τ ts d env' Q S h k
  unfold eUn at h
  split at h
  · rename_i x e1 h1
    split at h
    · rename_i z h3
      cases h
      refine ha O H0 H σ env τ ts x _ _ S h1 fun v1 H1 S1 => ?_
      refine hr H1 v1 x d Q S1.rp h3 fun v H' e r => ?_
      exact k v H' ((S1.pop.same e).push r)
    · cases h
  · cases h
theorem ei_un {op : UnaryOp} {r : V → Hp → VK → Prop} {g : Dt → Option Dt} {fa : EF} (ho : UnR X (unaryOp op) r) (hr : UnD X.kx r g) (ha : EI X a fa) : EI X (.UnaryOp op a pos) (eUn g fa) := by
  obtain ⟨ta, h1, h2⟩ := ha
  exact ⟨_, pe_un ho h1, runs_un hr h2⟩

/-! ### and, or, not, if -/
def tAndF (f g : TF) : TF := fun env => match f env with
  | some (true, e) => g e
  | some (false, e) => some (false, e)
  | none => none
def tOrF (f g : TF) : TF := fun env => match f env with
  | some (true, e) => some (true, e)
  | some (false, e) => g e
  | none => none
def tNotF (f : TF) : TF := fun env => match f env with
  | some (b, e) => some (!b, e)
  | none => none
def eAnd (f g : EF) : EF := fun env => match f env with
  | some (.bool true, e) => g e
  | some (.bool false, e) => some (.bool false, e)
  | _ => none
def eOr (f g : EF) : EF := fun env => match f env with
  | some (.bool true, e) => some (.bool true, e)
  | some (.bool false, e) => g e
  | _ => none
def eNot (f : EF) : EF := fun env => match f env with
  | some (.bool b, e) => some (.bool (!b), e)
  | _ => none
def eIf (c : TF) (f g : EF) : EF := fun env => match c env with
  | some (true, e) => f e
  | some (false, e) => g e
  | none => none
def nIf (c : TF) (f g : NF) : NF := fun env => match c env with
  | some (true, e) => f e
  | some (false, e) => g e
  | none => none
theorem runs_and {K : Kx} {t u : TT} {f g : TF} (h1 : RunsT K t f) (h2 : RunsT K u g) : RunsT K (tAnd t u) (tAndF f g) := by
  intro O H0 H σ env τ ts b env' Q S h k
  unfold tAndF at h
  split at h
  · rename_i e1 he
    exact h1 O H0 H σ env τ ts true e1 _ S he fun H1 S1 => by
      rw [if_pos rfl]; exact h2 O H0 H1 σ e1 τ ts b env' Q S1 h k
  · rename_i e1 he
    cases h
    exact h1 O H0 H σ env τ ts false _ _ S he fun H1 S1 => by
      rw [if_neg (by decide)]; exact k H1 S1
  · cases h
theorem runs_or {K : Kx} {t u : TT} {f g : TF} (h1 : RunsT K t f) (h2 : RunsT K u g) : RunsT K (tOr t u) (tOrF f g) := by
  intro O H0 H σ env τ ts b env' Q S h k
  unfold tOrF at h
  split at h
  · rename_i e1 he
    cases h
    exact h1 O H0 H σ env τ ts true _ _ S he fun H1 S1 => by
      rw [if_pos rfl]; exact k H1 S1
  · rename_i e1 he
    exact h1 O H0 H σ env τ ts false e1 _ S he fun H1 S1 => by
      rw [if_neg (by decide)]; exact h2 O H0 H1 σ e1 τ ts b env' Q S1 h k
  · cases h
theorem ew_and1 {f : TF} (h : ET X a f) : EW X (.BoolOp .And [a] pos) f := let ⟨t, h1, h2⟩ := h; ⟨t, pw_and1 h1, h2⟩
theorem ew_or1 {f : TF} (h : ET X a f) : EW X (.BoolOp .Or [a] pos) f := let ⟨t, h1, h2⟩ := h; ⟨t, pw_or1 h1, h2⟩
theorem ew_and {f g : TF} (h : ET X a f) (h' : EW X (.BoolOp .And (b :: rest) pos) g) : EW X (.BoolOp .And (a :: b :: rest) pos) (tAndF f g) :=
  let ⟨_, h1, h2⟩ := h; let ⟨_, h3, h4⟩ := h'; ⟨_, pw_and h1 h3, runs_and h2 h4⟩
theorem ew_or {f g : TF} (h : ET X a f) (h' : EW X (.BoolOp .Or (b :: rest) pos) g) : EW X (.BoolOp .Or (a :: b :: rest) pos) (tOrF f g) :=
  let ⟨_, h1, h2⟩ := h; let ⟨_, h3, h4⟩ := h'; ⟨_, pw_or h1 h3, runs_or h2 h4⟩
theorem et_w {f : TF} (h : EW X e f) : ET X e f := let ⟨_, h1, h2⟩ := h; ⟨_, h1.pt, h2⟩
theorem et_not {f : TF} (h : ET X a f) : ET X (.UnaryOp .Not a pos) (tNotF f) := by
  obtain ⟨t, h1, h2⟩ := h
  refine ⟨_, pt_not h1, fun O H0 H σ env τ ts b env' Q S h k => ?_⟩
  unfold tNotF at h
  split at h
  · rename_i c e1 he
    cases h
    exact h2 O H0 H σ env τ ts c _ _ S he fun H1 S1 => k H1 S1
  · cases h
theorem ei_one {op : BoolOp} {f : EF} (h : EI X a f) : EI X (.BoolOp op [a] pos) f := let ⟨_, h1, h2⟩ := h; ⟨_, pe_one h1, h2⟩
theorem ei_and {f g : EF} (h : EI X a f) (h' : EI X (.BoolOp .And (b :: rest) pos) g) : EI X (.BoolOp .And (a :: b :: rest) pos) (eAnd f g) := by
  obtain ⟨_, h1, h2⟩ := h
  obtain ⟨_, h3, h4⟩ := h'
  refine ⟨_, pe_and h1 h3, fun O H0 H σ env τ ts d env' Q S h k => ?_⟩
  unfold eAnd at h
  split at h
  · rename_i e1 he
    refine h2 O H0 H σ env τ ts _ e1 _ S he fun v H1 S1 => ⟨true, S1.rp, ?_⟩
    rw [if_pos rfl]; exact h4 O H0 H1 σ e1 τ ts d env' Q S1.pop h k
  · rename_i e1 he
    cases h
    refine h2 O H0 H σ env τ ts _ _ _ S he fun v H1 S1 => ⟨false, S1.rp, ?_⟩
    rw [if_neg (by decide)]
    have := S1.rp
    cases this
    exact k _ H1 S1
  · cases h
theorem ei_or {f g : EF} (h : EI X a f) (h' : EI X (.BoolOp .Or (b :: rest) pos) g) : EI X (.BoolOp .Or (a :: b :: rest) pos) (eOr f g) := by
  obtain ⟨_, h1, h2⟩ := h
  obtain ⟨_, h3, h4⟩ := h'
  refine ⟨_, pe_or h1 h3, fun O H0 H σ env τ ts d env' Q S h k => ?_⟩
  unfold eOr at h
  split at h
  · rename_i e1 he
    cases h
    refine h2 O H0 H σ env τ ts _ _ _ S he fun v H1 S1 => ⟨true, S1.rp, ?_⟩
    rw [if_pos rfl]
    have := S1.rp
    cases this
    exact k _ H1 S1
  · rename_i e1 he
    refine h2 O H0 H σ env τ ts _ e1 _ S he fun v H1 S1 => ⟨false, S1.rp, ?_⟩
    rw [if_neg (by decide)]; exact h4 O H0 H1 σ e1 τ ts d env' Q S1.pop h k
  · cases h
theorem ei_not {f : EF} (h : EI X a f) : EI X (.UnaryOp .Not a pos) (eNot f) := by
  obtain ⟨_, h1, h2⟩ := h
  refine ⟨_, pe_not h1, fun O H0 H σ env τ ts d env' Q S h k => ?_⟩
  unfold eNot at h
  split at h
  · rename_i b e1 he
    cases h
    refine h2 O H0 H σ env τ ts _ _ _ S he fun v H1 S1 => ⟨b, S1.rp, k _ H1 (S1.pop.push rfl)⟩
  · cases h
theorem ei_if {t : TF} {f g : EF} (hc : ET X c t) (h : EI X a f) (h' : EI X b g) : EI X (.IfExp c a b pos) (eIf t f g) := by
  obtain ⟨_, h1, h2⟩ := hc
  obtain ⟨_, h3, h4⟩ := h
  obtain ⟨_, h5, h6⟩ := h'
  refine ⟨_, pe_ifExp h1 h3 h5, fun O H0 H σ env τ ts d env' Q S h k => ?_⟩
  unfold eIf at h
  split at h
  · rename_i e1 he
    refine h2 O H0 H σ env τ ts _ e1 _ S he fun H1 S1 => ?_
    rw [if_pos rfl]; exact h4 O H0 H1 σ e1 τ ts d env' Q S1 h k
  · rename_i e1 he
    refine h2 O H0 H σ env τ ts _ e1 _ S he fun H1 S1 => ?_
    rw [if_neg (by decide)]; exact h6 O H0 H1 σ e1 τ ts d env' Q S1 h k
  · cases h
theorem en_if {t : TF} {f g : NF} (hc : ET X c t) (h : EN X a f) (h' : EN X b g) : EN X (.IfExp c a b pos) (nIf t f g) := by
  obtain ⟨_, h1, h2⟩ := hc
  obtain ⟨_, h3, h4⟩ := h
  obtain ⟨_, h5, h6⟩ := h'
  refine ⟨_, pe_ifExp h1 h3 h5, fun O H0 H σ env τ ts d env' Q S h k => ?_⟩
  unfold nIf at h
  split at h
  · rename_i e1 he
    refine h2 O H0 H σ env τ ts _ e1 _ S he fun H1 S1 => ?_
    rw [if_pos rfl]; exact h4 O H0 H1 σ e1 τ ts d env' Q S1 h k
  · rename_i e1 he
    refine h2 O H0 H σ env τ ts _ e1 _ S he fun H1 S1 => ?_
    rw [if_neg (by decide)]; exact h6 O H0 H1 σ e1 τ ts d env' Q S1 h k
  · cases h

/-! ### expressions in a row -/
def aNil : AF := fun env => some ([], env)
def aI (f : EF) (r : AF) : AF := fun env => match f env with
  | some (d, e1) => match r e1 with
    | some (ss, e2) => some (.im d :: ss, e2)
    | none => none
  | none => none
def aN (f : NF) (r : AF) : AF := fun env => match f env with
  | some (ds, e1) => match r e1 with
    | some (ss, e2) => some (.ow false ds :: ss, e2)
    | none => none
  | none => none
theorem ea_nil : EA X [] aNil := ⟨_, pa_nil, fun O H0 H σ env τ ts ss env' Q S h k => by
  cases h
  exact k [] H rfl (by simpa using S)⟩
theorem ea_i {f : EF} {r : AF} (h : EI X e f) (hr : EA X es r) (hs : starEach (e :: es) X.env = (false, eval e X.env) :: starEach es X.env := by rfl) : EA X (e :: es) (aI f r) := by
  obtain ⟨_, h1, h2⟩ := h
  obtain ⟨_, h3, h4⟩ := hr
  refine ⟨_, pa_cons h1 h3 hs, fun O H0 H σ env τ ts ss env' Q S h k => ?_⟩
  unfold aI at h
  split at h
  · rename_i d e1 he
    split at h
    · rename_i ss' e2 he2
      cases h
      refine h2 O H0 H σ env τ ts d e1 _ S he fun v H1 S1 => ?_
      refine h4 O H0 H1 σ e1 _ _ ss' env' _ S1 he2 fun vs H2 hl S2 => ?_
      exact k (v :: vs) H2 (by simp [hl]) (by simpa using S2)
    · cases h
  · cases h
theorem ea_n {f : NF} {r : AF} (h : EN X e f) (hr : EA X es r) (hs : starEach (e :: es) X.env = (false, eval e X.env) :: starEach es X.env := by rfl) : EA X (e :: es) (aN f r) := by
  obtain ⟨_, h1, h2⟩ := h
  obtain ⟨_, h3, h4⟩ := hr
  refine ⟨_, pa_cons h1 h3 hs, fun O H0 H σ env τ ts ss env' Q S h k => ?_⟩
  unfold aN at h
  split at h
  · rename_i d e1 he
    split at h
    · rename_i ss' e2 he2
      cases h
      refine h2 O H0 H σ env τ ts d e1 _ S he fun v H1 S1 => ?_
      refine h4 O H0 H1 σ e1 _ _ ss' env' _ S1 he2 fun vs H2 hl S2 => ?_
      exact k (v :: vs) H2 (by simp [hl]) (by simpa using S2)
    · cases h
  · cases h
def ims : List Sl → Option (List Dt)
  | [] => some []
  | .im d :: r => match ims r with
    | some ds => some (d :: ds)
    | none => none
  | .ow _ _ :: _ => none
  | .od _ _ :: _ => none
  | .ol _ _ :: _ => none
  | .og _ _ :: _ => none
  | .fd _ _ _ :: _ => none
  | .ob _ _ _ :: _ => none
  | .on _ _ :: _ => none
theorem ims_eq : ∀ {ss : List Sl} {ds : List Dt}, ims ss = some ds → ss = ds.map Sl.im
  | [], ds, h => by cases h; rfl
  | .im d :: r, ds, h => by
    unfold ims at h
    split at h
    · rename_i ds' e
      cases h
      rw [List.map_cons, ims_eq e]
    · cases h
  | .ow _ _ :: _, ds, h => by cases h
  | .od _ _ :: _, ds, h => by cases h
  | .ol _ _ :: _, ds, h => by cases h
  | .og _ _ :: _, ds, h => by cases h
  | .fd _ _ _ :: _, ds, h => by cases h
  | .ob _ _ _ :: _, ds, h => by cases h
  | .on _ _ :: _, ds, h => by cases h
def aD (f : AF) : Nv → Option (List Dt × Nv) := fun env => match f env with
  | some (ss, e) => match ims ss with
    | some ds => some (ds, e)
    | none => none
  | none => none
/-- arguments that are all data -/
theorem runs_aD {K : Kx} {t : TA} {f : AF} (h : RunsA K t f) {O : Ow} {H0 H : Hp} {σ : L2.St} {env : Nv} {τ : L2.St} {ts : Nv} {ds : List Dt} {env' : Nv} {Q : List V → Hp → Prop} (S : Sg K O H0 H σ env τ ts) (hf : aD f env = some (ds, env'))
    (k : ∀ vs H', RpL K H' ds vs → Sg K O H0 H' σ env' τ ts → Q vs H') : t σ H Q := by
  unfold aD at hf
  split at hf
  · rename_i ss e he
    split at hf
    · rename_i ds' hi
      cases hf
      have es := ims_eq hi
      subst es
      refine h O H0 H σ env τ ts _ _ Q S he fun vs H' hl S' => ?_
      rw [List.map_map] at S'
      obtain ⟨r, S2⟩ := Sg.args (by simpa using hl) S'
      exact k vs H' r S2
    · cases hf
  · cases hf
def eTup (f : AF) : EF := fun env => match aD f env with
  | some (ds, e) => if ds.length ≤ 1000 then some (.tuple ds, e) else none
  | none => none
theorem sz1000 {n : Nat} (h : n ≤ 1000) : n ≤ sizeLine := Nat.le_trans h (by decide)
theorem ei_tup {f : AF} {x1 : Nat} (h : EA X es f) : EI X (.Tuple es x1 pos) (eTup f) := by
  obtain ⟨_, h1, h2⟩ := h
  refine ⟨_, pe_tup h1, fun O H0 H σ env τ ts d env' Q S h k => ?_⟩
  unfold eTup at h
  split at h
  · rename_i ds e1 he
    split at h
    · rename_i hl
      cases h
      refine runs_aD h2 S he fun vs H1 r S1 => ⟨sz1000 (by rw [r.length]; exact hl), fun p hp => k _ _ ?_⟩
      exact (S1.same (same_upd hp)).push ⟨p, vs, rfl, .inl (.inl upd_same), r.kp (.new hp)⟩
    · cases h
  · cases h
def nLst (f : AF) : NF := fun env => match aD f env with
  | some (ds, e) => if ds.length ≤ 1000 then some (ds, e) else none
  | none => none
theorem en_lst {f : AF} (h : EA X es f) : EN X (.List es pos) (nLst f) := by
  obtain ⟨_, h1, h2⟩ := h
  refine ⟨_, pe_lst h1, fun O H0 H σ env τ ts d env' Q S h k => ?_⟩
  unfold nLst at h
  split at h
  · rename_i ds e1 he
    split at h
    · rename_i hl
      cases h
      refine runs_aD h2 S he fun vs H1 r S1 => ⟨sz1000 (by rw [r.length]; exact hl), fun p hp => k _ _ ?_⟩
      exact S1.pushNew hp r
    · cases h
  · cases h

/-! ### calls -/
/-- the promise of a def that comes to data and changes nothing -/
def SpP (K : Kx) (f : List Dt → Option Dt) : Sp := fun vs H Q _ => ∃ ds d, RpL K H ds vs ∧ f ds = some d ∧ ∀ v H', Same H H' → Rp K H' d v → Q v H'
structure Good (P : Program) (w : World) (K : PySem.W.Frag) (mg : Str → Option Value) (base : Heap) (k : Nat) (x : Str) (ps : List Str) (sp : Sp) : Prop where
  ex : ∃ (f : Addr) (fd : FuncData), FnOk P w K mg base CX0 k f fd ps sp ∧ Binds K fd ps [] ∧ mg x = some (.ref f) ∧ PySem.W.keepIn K (.ref f) = true
def eCall (g : List Dt → Option Dt) (f : AF) : EF := fun env => match aD f env with
  | some (ds, e) => match g ds with
    | some d => some (d, e)
    | none => none
  | none => none
theorem runs_call {K : Kx} {E : XK} {g : List Dt → Option Dt} {t : TA} {f : AF} (h2 : RunsA K t f) : RunsI K (tCall (SpP K g) [] E t) (eCall g f) := by
  intro O H0 H σ env τ ts d env' Q S h k
  unfold eCall at h
  split at h
  · rename_i ds e1 he
    split at h
    · rename_i d' hg
      cases h
      refine runs_aD h2 S he fun vs H1 r S1 => ⟨ds, d, ?_, hg, fun v H' e rv => k v H' ((S1.same e).push rv)⟩
      rw [List.append_nil]; exact r
    · cases h
  · cases h
theorem ei_call {k : Nat} {x : Str} {ps : List Str} {g : List Dt → Option Dt} {f : AF} {p : Pos} (G : Good X.prog X.w X.K X.mg X.base k x ps (SpP X.kx g)) (hr : Room k X.A) (hg : Gl X x) (ha : EA X (e :: es) f)
    (hd : (x == ("__debug__" : Str)) = false := by decide) (hs : starEach (e :: es) X.env = (false, eval e X.env) :: starEach es X.env := by rfl) (hst : ((backTo pos (starEach es X.env)).any (·.1)) = false := by rfl) : EI X (.Call (.Name x p) (e :: es) [] pos) (eCall g f) := by
  obtain ⟨fa, fd, F, B, M, kp⟩ := G.ex
  obtain ⟨_, h1, h2⟩ := ha
  exact ⟨_, pe_call F hr hg M kp B .nil pass0 h1 hd hs hst, runs_call h2⟩
theorem ei_call0 {k : Nat} {x : Str} {ps : List Str} {g : List Dt → Option Dt} {p : Pos} (G : Good X.prog X.w X.K X.mg X.base k x ps (SpP X.kx g)) (hr : Room k X.A) (hg : Gl X x)
    (hd : (x == ("__debug__" : Str)) = false := by decide) : EI X (.Call (.Name x p) [] [] pos) (eCall g aNil) := by
  obtain ⟨fa, fd, F, B, M, kp⟩ := G.ex
  refine ⟨_, pe_call0 F hr hg M kp B .nil pass0 hd, runs_call fun O H0 H σ env τ ts ss env' Q S h k => ?_⟩
  cases h
  exact k [] H rfl (by simpa using S)
/-- a built-in by its name, on data -/
def CallD (K : Kx) (r : List V → Hp → VK → Prop) (g : List Dt → Option Dt) : Prop := ∀ (H : Hp) (xs : List V) (ds : List Dt) (d : Dt) (Q : VK), RpL K H ds xs → g ds = some d → (∀ v H', Same H H' → Rp K H' d v → Q v H') → r xs H Q
def CallN (K : Kx) (r : List V → Hp → VK → Prop) (g : List Dt → Option (List Dt)) : Prop := ∀ (H : Hp) (xs : List V) (ds es : List Dt) (Q : VK), RpL K H ds xs → g ds = some es → (∀ p ys, H p = none → RpL K H es ys → Q (.ref p) (upd H p (.lst ys))) → r xs H Q
def nCall (g : List Dt → Option (List Dt)) (f : AF) : NF := fun env => match aD f env with
  | some (ds, e) => match g ds with
    | some d => some (d, e)
    | none => none
  | none => none
theorem runs_cb {K : Kx} {r : List V → Hp → VK → Prop} {g : List Dt → Option Dt} {t : TA} {f : AF} (hr : CallD K r g) (h2 : RunsA K t f) : RunsI K (tCB r t) (eCall g f) := by
  intro O H0 H σ env τ ts d env' Q S h k
  unfold eCall at h
  split at h
  · rename_i ds e1 he
    split at h
    · rename_i d' hg
      cases h
      exact runs_aD h2 S he fun vs H1 r1 S1 => hr H1 vs ds d Q r1 hg fun v H' e rv => k v H' ((S1.same e).push rv)
    · cases h
  · cases h
theorem runs_cbN {K : Kx} {r : List V → Hp → VK → Prop} {g : List Dt → Option (List Dt)} {t : TA} {f : AF} (hr : CallN K r g) (h2 : RunsA K t f) : RunsN K (tCB r t) (nCall g f) := by
  intro O H0 H σ env τ ts d env' Q S h k
  unfold nCall at h
  split at h
  · rename_i ds e1 he
    split at h
    · rename_i d' hg
      cases h
      exact runs_aD h2 S he fun vs H1 r1 S1 => hr H1 vs ds d Q r1 hg fun p ys hp ry => k _ _ (S1.pushNew hp ry)
    · cases h
  · cases h
theorem ei_B {x : Str} {id : String} {r : List V → Hp → VK → Prop} {g : List Dt → Option Dt} {f : AF} {p : Pos} (hc : CallR X (.builtin id) r) (hr : CallD X.kx r g) (hm : X.mg x = none) (hg : Gl X x) (hv : bootBuiltins x = some (.builtin id)) (ha : EA X (e :: es) f)
    (hn : x ≠ "__name__" := by decide) (hd : (x == ("__debug__" : Str)) = false := by decide) (hs : starEach (e :: es) X.env = (false, eval e X.env) :: starEach es X.env := by rfl) (hst : ((backTo pos (starEach es X.env)).any (·.1)) = false := by rfl) :
    EI X (.Call (.Name x p) (e :: es) [] pos) (eCall g f) := by
  obtain ⟨_, h1, h2⟩ := ha
  exact ⟨_, pe_callB hc hg hm hv h1 hn hd hs hst, runs_cb hr h2⟩
theorem en_B {x : Str} {id : String} {r : List V → Hp → VK → Prop} {g : List Dt → Option (List Dt)} {f : AF} {p : Pos} (hc : CallR X (.builtin id) r) (hr : CallN X.kx r g) (hm : X.mg x = none) (hg : Gl X x) (hv : bootBuiltins x = some (.builtin id)) (ha : EA X (e :: es) f)
    (hn : x ≠ "__name__" := by decide) (hd : (x == ("__debug__" : Str)) = false := by decide) (hs : starEach (e :: es) X.env = (false, eval e X.env) :: starEach es X.env := by rfl) (hst : ((backTo pos (starEach es X.env)).any (·.1)) = false := by rfl) :
    EN X (.Call (.Name x p) (e :: es) [] pos) (nCall g f) := by
  obtain ⟨_, h1, h2⟩ := ha
  exact ⟨_, pe_callB hc hg hm hv h1 hn hd hs hst, runs_cbN hr h2⟩
theorem ei_Ty {x : Str} {T : String} {r : List V → Hp → VK → Prop} {g : List Dt → Option Dt} {f : AF} {p : Pos} (hc : CallR X (.type T) r) (hr : CallD X.kx r g) (hm : X.mg x = none) (hg : Gl X x) (hv : bootBuiltins x = some (.type T)) (ha : EA X (e :: es) f)
    (hn : x ≠ "__name__" := by decide) (hd : (x == ("__debug__" : Str)) = false := by decide) (hs : starEach (e :: es) X.env = (false, eval e X.env) :: starEach es X.env := by rfl) (hst : ((backTo pos (starEach es X.env)).any (·.1)) = false := by rfl) :
    EI X (.Call (.Name x p) (e :: es) [] pos) (eCall g f) := by
  obtain ⟨_, h1, h2⟩ := ha
  exact ⟨_, pe_callTy hc hg hm hv h1 hn hd hs hst, runs_cb hr h2⟩
theorem en_Ty {x : Str} {T : String} {r : List V → Hp → VK → Prop} {g : List Dt → Option (List Dt)} {f : AF} {p : Pos} (hc : CallR X (.type T) r) (hr : CallN X.kx r g) (hm : X.mg x = none) (hg : Gl X x) (hv : bootBuiltins x = some (.type T)) (ha : EA X (e :: es) f)
    (hn : x ≠ "__name__" := by decide) (hd : (x == ("__debug__" : Str)) = false := by decide) (hs : starEach (e :: es) X.env = (false, eval e X.env) :: starEach es X.env := by rfl) (hst : ((backTo pos (starEach es X.env)).any (·.1)) = false := by rfl) :
    EN X (.Call (.Name x p) (e :: es) [] pos) (nCall g f) := by
  obtain ⟨_, h1, h2⟩ := ha
  exact ⟨_, pe_callTy hc hg hm hv h1 hn hd hs hst, runs_cbN hr h2⟩
end
section
variable {K : Kx} {O : Ow} {H0 H H' : Hp} {σ τ : L2.St} {env env' ts : Nv}
theorem Sg.put {v : V} {s : Sl} (S : Sg K O H0 H σ env (τ ++ [some v]) (ts ++ [some s])) (i : Nat) : Sg K O H0 H (σ.set i (some v)) (env.set i (some s)) τ ts := by
  by_cases hi : i < env.length
  · exact S.set i hi
  · have := S.le
    rw [List.set_eq_of_length_le (by omega), List.set_eq_of_length_le (by omega)]
    exact S.pop
theorem Sg.wipe1 (S : Sg K O H0 H σ env τ ts) (i : Nat) (w : Option V) : Sg K O H0 H (σ.set i w) (env.set i none) τ ts := by
  by_cases hi : i < env.length
  · exact S.forget i w hi
  · have := S.le
    rw [List.set_eq_of_length_le (by omega), List.set_eq_of_length_le (by omega)]
    exact S
/-- what is not known may be anything -/
theorem Sto.any {W W' : L2.St} {E : Nv} (S : Sto K O H0 H W E) (hl : W'.length = W.length) (h : ∀ (i : Nat) (s : Sl), E[i]? = some (some s) → W'[i]? = W[i]?) : Sto K O H0 H W' E :=
  S.embed (hl.trans S.len) id (fun i s e => ⟨e, h i s e⟩) fun i j _ _ _ _ z => z
theorem Sto.cut {W W2 : L2.St} {E E2 : Nv} (S : Sto K O H0 H (W ++ W2) (E ++ E2)) (hl : W.length = E.length) : Sto K O H0 H W E := by
  refine S.embed hl id (fun i s h => ⟨get_left h, ?_⟩) fun i j _ _ _ _ z => z
  have l1 := (List.getElem?_eq_some_iff.mp h).1
  exact (List.getElem?_append_left (by omega)).symm
theorem get_mid {α : Type} (a m b : List α) (i : Nat) : (a ++ b)[i]? = (a ++ (m ++ b))[if i < a.length then i else i + m.length]? := by
  by_cases hi : i < a.length
  · rw [if_pos hi, List.getElem?_append_left hi, List.getElem?_append_left hi]
  · rw [if_neg hi, List.getElem?_append_right (by omega), List.getElem?_append_right (by omega), List.getElem?_append_right (by omega)]
    congr 1; omega
theorem Sg.mid {τ2 τ3 : L2.St} {ts2 ts3 : Nv} (S : Sg K O H0 H σ env (τ ++ (τ2 ++ τ3)) (ts ++ (ts2 ++ ts3))) (hl : τ.length = ts.length) (hl2 : τ2.length = ts2.length) : Sg K O H0 H σ env (τ ++ τ3) (ts ++ ts3) := by
  have le := S.le
  have h := S.st
  have l3 := S.len2
  simp only [List.length_append] at l3
  refine ⟨?_, le⟩
  have h' : Sto K O H0 H ((σ ++ τ) ++ (τ2 ++ τ3)) ((env ++ ts) ++ (ts2 ++ ts3)) := by rw [List.append_assoc, List.append_assoc]; exact h
  rw [← List.append_assoc, ← List.append_assoc]
  refine h'.embed (by simp [le, hl]; omega) (fun i => if i < (σ ++ τ).length then i else i + τ2.length) (fun i s hi => ⟨?_, get_mid (σ ++ τ) τ2 τ3 i⟩) (fun i j _ _ _ _ z => ?_)
  · rw [get_mid (env ++ ts) ts2 ts3 i, ← hl2] at hi
    simp only [List.length_append, le, hl] at hi ⊢
    exact hi
  · split at z <;> split at z <;> omega
theorem Sg.cut {τ2 : L2.St} {ts2 : Nv} (S : Sg K O H0 H σ env (τ ++ τ2) (ts ++ ts2)) (hl : τ.length = ts.length) : Sg K O H0 H σ env τ ts :=
  ⟨(show Sto K O H0 H ((σ ++ τ) ++ τ2) ((env ++ ts) ++ ts2) by rw [List.append_assoc, List.append_assoc]; exact S.st).cut (by rw [List.length_append, List.length_append, S.le, hl]), S.le⟩
theorem Sg.moveAt {τ2 : L2.St} {ts2 : Nv} {v : V} {s : Sl} (S : Sg K O H0 H σ env (τ ++ some v :: τ2) (ts ++ some s :: ts2)) (hl : τ.length = ts.length) (i : Nat) : Sg K O H0 H (σ.set i (some v)) (env.set i (some s)) (τ ++ some v :: τ2) (ts ++ none :: ts2) := by
  have le := S.le
  have e1 : (env ++ (ts ++ some s :: ts2))[env.length + ts.length]? = some (some s) := by
    rw [List.getElem?_append_right (by omega), show env.length + ts.length - env.length = ts.length from by omega, List.getElem?_append_right (Nat.le_refl _), Nat.sub_self]; rfl
  have e2 : (σ ++ (τ ++ some v :: τ2))[env.length + ts.length]? = some (some v) := by
    rw [List.getElem?_append_right (by omega), show env.length + ts.length - σ.length = τ.length from by omega, List.getElem?_append_right (Nat.le_refl _), Nat.sub_self]; rfl
  have e3 : (env ++ (ts ++ some s :: ts2)).set (env.length + ts.length) none = env ++ (ts ++ none :: ts2) := by
    rw [List.set_append_right _ _ (by omega), show env.length + ts.length - env.length = ts.length from by omega, List.set_append_right _ _ (Nat.le_refl _), Nat.sub_self]; rfl
  by_cases hi : i < env.length
  · have h := S.st.moveAt e2 e1 (show i ≠ env.length + ts.length by omega)
    rw [e3, List.set_append_left _ _ (by omega), List.set_append_left _ _ hi] at h
    exact ⟨h, by simpa using le⟩
  · rw [List.set_eq_of_length_le (by omega), List.set_eq_of_length_le (by omega)]
    refine ⟨?_, le⟩
    have h := S.st.forget (env.length + ts.length) (some v)
    rw [e3] at h
    have e4 : (σ ++ (τ ++ some v :: τ2)).set (env.length + ts.length) (some v) = σ ++ (τ ++ some v :: τ2) := by
      rw [List.set_append_right _ _ (by omega), show env.length + ts.length - σ.length = τ.length from by omega, List.set_append_right _ _ (Nat.le_refl _), Nat.sub_self]; rfl
    rw [e4] at h
    exact h
def setAll {α : Type} (l : List (Option α)) : List Nat → List α → List (Option α)
  | i :: is, v :: vs => setAll (l.set i (some v)) is vs
  | _, _ => l
theorem Sg.setAll : ∀ {is : List Nat} {vs : List V} {ss : List Sl} {τ σ : L2.St} {ts env : Nv}, vs.length = ss.length → is.length = ss.length → τ.length = ts.length → Sg K O H0 H σ env (τ ++ vs.map some) (ts ++ ss.map some) →
    ∃ ts', ts'.length = ss.length ∧ Sg K O H0 H (Vd.setAll σ is vs) (Vd.setAll env is ss) (τ ++ vs.map some) (ts ++ ts')
  | [], vs, [], τ, σ, ts, env, h1, _, _, S => by
    cases vs with
    | nil => exact ⟨[], rfl, S⟩
    | cons _ _ => simp at h1
  | [], _, _ :: _, _, _, _, _, _, h2, _, _ => by simp at h2
  | _ :: _, _, [], _, _, _, _, _, h2, _, _ => by simp at h2
  | i :: is, [], _ :: _, _, _, _, _, h1, _, _, _ => by simp at h1
  | i :: is, v :: vs, s :: ss, τ, σ, ts, env, h1, h2, hl, S => by
    have S1 := Sg.moveAt (τ2 := vs.map some) (ts2 := ss.map some) S hl i
    have S2 : Sg K O H0 H (σ.set i (some v)) (env.set i (some s)) ((τ ++ [some v]) ++ vs.map some) ((ts ++ [none]) ++ ss.map some) := by simpa using S1
    obtain ⟨ts', hl', S3⟩ := Sg.setAll (is := is) (by simpa using h1) (by simpa using h2) (by simp [hl]) S2
    exact ⟨none :: ts', by simp [hl'], by simpa [Vd.setAll] using S3⟩
theorem Sg.pushAll (S : Sg K O H0 H σ env τ ts) : ∀ {ds : List Dt} {vs : List V}, RpL K H ds vs → Sg K O H0 H σ env (τ ++ (vs.map some).reverse) (ts ++ (ds.map fun d => some (.im d)).reverse)
  | [], _, h => by cases h; simpa using S
  | d :: ds, _, h => by
    obtain ⟨v, r, rfl, h1, h2⟩ := h
    have := (Sg.pushAll S h2).push h1
    simpa using this
end

/-! ### statements -/
inductive Out where
  | nx (e : Nv)
  | rt (d : Dt) (e : Nv)
  | bk (e : Nv)
  | ct (e : Nv)
abbrev SF := Nv → Option Out
def OutOk (K : Kx) (O : Ow) (H0 : Hp) (τ : L2.St) (ts : Nv) (D : Ends) : Out → Prop
  | .nx e => ∀ σ H, Sg K O H0 H σ e τ ts → D.nx σ H
  | .rt d e => ∀ v σ H, Sg K O H0 H σ e (τ ++ [some v]) (ts ++ [some (.im d)]) → D.rt v H
  | .bk e => ∀ σ H, Sg K O H0 H σ e τ ts → D.bk σ H
  | .ct e => ∀ σ H, Sg K O H0 H σ e τ ts → D.ct σ H
def RunsS (K : Kx) (t : TS) (g : SF) : Prop := ∀ (O : Ow) (H0 H : Hp) (σ : L2.St) (env : Nv) (τ : L2.St) (ts : Nv) (out : Out) (D : Ends), Sg K O H0 H σ env τ ts → g env = some out → OutOk K O H0 τ ts D out → t D σ H
def SX (X : Cx) (st : Stmt) (g : SF) : Prop := ∃ t, PS X st t ∧ RunsS X.kx t g
def SXs (X : Cx) (sts : List Stmt) (g : SF) : Prop := ∃ t, PSs X sts t ∧ RunsS X.kx t g

section
variable {X : Cx} {st : Stmt} {rest : List Stmt} {e a b c : Expr} {es : List Expr} {pos : Pos}
def sSkip : SF := fun env => some (.nx env)
def sSeq (f g : SF) : SF := fun env => match f env with
  | some (.nx e) => g e
  | o => o
def sNever : SF := fun _ => none
theorem sxs_nil : SXs X [] sSkip := ⟨_, pss_nil, fun O H0 H σ env τ ts out D S h k => by cases h; exact k σ H S⟩
theorem sxs_cons {f g : SF} (h : SX X st f) (h' : SXs X rest g) : SXs X (st :: rest) (sSeq f g) := by
  obtain ⟨t, h1, h2⟩ := h
  obtain ⟨u, h3, h4⟩ := h'
  refine ⟨_, pss_cons h1 h3, fun O H0 H σ env τ ts out D S h k => ?_⟩
  unfold sSeq at h
  show t { D with nx := u D } σ H
  cases hf : f env with
  | none => rw [hf] at h; cases h
  | some o =>
    rw [hf] at h
    refine h2 O H0 H σ env τ ts o _ S hf ?_
    cases o with
    | nx e1 => exact fun σ' H' S' => h4 O H0 H' σ' e1 τ ts out D S' h k
    | rt d e1 => cases h; exact k
    | bk e1 => cases h; exact k
    | ct e1 => cases h; exact k
theorem sxs_one {f : SF} (h : SX X st f) : SXs X [st] f := let ⟨_, h1, h2⟩ := h; ⟨_, pss_one h1, h2⟩
theorem sx_pass : SX X (.Pass pos) sSkip := ⟨_, ps_pass, fun O H0 H σ env τ ts out D S h k => by cases h; exact k σ H S⟩
theorem sx_never : SX X st sNever := ⟨_, ps_never, fun O H0 H σ env τ ts out D S h k => by cases h⟩
def sBrk : SF := fun env => some (.bk env)
def sCnt : SF := fun env => some (.ct env)
theorem sx_break : SX X (.Break pos) sBrk := ⟨_, ps_break, fun O H0 H σ env τ ts out D S h k => by cases h; exact k σ H S⟩
theorem sx_cont : SX X (.Continue pos) sCnt := ⟨_, ps_continue, fun O H0 H σ env τ ts out D S h k => by cases h; exact k σ H S⟩
def sExpr (f : EF) : SF := fun env => match f env with
  | some (_, e) => some (.nx e)
  | none => none
theorem sx_expr {f : EF} (h : EI X e f) (hs : swapsWith e none pos.line X.env = pure false := by rfl) : SX X (.Expr e pos) (sExpr f) := by
  obtain ⟨t, h1, h2⟩ := h
  refine ⟨_, ps_expr h1 hs, fun O H0 H σ env τ ts out D S h k => ?_⟩
  unfold sExpr at h
  split at h
  · rename_i d e1 he
    cases h
    exact h2 O H0 H σ env τ ts d e1 _ S he fun v H1 S1 => k σ H1 S1.pop
  · cases h
def sRet (f : EF) : SF := fun env => match f env with
  | some (d, e) => some (.rt d e)
  | none => none
theorem sx_ret {f : EF} (h : EI X e f) : SX X (.Return (some e) pos) (sRet f) := by
  obtain ⟨t, h1, h2⟩ := h
  refine ⟨_, ps_ret h1, fun O H0 H σ env τ ts out D S h k => ?_⟩
  unfold sRet at h
  split at h
  · rename_i d e1 he
    cases h
    exact h2 O H0 H σ env τ ts d e1 _ S he fun v H1 S1 => k v σ H1 S1
  · cases h
def sIf (c : TF) (f g : SF) : SF := fun env => match c env with
  | some (true, e) => f e
  | some (false, e) => g e
  | none => none
theorem sx_if {t : TF} {f g : SF} {x y : List Stmt} (hc : ET X c t) (h : SXs X x f) (h' : SXs X y g) : SX X (.If c x y pos) (sIf t f g) := by
  obtain ⟨_, h1, h2⟩ := hc
  obtain ⟨_, h3, h4⟩ := h
  obtain ⟨_, h5, h6⟩ := h'
  refine ⟨_, ps_if h1 h3 h5, fun O H0 H σ env τ ts out D S h k => ?_⟩
  unfold sIf at h
  split at h
  · rename_i e1 he
    refine h2 O H0 H σ env τ ts _ e1 _ S he fun H1 S1 => ?_
    rw [if_pos rfl]; exact h4 O H0 H1 σ e1 τ ts out D S1 h k
  · rename_i e1 he
    refine h2 O H0 H σ env τ ts _ e1 _ S he fun H1 S1 => ?_
    rw [if_neg (by decide)]; exact h6 O H0 H1 σ e1 τ ts out D S1 h k
  · cases h
/-- name = e -/
def sSet (i : Nat) (f : EF) : SF := fun env => match f env with
  | some (d, e) => some (.nx (e.set i (some (.im d))))
  | none => none
def sNew (i : Nat) (f : NF) : SF := fun env => match f env with
  | some (d, e) => some (.nx (e.set i (some (.ow false d))))
  | none => none
theorem runs_set {K : Kx} {t : TE} {f : EF} {i : Nat} (h2 : RunsI K t f) : RunsS K (tAsg t (gName i)) (sSet i f) := by
  intro O H0 H σ env τ ts out D S h k
  unfold sSet at h
  split at h
  · rename_i d e1 he
    cases h
    exact h2 O H0 H σ env τ ts d e1 _ S he fun v H1 S1 => k _ H1 (S1.put i)
  · cases h
theorem runs_new {K : Kx} {t : TE} {f : NF} {i : Nat} (h2 : RunsN K t f) : RunsS K (tAsg t (gName i)) (sNew i f) := by
  intro O H0 H σ env τ ts out D S h k
  unfold sNew at h
  split at h
  · rename_i d e1 he
    cases h
    exact h2 O H0 H σ env τ ts d e1 _ S he fun v H1 S1 => k _ H1 (S1.put i)
  · cases h
theorem sx_set {i : Nat} {x : Str} {f : EF} {pos' : Pos} (hN : X.N.Nodup) (hi : X.N[i]? = some x) (hx : Loc X.env.scope x) (h : EI X e f) (hs : swapsWith e (some (.Name x pos')) pos.line X.env = pure false := by rfl)
    (hf : X.fn x = true ∨ X.env.scope.names.lookup x = some .local := by first | exact .inl rfl | exact .inr rfl | assumption) : SX X (.Assign [.Name x pos'] e pos) (sSet i f) := by
  obtain ⟨t, h1, h2⟩ := h
  exact ⟨_, ps_set hN hi hx h1 hs hf, runs_set h2⟩
theorem sx_setN {i : Nat} {x : Str} {f : NF} {pos' : Pos} (hN : X.N.Nodup) (hi : X.N[i]? = some x) (hx : Loc X.env.scope x) (h : EN X e f) (hs : swapsWith e (some (.Name x pos')) pos.line X.env = pure false := by rfl)
    (hf : X.fn x = true ∨ X.env.scope.names.lookup x = some .local := by first | exact .inl rfl | exact .inr rfl | assumption) : SX X (.Assign [.Name x pos'] e pos) (sNew i f) := by
  obtain ⟨t, h1, h2⟩ := h
  exact ⟨_, ps_set hN hi hx h1 hs hf, runs_new h2⟩

/-! ### targets -/
abbrev GF := Dt → Nv → Option Nv
def RunsG (K : Kx) (g : TG) (gs : List Nat) (f : GF) : Prop := ∀ (O : Ow) (H0 H : Hp) (σ : L2.St) (env : Nv) (τ : L2.St) (ts : Nv) (v : V) (d : Dt) (env' : Nv) (Q : L2.St → Hp → Prop),
  Sg K O H0 H σ env (τ ++ [some v]) (ts ++ [some (.im d)]) → f d env = some env' → (∀ σ', Sg K O H0 H σ' env' τ ts → σ'.length = σ.length → (∀ j, j ∉ gs → σ'[j]? = σ[j]?) → Q σ' H) → g v σ H Q
def EG (X : Cx) (tg : Expr) (gs : List Nat) (f : GF) : Prop := ∃ g, PG X tg g ∧ RunsG X.kx g gs f
abbrev GsF := List Dt → Nv → Option Nv
def RunsGs (K : Kx) (g : TGs) (gs : List Nat) (f : GsF) : Prop := ∀ (O : Ow) (H0 H : Hp) (σ : L2.St) (env : Nv) (τ : L2.St) (ts : Nv) (vs : List V) (ds : List Dt) (env' : Nv) (Q : L2.St → Hp → Prop),
  vs.length = ds.length → Sg K O H0 H σ env (τ ++ (vs.map some).reverse) (ts ++ (ds.map fun d => some (Sl.im d)).reverse) → f ds env = some env' →
  (∀ σ', Sg K O H0 H σ' env' τ ts → σ'.length = σ.length → (∀ j, j ∉ gs → σ'[j]? = σ[j]?) → Q σ' H) → g vs σ H Q
def EGs (X : Cx) (tgs : List Expr) (gs : List Nat) (f : GsF) : Prop := ∃ g, PGs X tgs g ∧ RunsGs X.kx g gs f
def gNm (i : Nat) : GF := fun d env => some (env.set i (some (.im d)))
theorem eg_name {i : Nat} {x : Str} (hN : X.N.Nodup) (hi : X.N[i]? = some x) (hx : Loc X.env.scope x) (hf : X.fn x = true ∨ X.env.scope.names.lookup x = some .local := by first | exact .inl rfl | exact .inr rfl | assumption) : EG X (.Name x pos) [i] (gNm i) := by
  refine ⟨_, pg_name hN hi hx hf, fun O H0 H σ env τ ts v d env' Q S h k => ?_⟩
  cases h
  exact k _ (S.put i) (by simp) fun j hj => by rw [List.getElem?_set_ne (fun z => hj (by simp [z]))]
def gsNil : GsF := fun ds env => match ds with
  | [] => some env
  | _ => none
def gsCons (g : GF) (gs : GsF) : GsF := fun ds env => match ds with
  | d :: r => match g d env with
    | some e => gs r e
    | none => none
  | [] => none
theorem egs_nil : EGs X [] [] gsNil := by
  refine ⟨_, pgs_nil, fun O H0 H σ env τ ts vs ds env' Q hl S h k => ?_⟩
  cases ds with
  | nil =>
    cases h
    cases vs with
    | nil => exact ⟨rfl, k σ (by simpa using S) rfl fun _ _ => rfl⟩
    | cons _ _ => simp at hl
  | cons _ _ => cases h
theorem egs_cons {g : GF} {gs : GsF} {is js : List Nat} (h : EG X e is g) (h' : EGs X es js gs) (hs : (assignEach (e :: es) X.env).map (·.2) = assign e X.env :: (assignEach es X.env).map (·.2) := by rfl) : EGs X (e :: es) (is ++ js) (gsCons g gs) := by
  obtain ⟨t, h1, h2⟩ := h
  obtain ⟨u, h3, h4⟩ := h'
  refine ⟨_, pgs_cons h1 h3 hs, fun O H0 H σ env τ ts vs ds env' Q hl S h k => ?_⟩
  cases ds with
  | nil => cases h
  | cons d r =>
    cases vs with
    | nil => simp at hl
    | cons v vr =>
      unfold gsCons at h
      dsimp only at h
      split at h
      · rename_i e1 he
        have S' : Sg X.kx O H0 H σ env ((τ ++ (vr.map some).reverse) ++ [some v]) ((ts ++ (r.map fun d => some (Sl.im d)).reverse) ++ [some (.im d)]) := by simpa using S
        refine ⟨v, vr, rfl, h2 O H0 H σ env _ _ v d e1 _ S' he fun σ1 S1 l1 j1 => ?_⟩
        exact h4 O H0 H σ1 e1 τ ts vr r env' Q (by simpa using hl) S1 h fun σ2 S2 l2 j2 => k σ2 S2 (l2.trans l1) fun j hj => by
          rw [j2 j (fun z => hj (List.mem_append_right _ z)), j1 j (fun z => hj (List.mem_append_left _ z))]
      · cases h
def gTp (gs : GsF) : GF := fun d env => match d with
  | .tuple ds => gs ds env
  | _ => none
theorem eg_tup {gs : GsF} {is : List Nat} {k n : Nat} (hc : X.calm = true) (h : EGs X es is gs) (hlen : ∀ ds env env', gs ds env = some env' → ds.length = n) (hn : (assignEach es X.env).length = n := by rfl) (hst : (assignEach es X.env).findIdx? (·.1) = none := by rfl) : EG X (.Tuple es k pos) is (gTp gs) := by
  obtain ⟨t, h1, h2⟩ := h
  refine ⟨_, pg_tup hc h1 hn hst, fun O H0 H σ env τ ts v d env' Q S h k => ?_⟩
  unfold gTp at h
  split at h
  · rename_i ds
    obtain ⟨a, xs, rfl, hq, hr⟩ := S.rp
    exact ⟨a, xs, rfl, hq, by rw [hr.length]; exact hlen ds env env' h, h2 O H0 H σ env τ ts xs ds env' Q hr.length (S.pop.pushAll hr) h k⟩
  · cases h
theorem gsNil_len {ds : List Dt} {env env' : Nv} (h : gsNil ds env = some env') : ds.length = 0 := by
  cases ds with
  | nil => rfl
  | cons _ _ => cases h
theorem gsCons_len {g : GF} {gs : GsF} {n : Nat} (hn : ∀ ds env env', gs ds env = some env' → ds.length = n) : ∀ ds env env', gsCons g gs ds env = some env' → ds.length = n + 1 := by
  intro ds env env' h
  cases ds with
  | nil => cases h
  | cons d r =>
    unfold gsCons at h
    dsimp only at h
    split at h
    · rw [List.length_cons, hn _ _ _ h]
    · cases h
/-- target = e -/
def sAsg (f : EF) (g : GF) : SF := fun env => match f env with
  | some (d, e) => match g d e with
    | some e2 => some (.nx e2)
    | none => none
  | none => none
theorem sx_asg {f : EF} {g : GF} {is : List Nat} {tg : Expr} (h : EI X e f) (hg : EG X tg is g) (hs : swapsWithSole [tg] e pos.line X.env = pure false := by rfl) (hw : swappedStores [tg] e X.env = pure none := by rfl)
    (h1 : (assignEach [tg] X.env).map (·.2) = [assign tg X.env] := by rfl) : SX X (.Assign [tg] e pos) (sAsg f g) := by
  obtain ⟨t, h2, h3⟩ := h
  obtain ⟨u, h4, h5⟩ := hg
  refine ⟨_, ps_asg h2 h4 hs hw h1, fun O H0 H σ env τ ts out D S h k => ?_⟩
  unfold sAsg at h
  split at h
  · rename_i d e1 he
    split at h
    · rename_i e2 he2
      cases h
      exact h3 O H0 H σ env τ ts d e1 _ S he fun v H1 S1 => h5 O H0 H1 σ e1 τ ts v d e2 _ S1 he2 fun σ' S' _ _ => k σ' H1 S'
    · cases h
  · cases h
/-- a, b, .. = e1, e2, .. -/
def sPar (is : List Nat) (f : AF) : SF := fun env => match f env with
  | some (ss, e) => if is.length = ss.length then some (.nx (setAll e is ss)) else none
  | none => none
theorem runs_par {K : Kx} {ta : TA} {f : AF} {is : List Nat} {G : L2.St → List V → (L2.St → Hp → Prop) → Hp → Prop} (h2 : RunsA K ta f)
    (hG : ∀ σ vs N H, vs.length = is.length → (∀ H', Same H H' → N (setAll σ is vs) H') → G σ vs N H) : RunsS K (fun D σ H => ta σ H fun vs H1 => G σ vs D.nx H1) (sPar is f) := by
  intro O H0 H σ env τ ts out D S h k
  unfold sPar at h
  split at h
  · rename_i ss e1 he
    split at h
    · rename_i hl
      cases h
      refine h2 O H0 H σ env τ ts ss e1 _ S he fun vs H1 hv S1 => hG σ vs D.nx H1 (hv.trans hl.symm) fun H' e => ?_
      obtain ⟨ts', _, S2⟩ := Sg.setAll (is := is) hv hl S.len2 S1
      exact k _ H' ((S2.cut S.len2).same e)
    · cases h
  · cases h
theorem sx_par2 {i j : Nat} {x y : Str} {f : AF} {px py pt : Pos} {kt k2 : Nat} {pt2 : Pos} (hc : X.calm = true) (hN : X.N.Nodup) (hi : X.N[i]? = some x) (hj : X.N[j]? = some y) (hij : i ≠ j)
    (hx : X.env.scope.names.lookup x = some .local) (hy : X.env.scope.names.lookup y = some .local) (ha : EA X [a, b] f)
    (hw : swappedStores [.Tuple [.Name x px, .Name y py] kt pt] (.Tuple [a, b] k2 pt2) X.env = pure (some [x, y]))
    (hs : swapsWithSole [.Tuple [.Name x px, .Name y py] kt pt] (.Tuple [a, b] k2 pt2) pos.line X.env = pure false := by rfl) :
    SX X (.Assign [.Tuple [.Name x px, .Name y py] kt pt] (.Tuple [a, b] k2 pt2) pos) (sPar [i, j] f) := by
  obtain ⟨ta, h1, h2⟩ := ha
  refine ⟨_, ps_par hc hN hi hj hij hx hy h1 hw hs, runs_par (G := fun σ vs N H => ∃ v w, vs = [v, w] ∧ N ((σ.set i (some v)).set j (some w)) H) h2 fun σ vs N H hl k => ?_⟩
  match vs, hl with
  | [v, w], _ => exact ⟨v, w, rfl, k H (Same.refl H)⟩
theorem sx_par3 {i j l : Nat} {x y z : Str} {f : AF} {px py pz pt : Pos} {kt k2 : Nat} {pt2 : Pos} (hc : X.calm = true) (hN : X.N.Nodup) (hi : X.N[i]? = some x) (hj : X.N[j]? = some y) (hl : X.N[l]? = some z) (hij : i ≠ j) (hil : i ≠ l) (hjl : j ≠ l)
    (hx : X.env.scope.names.lookup x = some .local) (hy : X.env.scope.names.lookup y = some .local) (hz : X.env.scope.names.lookup z = some .local) (ha : EA X [a, b, c] f)
    (hw : swappedStores [.Tuple [.Name x px, .Name y py, .Name z pz] kt pt] (.Tuple [a, b, c] k2 pt2) X.env = pure (some [x, y, z]))
    (hs : swapsWithSole [.Tuple [.Name x px, .Name y py, .Name z pz] kt pt] (.Tuple [a, b, c] k2 pt2) pos.line X.env = pure false := by rfl) :
    SX X (.Assign [.Tuple [.Name x px, .Name y py, .Name z pz] kt pt] (.Tuple [a, b, c] k2 pt2) pos) (sPar [i, j, l] f) := by
  obtain ⟨ta, h1, h2⟩ := ha
  refine ⟨_, ps_par3 hc hN hi hj hl hij hil hjl hx hy hz h1 hw hs, runs_par (G := fun σ vs N H => ∃ u v w, vs = [u, v, w] ∧ N (((σ.set i (some u)).set j (some v)).set l (some w)) H) h2 fun σ vs N H hl k => ?_⟩
  match vs, hl with
  | [u, v, w], _ => exact ⟨u, v, w, rfl, k H (Same.refl H)⟩
/-- the names of a target, by slots -/
def nmG : List Nat → TGs
  | [] => gNil
  | i :: is => gCons (gName i) (nmG is)
theorem nmG_run : ∀ {is : List Nat} {vs : List V} {σ : L2.St} {H : Hp} {Q : L2.St → Hp → Prop}, vs.length = is.length → Q (setAll σ is vs) H → nmG is vs σ H Q
  | [], [], _, _, _, _, h => ⟨rfl, h⟩
  | [], _ :: _, _, _, _, h, _ => by simp at h
  | _ :: _, [], _, _, _, h, _ => by simp at h
  | i :: is, v :: vs, σ, H, Q, hl, h => ⟨v, vs, rfl, nmG_run (is := is) (by simpa using hl) h⟩
theorem sx_parN {is : List Nat} {f : AF} {tgs : List Expr} {kt k2 : Nat} {pt pt2 : Pos} {n : Nat} (hc : X.calm = true) (hg : PGs X tgs (nmG is)) (ha : EA X es f) (hle : is.length ≤ 1000)
    (hs : swapsWithSole [.Tuple tgs kt pt] (.Tuple es k2 pt2) pos.line X.env = pure false := by rfl) (hw : swappedStores [.Tuple tgs kt pt] (.Tuple es k2 pt2) X.env = pure none := by rfl)
    (h1 : (assignEach [.Tuple tgs kt pt] X.env).map (·.2) = [assign (.Tuple tgs kt pt) X.env] := by rfl) (hn : (assignEach tgs X.env).length = is.length := by rfl) (hst : (assignEach tgs X.env).findIdx? (·.1) = none := by rfl) :
    SX X (.Assign [.Tuple tgs kt pt] (.Tuple es k2 pt2) pos) (sPar is f) := by
  obtain ⟨ta, h2, h3⟩ := ha
  refine ⟨_, ps_asg (pe_tup h2) (pg_tup hc hg hn hst) hs hw h1, runs_par (G := fun σ vs N H => vs.length ≤ sizeLine ∧ ∀ p, H p = none → gTup X.kx is.length (nmG is) (.ref p) σ (upd H p (.tup vs)) N) h3 fun σ vs N H hl k => ?_⟩
  exact ⟨sz1000 (by omega), fun p hp => ⟨p, vs, rfl, .inl (.inl upd_same), hl, nmG_run hl (k _ (same_upd hp))⟩⟩

/-! ### canonical readings -/
def cI (K : Kx) (f : EF) : TE := fun σ H Q => ∃ (O : Ow) (H0 : Hp) (env : Nv) (τ : L2.St) (ts : Nv) (d : Dt) (env' : Nv), Sg K O H0 H σ env τ ts ∧ f env = some (d, env') ∧ ∀ v H', Sg K O H0 H' σ env' (τ ++ [some v]) (ts ++ [some (.im d)]) → Q v H'
def cT (K : Kx) (f : TF) : TT := fun σ H Q => ∃ (O : Ow) (H0 : Hp) (env : Nv) (τ : L2.St) (ts : Nv) (b : Bool) (env' : Nv), Sg K O H0 H σ env τ ts ∧ f env = some (b, env') ∧ ∀ H', Sg K O H0 H' σ env' τ ts → Q b H'
def cG (K : Kx) (gs : List Nat) (f : GF) : TG := fun v σ H Q => ∃ (O : Ow) (H0 : Hp) (env : Nv) (τ : L2.St) (ts : Nv) (d : Dt) (env' : Nv), Sg K O H0 H σ env (τ ++ [some v]) (ts ++ [some (.im d)]) ∧ f d env = some env' ∧ ∀ σ', Sg K O H0 H σ' env' τ ts → σ'.length = σ.length → (∀ j, j ∉ gs → σ'[j]? = σ[j]?) → Q σ' H
theorem EI.can {f : EF} (h : EI X e f) : PE X e (cI X.kx f) := by
  obtain ⟨t, h1, h2⟩ := h
  refine ⟨fun pins s σ H Q I q => ?_⟩
  obtain ⟨O, H0, env, τ, ts, d, env', S, hf, k⟩ := q
  exact h1.run pins s σ H Q I (h2 O H0 H σ env τ ts d env' Q S hf k)
theorem ET.can {f : TF} (h : ET X e f) : PT X e (cT X.kx f) := by
  obtain ⟨t, h1, h2⟩ := h
  refine ⟨fun pins s σ H Q I q => ?_⟩
  obtain ⟨O, H0, env, τ, ts, d, env', S, hf, k⟩ := q
  exact h1.run pins s σ H Q I (h2 O H0 H σ env τ ts d env' Q S hf k)
theorem EG.can {f : GF} {gs : List Nat} (h : EG X e gs f) : PG X e (cG X.kx gs f) := by
  obtain ⟨t, h1, h2⟩ := h
  refine ⟨fun pins s σ H v u Q I r q => ?_⟩
  obtain ⟨O, H0, env, τ, ts, d, env', S, hf, k⟩ := q
  exact h1.run pins s σ H v u Q I r (h2 O H0 H σ env τ ts v d env' Q S hf k)

/-! ### what is walked -/
/-- the items, as data -/
def Sl.fix : Sl → Bool
  | .im _ => true
  | .fd _ _ _ => true
  | _ => false
theorem SlOk.fixed {K : Kx} {H : Hp} {v : V} {s : Sl} {fp : List Addr} (f : s.fix = true) (h : SlOk K H v s fp) : fp = [] ∧ s.io = false := by
  cases s with
  | im d => exact ⟨h.2, rfl⟩
  | fd o es kvs => obtain ⟨_, _, _, _, e⟩ := h; exact ⟨e, rfl⟩
  | ow _ _ => cases f
  | od _ _ => cases f
  | ol _ _ => cases f
  | og _ _ => cases f
  | ob _ _ _ => cases f
  | on _ _ => cases f
def Pin (K : Kx) (H : Hp) : List Sl → List V → Prop
  | [], vs => vs = []
  | s :: r, vs => ∃ v r', vs = v :: r' ∧ s.fix = true ∧ (∃ fp, SlOk K H v s fp) ∧ Pin K H r r'
theorem Pin.length {K : Kx} {H : Hp} : ∀ {ss : List Sl} {vs : List V}, Pin K H ss vs → vs.length = ss.length
  | [], _, h => by cases h; rfl
  | s :: r, _, h => by
    obtain ⟨v, r', rfl, _, _, h2⟩ := h
    simp [Pin.length h2]
theorem Pin.fix {K : Kx} {H : Hp} : ∀ {ss : List Sl} {vs : List V}, Pin K H ss vs → ∀ s ∈ ss, s.fix = true
  | [], _, _, s, hs => by cases hs
  | s :: r, _, h, t, ht => by
    obtain ⟨v, r', rfl, h1, _, h2⟩ := h
    rcases List.mem_cons.mp ht with rfl | ht
    · exact h1
    · exact Pin.fix h2 t ht
theorem Pin.of {K : Kx} {H : Hp} : ∀ {ds : List Dt} {vs : List V}, RpL K H ds vs → Pin K H (ds.map Sl.im) vs
  | [], _, h => h
  | d :: ds, _, h => by
    obtain ⟨v, r, rfl, h1, h2⟩ := h
    exact ⟨v, r, rfl, rfl, ⟨[], h1, rfl⟩, Pin.of h2⟩
theorem Pin.to {K : Kx} {H : Hp} : ∀ {ds : List Dt} {vs : List V}, Pin K H (ds.map Sl.im) vs → RpL K H ds vs
  | [], _, h => h
  | d :: ds, _, h => by
    obtain ⟨v, r, rfl, _, ⟨_, h1, _⟩, h2⟩ := h
    exact ⟨v, r, rfl, h1, Pin.to h2⟩
theorem Sg.pushPin {K : Kx} {O : Ow} {H0 H : Hp} {σ τ : L2.St} {env ts : Nv} (S : Sg K O H0 H σ env τ ts) : ∀ {ss : List Sl} {vs : List V}, Pin K H ss vs → Sg K O H0 H σ env (τ ++ (vs.map some).reverse) (ts ++ (ss.map some).reverse)
  | [], _, h => by cases h; simpa using S
  | s :: ss, _, h => by
    obtain ⟨v, r, rfl, h0, ⟨fp, h1⟩, h2⟩ := h
    obtain ⟨rfl, io⟩ := h1.fixed h0
    have S1 := Sg.pushPin S h2
    have S2 : Sg K O H0 H σ env ((τ ++ (r.map some).reverse) ++ [some v]) ((ts ++ (ss.map some).reverse) ++ [some s]) := S1.pushO (Same.refl H) h1 (fun b hb => by cases hb) io
    simpa using S2
theorem Sg.argsP {K : Kx} {O : Ow} {H0 H : Hp} {σ τ : L2.St} {env ts : Nv} : ∀ {ss : List Sl} {vs : List V}, vs.length = ss.length → (∀ s ∈ ss, s.fix = true) → Sg K O H0 H σ env (τ ++ (vs.map some).reverse) (ts ++ (ss.map some).reverse) → Pin K H ss vs ∧ Sg K O H0 H σ env τ ts
  | [], [], _, _, S => ⟨rfl, by simpa using S⟩
  | [], _ :: _, h, _, _ => by simp at h
  | _ :: _, [], h, _, _ => by simp at h
  | s :: ss, v :: vs, h, f, S => by
    have S' : Sg K O H0 H σ env ((τ ++ (vs.map some).reverse) ++ [some v]) ((ts ++ (ss.map some).reverse) ++ [some s]) := by simpa using S
    obtain ⟨h1, h2⟩ := Sg.argsP (by simpa using h) (fun t ht => f t (List.mem_cons_of_mem _ ht)) S'.pop
    exact ⟨⟨v, vs, rfl, f s List.mem_cons_self, S'.top, h1⟩, h2⟩
def RunsL (K : Kx) (wi : TI) (f : NF) : Prop := ∀ (O : Ow) (H0 H : Hp) (σ : L2.St) (env : Nv) (τ : L2.St) (ts : Nv) (ds : List Dt) (env' : Nv) (R : It → Hp → Prop), Sg K O H0 H σ env τ ts → f env = some (ds, env') →
  (∀ (J : It) (H' : Hp) (vs1 : List V) (ss1 : List Sl) (G : Hp → Prop) (Y : Nat → Hp → V → Hp → Prop), Walk J ds.length G Y → Pin K H' ss1 vs1 → Sg K O H0 H' σ env' τ ts → (∀ H, Pin K H ss1 vs1 → G H) →
    (∀ (i : Nat) (d : Dt) (x : V) (H H' : Hp), ds[i]? = some d → Pin K H ss1 vs1 → Y i H x H' → Same H H' ∧ Rp K H' d x) → R J H') → wi σ H R
theorem RunsL.of {K : Kx} {wi : TI} {f : NF} (h : ∀ (O : Ow) (H0 H : Hp) (σ : L2.St) (env : Nv) (τ : L2.St) (ts : Nv) (ds : List Dt) (env' : Nv) (R : It → Hp → Prop), Sg K O H0 H σ env τ ts → f env = some (ds, env') →
  (∀ (J : It) (H' : Hp) (vs1 : List V) (ds1 : List Dt) (G : Hp → Prop) (Y : Nat → Hp → V → Hp → Prop), Walk J ds.length G Y → RpL K H' ds1 vs1 → Sg K O H0 H' σ env' τ ts → (∀ H, RpL K H ds1 vs1 → G H) →
    (∀ (i : Nat) (d : Dt) (x : V) (H H' : Hp), ds[i]? = some d → RpL K H ds1 vs1 → Y i H x H' → Same H H' ∧ Rp K H' d x) → R J H') → wi σ H R) : RunsL K wi f := fun O H0 H σ env τ ts ds env' R S hf k =>
  h O H0 H σ env τ ts ds env' R S hf fun J H' vs1 ds1 G Y w r S' hG hY => k J H' vs1 (ds1.map Sl.im) G Y w (.of r) S' (fun H p => hG H p.to) fun i d x H H'' hd p y => hY i d x H H'' hd p.to y
def EL (X : Cx) (tg iter : Expr) (f : NF) : Prop := ∃ wi, PI X tg iter wi ∧ RunsL X.kx wi f
def forD (g : GF) (b : SF) : List Dt → SF
  | [], env => some (.nx env)
  | d :: ds, env => match g d env with
    | some e => match b e with
      | some (.nx e1) => forD g b ds e1
      | some (.ct e1) => forD g b ds e1
      | some (.bk e1) => some (.nx e1)
      | some (.rt d e1) => some (.rt d e1)
      | none => none
    | none => none
def sFor (it : NF) (g : GF) (b : SF) : SF := fun env => match it env with
  | some (ds, e) => forD g b ds e
  | none => none
theorem Sg.argsR {K : Kx} {O : Ow} {H0 H : Hp} {σ τ : L2.St} {env ts : Nv} : ∀ {ds : List Dt} {vs : List V}, vs.length = ds.length → Sg K O H0 H σ env (τ ++ (vs.map some).reverse) (ts ++ (ds.map fun d => some (Sl.im d)).reverse) → RpL K H ds vs ∧ Sg K O H0 H σ env τ ts
  | [], [], _, S => ⟨rfl, by simpa using S⟩
  | [], _ :: _, h, _ => by simp at h
  | _ :: _, [], h, _ => by simp at h
  | d :: ds, v :: vs, h, S => by
    have S' : Sg K O H0 H σ env ((τ ++ (vs.map some).reverse) ++ [some v]) ((ts ++ (ds.map fun d => some (Sl.im d)).reverse) ++ [some (.im d)]) := by simpa using S
    obtain ⟨h1, h2⟩ := Sg.argsR (by simpa using h) S'.pop
    exact ⟨⟨v, vs, rfl, S'.rp, h1⟩, h2⟩
theorem sx_for {it : NF} {g : GF} {f : SF} {gs : List Nat} {tg iter : Expr} {body : List Stmt} (hp : PassesOwn (model X.prog X.w) X.A X.env X.xe) (hc : X.calm = true) (hi : EL X tg iter it) (hg : EG X tg gs g) (hb : SXs X body f)
    (hs : ∀ x, foldedSetIterable iter X.env x = pure x := by intro _; rfl) : SX X (.For tg iter body [] pos) (sFor it g f) := by
  obtain ⟨wi, h1, h2⟩ := hi
  obtain ⟨tb, h3, h4⟩ := hb
  obtain ⟨tg', h5, h6⟩ := hg
  refine ⟨_, ps_for hp hc h1 h5 h3 hs, fun O H0 H σ env τ ts out D S h k => ?_⟩
  unfold sFor at h
  split at h
  · rename_i ds e0 he0
    refine h2 O H0 H σ env τ ts ds e0 _ S he0 fun J H1 vs1 ss1 G Y w r1 S1 hG hY => ?_
    let τ1 := τ ++ (vs1.map some).reverse
    let ts1 := ts ++ (ss1.map some).reverse
    have hl1 : vs1.length = ss1.length := r1.length
    have fx1 := r1.fix
    have hk : OutOk X.kx O H0 τ1 ts1 D out := by
      cases out with
      | nx e => exact fun σ H S => k σ H (S.cut S1.len2)
      | rt d e => exact fun v σ H S => k v σ H (by
          have r := S.rp
          exact (S.pop.cut S1.len2).push r)
      | bk e => exact fun σ H S => k σ H (S.cut S1.len2)
      | ct e => exact fun σ H S => k σ H (S.cut S1.len2)
    refine for_it w (fun i σ H => ∃ e, Sg X.kx O H0 H σ e τ1 ts1 ∧ forD g f (ds.drop i) e = some out) ⟨e0, S1.pushPin r1, h⟩ (fun i σ H _ ⟨e, S, _⟩ => hG H (Sg.argsP hl1 fx1 S).1) (fun i x σ H H' hi ⟨e, S, hf⟩ y => ?_) (fun σ H ⟨e, S, hf⟩ => ?_)
    · have hd : ds.drop i = ds[i] :: ds.drop (i + 1) := List.drop_eq_getElem_cons hi
      rw [hd] at hf
      unfold forD at hf
      obtain ⟨sm, rx⟩ := hY i ds[i] x H H' (List.getElem?_eq_getElem hi) (Sg.argsP hl1 fx1 S).1 y
      have S' := (S.same sm).push rx
      split at hf
      · rename_i e2 he2
        refine h6 O H0 H' σ e τ1 ts1 x ds[i] e2 _ S' he2 fun σ2 S2 _ _ => ?_
        split at hf
        · rename_i e3 he3
          exact h4 O H0 H' σ2 e2 τ1 ts1 _ _ S2 he3 fun σ3 H3 S3 => ⟨e3, S3, hf⟩
        · rename_i e3 he3
          exact h4 O H0 H' σ2 e2 τ1 ts1 _ _ S2 he3 fun σ3 H3 S3 => ⟨e3, S3, hf⟩
        · rename_i e3 he3
          cases hf
          exact h4 O H0 H' σ2 e2 τ1 ts1 _ _ S2 he3 fun σ3 H3 S3 => hk σ3 H3 S3
        · rename_i d3 e3 he3
          cases hf
          exact h4 O H0 H' σ2 e2 τ1 ts1 _ _ S2 he3 fun v σ3 H3 S3 => hk v σ3 H3 S3
        · cases hf
      · cases hf
    · rw [List.drop_length] at hf
      cases hf
      exact hk σ H S
  · cases h

/-! ### while -/
def whileD (c : TF) (b : SF) : Nat → SF
  | 0, _ => none
  | n + 1, env => match c env with
    | some (true, e) => match b e with
      | some (.nx e1) => whileD c b n e1
      | some (.ct e1) => whileD c b n e1
      | some (.bk e1) => some (.nx e1)
      | some (.rt d e1) => some (.rt d e1)
      | none => none
    | some (false, e) => some (.nx e)
    | none => none
theorem sx_while {t : TF} {f : SF} {body : List Stmt} (n : Nat) (hp : PassesOwn (model X.prog X.w) X.A X.env X.xe) (hc : ET X c t) (hb : SXs X body f) : SX X (.While c body [] pos) (whileD t f n) := by
  obtain ⟨tc, h1, h2⟩ := hc
  obtain ⟨tb, h3, h4⟩ := hb
  refine ⟨_, ps_while hp h1 h3, fun O H0 H σ env τ ts out D S h k => ?_⟩
  refine ⟨fun m σ H => ∃ e, Sg X.kx O H0 H σ e τ ts ∧ whileD t f m e = some out, ⟨n, env, S, h⟩, fun m σ H ⟨e, S, hf⟩ => ?_⟩
  cases m with
  | zero => cases hf
  | succ m =>
    unfold whileD at hf
    split at hf
    · rename_i e1 he1
      refine h2 O H0 H σ e τ ts true e1 _ S he1 fun H1 S1 => ?_
      rw [if_pos rfl]
      refine ⟨fun σ' H' => ∃ e, Sg X.kx O H0 H' σ' e τ ts ∧ whileD t f m e = some out, fun σ' H' ⟨e, S, hf⟩ => ⟨m, Nat.lt_succ_self m, e, S, hf⟩, ?_⟩
      split at hf
      · rename_i e3 he3
        exact h4 O H0 H1 σ e1 τ ts _ _ S1 he3 fun σ3 H3 S3 => ⟨e3, S3, hf⟩
      · rename_i e3 he3
        exact h4 O H0 H1 σ e1 τ ts _ _ S1 he3 fun σ3 H3 S3 => ⟨e3, S3, hf⟩
      · rename_i e3 he3
        cases hf
        exact h4 O H0 H1 σ e1 τ ts _ _ S1 he3 fun σ3 H3 S3 => k σ3 H3 S3
      · rename_i d3 e3 he3
        cases hf
        exact h4 O H0 H1 σ e1 τ ts _ _ S1 he3 fun v σ3 H3 S3 => k v σ3 H3 S3
      · cases hf
    · rename_i e1 he1
      cases hf
      refine h2 O H0 H σ e τ ts false e1 _ S he1 fun H1 S1 => ?_
      rw [if_neg (by decide)]
      exact k σ H1 S1
    · cases hf

/-! ### comprehensions -/
def wip (env : Nv) : List Nat → Nv
  | [] => env
  | v :: vs => (wip env vs).set v none
theorem Sg.wipe {K : Kx} {O : Ow} {H0 H : Hp} {σ τ : L2.St} {env ts : Nv} (S : Sg K O H0 H σ env τ ts) : ∀ vs : List Nat, Sg K O H0 H (L2.wipe σ vs) (wip env vs) τ ts
  | [] => S
  | v :: vs => (Sg.wipe S vs).wipe1 v none
theorem wip_some {env : Nv} {i : Nat} {s : Sl} : ∀ {vs : List Nat}, (wip env vs)[i]? = some (some s) → env[i]? = some (some s) ∧ i ∉ vs
  | [], h => ⟨h, by simp⟩
  | v :: vs, h => by
    unfold wip at h
    rcases get_set h with ⟨hi, h⟩ | ⟨_, _, e⟩
    · obtain ⟨h1, h2⟩ := wip_some h
      exact ⟨h1, by simp only [List.mem_cons, not_or]; exact ⟨hi, h2⟩⟩
    · cases e
theorem wipe_get {σ : L2.St} {i : Nat} {vs : List Nat} (h : i ∉ vs) : (L2.wipe σ vs)[i]? = σ[i]? := by
  induction vs with
  | nil => rfl
  | cons v vs ih =>
    simp only [List.mem_cons, not_or] at h
    unfold L2.wipe
    rw [List.getElem?_set_ne (Ne.symm h.1), ih h.2]
theorem wipe_in {σ : L2.St} {i : Nat} {vs : List Nat} (h : i ∈ vs) (hi : i < σ.length) : (L2.wipe σ vs)[i]? = some none := by
  induction vs with
  | nil => simp at h
  | cons v vs ih =>
    unfold L2.wipe
    by_cases e : v = i
    · subst e
      rw [List.getElem?_set_self (by rw [wipe_length]; exact hi)]
    · rw [List.getElem?_set_ne e]
      exact ih (by simpa [Ne.symm e] using h)
theorem wipe_eq {σ σ' : L2.St} {vs : List Nat} (hl : σ'.length = σ.length) (h : ∀ j, j ∉ vs → σ'[j]? = σ[j]?) : L2.wipe σ' vs = L2.wipe σ vs := by
  apply List.ext_getElem?
  intro i
  by_cases hi : i ∈ vs
  · by_cases hl' : i < σ.length
    · rw [wipe_in hi hl', wipe_in hi (by omega)]
    · rw [List.getElem?_eq_none (by rw [wipe_length]; omega), List.getElem?_eq_none (by rw [wipe_length]; omega)]
  · rw [wipe_get hi, wipe_get hi, h i hi]
theorem Sg.unwipe {K : Kx} {O : Ow} {H0 H : Hp} {σ τ : L2.St} {env ts : Nv} {vs : List Nat} (S : Sg K O H0 H (L2.wipe σ vs) (wip env vs) τ ts) : Sg K O H0 H σ (wip env vs) τ ts := by
  have le := S.le
  rw [wipe_length] at le
  refine ⟨S.st.any (by simp [wipe_length]) fun i s h => ?_, le⟩
  by_cases hi : i < σ.length
  · rw [List.getElem?_append_left (by omega)] at h
    rw [List.getElem?_append_left hi, List.getElem?_append_left (by rw [wipe_length]; exact hi)]
    exact (wipe_get (wip_some h).2).symm
  · rw [List.getElem?_append_right (by omega), List.getElem?_append_right (by rw [wipe_length]; omega), wipe_length]
def tYesF : TF := fun env => some (true, env)
/-- the turns of a comprehension -/
def lcD (vs : List Nat) (g : GF) (c : TF) (f : EF) : List Dt → Nv → Option (List Dt × Nv)
  | [], env => some ([], env)
  | d :: ds, env => match g d env with
    | some e1 => match c e1 with
      | some (true, e2) => match f e2 with
        | some (y, e3) => match lcD vs g c f ds (wip e3 vs) with
          | some (ys, e4) => some (y :: ys, e4)
          | none => none
        | none => none
      | some (false, e2) => lcD vs g c f ds (wip e2 vs)
      | none => none
    | none => none
def nLc (vs : List Nat) (it : NF) (g : GF) (c : TF) (f : EF) : NF := fun env => match it env with
  | some (ds, e) => if ds.length < 10000000 then lcD vs g c f ds (wip e vs) else none
  | none => none
theorem lcD_len {vs : List Nat} {g : GF} {c : TF} {f : EF} : ∀ {ds : List Dt} {env : Nv} {ys : List Dt} {e : Nv}, lcD vs g c f ds env = some (ys, e) → ys.length ≤ ds.length
  | [], env, ys, e, h => by cases h; simp
  | d :: ds, env, ys, e, h => by
    unfold lcD at h
    split at h
    · split at h
      · split at h
        · split at h
          · rename_i ys' e4 h4
            cases h
            have := lcD_len h4
            simp; exact this
          · cases h
        · cases h
      · have := lcD_len h
        simp; omega
      · cases h
    · cases h
theorem runs_lc {K : Kx} {wi : TI} {it : NF} {g : GF} {c : TF} {f : EF} {vs gs : List Nat} (h2 : RunsL K wi it) (hgs : ∀ j ∈ gs, j ∈ vs) : RunsN K (tLc wi (cG K gs g) (cT K c) (cI K f) vs) (nLc vs it g c f) := by
  intro O H0 H σ env τ ts out env' Q S h k
  unfold nLc at h
  split at h
  · rename_i ds e0 he0
    split at h
    · rename_i hlen
      refine h2 O H0 H σ env τ ts ds e0 _ S he0 fun J H1 vs1 ss1 G Y w r1 S1 hG hY => ?_
      intro D hD
      have hl1 : vs1.length = ss1.length := r1.length
      have fx1 := r1.fix
      let τ1 := τ ++ (vs1.map some).reverse
      let ts1 := ts ++ (ss1.map some).reverse
      have S1a := (S1.pushPin r1).wipe vs
      have S2 := S1a.pushNew (ds := []) (xs := []) hD rfl
      refine lc_it w (fun i H => ∃ acc e ys, Sg K O H0 H (L2.wipe σ vs) (wip e vs) (τ1 ++ [some (.ref D)]) (ts1 ++ [some (.ow false acc)]) ∧ acc.length ≤ i ∧ lcD vs g c f (ds.drop i) (wip e vs) = some (ys, env') ∧ acc ++ ys = out)
        ⟨[], e0, out, S2, Nat.le_refl _, h, rfl⟩ (fun i H _ ⟨acc, e, ys, S, _, _, _⟩ => hG H (Sg.argsP hl1 fx1 S.pop).1) (fun i x H H' hi ⟨acc, e, ys, S, hacc, hf, hout⟩ y => ?_) (fun H ⟨acc, e, ys, S, hacc, hf, hout⟩ => ?_)
      · have hd : ds.drop i = ds[i] :: ds.drop (i + 1) := List.drop_eq_getElem_cons hi
        rw [hd] at hf
        unfold lcD at hf
        obtain ⟨sm, rx⟩ := hY i ds[i] x H H' (List.getElem?_eq_getElem hi) (Sg.argsP hl1 fx1 S.pop).1 y
        have S' := (S.same sm).push rx
        split at hf
        · rename_i e1 he1
          refine ⟨O, H0, _, _, _, _, e1, S', he1, fun σ2 Sa la ja => ⟨?_, ?_⟩⟩
          · have := wipe_eq (vs := vs) (σ := L2.wipe σ vs) la fun j hj => ja j fun z => hj (hgs j z)
            rw [this]
            exact wipe_eq (by rw [wipe_length]) fun j hj => wipe_get hj
          · have hw2 : L2.wipe σ2 vs = L2.wipe σ vs := by
              have := wipe_eq (vs := vs) (σ := L2.wipe σ vs) la fun j hj => ja j fun z => hj (hgs j z)
              rw [this]
              exact wipe_eq (by rw [wipe_length]) fun j hj => wipe_get hj
            split at hf
            · rename_i e2 he2
              refine ⟨O, H0, e1, _, _, true, e2, Sa, he2, fun H3 Sb => ?_⟩
              show (if true = true then _ else _)
              rw [if_pos rfl]
              split at hf
              · rename_i y3 e3 he3
                refine ⟨O, H0, e2, _, _, y3, e3, Sb, he3, fun v H4 Sc => ?_⟩
                split at hf
                · rename_i ys' e4 he4
                  cases hf
                  have rv := Sc.rp
                  have Sd := Sc.pop
                  obtain ⟨D', xs, eD, hD2, rxs⟩ := Sd.topO
                  cases eD
                  refine ⟨xs, hD2, Nat.lt_of_le_of_lt (by rw [rxs.length]; exact hacc) (Nat.lt_trans hi (Nat.lt_trans hlen (by decide))), acc ++ [y3], e3, ys', ?_, by simp; exact hacc, he4, by simpa using hout⟩
                  have Se := Sd.writeT (rxs.append (.one rv))
                  have Sf := Se.wipe vs
                  rw [hw2] at Sf
                  exact Sf
                · cases hf
              · cases hf
            · rename_i e2 he2
              refine ⟨O, H0, e1, _, _, false, e2, Sa, he2, fun H3 Sb => ?_⟩
              show (if false = true then _ else _)
              rw [if_neg (by decide)]
              have Sf := Sb.wipe vs
              rw [hw2] at Sf
              exact ⟨acc, e2, ys, Sf, by omega, hf, hout⟩
            · cases hf
        · cases hf
      · rw [List.drop_length] at hf
        cases hf
        rw [List.append_nil] at hout
        subst hout
        have Su := S.unwipe
        obtain ⟨D', xs, eD, hD2, rxs⟩ := Su.topO
        cases eD
        refine k _ H ?_
        have Sm : Sg K O H0 H σ (wip e vs) (τ ++ ((vs1.map some).reverse ++ [some (.ref D)])) (ts ++ ((ss1.map some).reverse ++ [some (.ow false acc)])) := by
          have := Su
          simp only [τ1, ts1, List.append_assoc] at this
          exact this
        exact Sm.mid S1.len2 (by simp [hl1])
    · cases h
  · cases h
end
section
variable {X : Cx} {e a b c elt tg iter : Expr} {es : List Expr} {pos : Pos}

/-! ### what is walked -/
def iOr (w w' : TI) : TI := fun σ H R => w σ H R ∨ w' σ H R
theorem pi_or {w w' : TI} (h : PI X tg iter w) (h' : PI X tg iter w') : PI X tg iter (iOr w w') := ⟨fun pins s σ H R I q => by
  rcases q with q | q
  · exact h.run pins s σ H R I q
  · exact h'.run pins s σ H R I q⟩
def YD (K : Kx) (ds : List Dt) : Nat → Hp → V → Hp → Prop := fun i H x H' => ∃ d, ds[i]? = some d ∧ Same H H' ∧ Rp K H' d x
theorem walkD_list {K : Kx} {p : Addr} {ds : List Dt} : Walk (Itl K p) ds.length (fun H => Rp K H (.list ds) (.ref p)) (YD K ds) := by
  refine ⟨fun i H hi q => ?_, fun H q => ?_, fun i H x H' hi q y => ?_⟩
  · obtain ⟨p', xs, e, hq, hr⟩ := q
    cases e
    obtain ⟨v, h1, _⟩ := hr.get (List.getElem?_eq_getElem hi)
    exact ⟨xs, v, hq.sq, h1⟩
  · obtain ⟨p', xs, e, hq, hr⟩ := q
    cases e
    exact ⟨xs, hq.sq, by rw [hr.length]; exact Nat.le_refl _⟩
  · obtain ⟨p', xs, e, hq, hr⟩ := q
    cases e
    obtain ⟨rfl, h⟩ := y
    have h1 := h xs hq.sq
    obtain ⟨v, h2, h3⟩ := hr.get (List.getElem?_eq_getElem hi)
    rw [h1] at h2; cases h2
    exact ⟨_, List.getElem?_eq_getElem hi, Same.refl _, h3⟩
theorem walkD_tup {K : Kx} {p : Addr} {ds : List Dt} : Walk (Itt K p) ds.length (fun H => Rp K H (.tuple ds) (.ref p)) (YD K ds) := by
  refine ⟨fun i H hi q => ?_, fun H q => ?_, fun i H x H' hi q y => ?_⟩
  · obtain ⟨p', xs, e, hq, hr⟩ := q
    cases e
    obtain ⟨v, h1, _⟩ := hr.get (List.getElem?_eq_getElem hi)
    exact ⟨xs, v, hq, h1⟩
  · obtain ⟨p', xs, e, hq, hr⟩ := q
    cases e
    exact ⟨xs, hq, by rw [hr.length]; exact Nat.le_refl _⟩
  · obtain ⟨p', xs, e, hq, hr⟩ := q
    cases e
    obtain ⟨rfl, h⟩ := y
    have h1 := h xs hq
    obtain ⟨v, h2, h3⟩ := hr.get (List.getElem?_eq_getElem hi)
    rw [h1] at h2; cases h2
    exact ⟨_, List.getElem?_eq_getElem hi, Same.refl _, h3⟩
theorem YD.use {K : Kx} {ds : List Dt} {i : Nat} {d : Dt} {x : V} {H H' : Hp} (y : YD K ds i H x H') (h : ds[i]? = some d) : Same H H' ∧ Rp K H' d x := by
  obtain ⟨d', h1, h2⟩ := y
  rw [h] at h1; cases h1
  exact h2
theorem RpL.rp1 {K : Kx} {H : Hp} {d : Dt} {v : V} (h : RpL K H [d] [v]) : Rp K H d v := by
  obtain ⟨_, _, e, h1, _⟩ := h
  cases e
  exact h1
def itD (f : EF) : NF := fun env => match f env with
  | some (.list ds, e) => some (ds, e)
  | some (.tuple ds, e) => some (ds, e)
  | _ => none
theorem el_data {f : EF} (h : EI X iter f) : EL X tg iter (itD f) := by
  obtain ⟨t, h1, h2⟩ := h
  refine ⟨_, pi_or (pi_list h1) (pi_tup h1), RunsL.of fun O H0 H σ env τ ts ds env' R S hf k => ?_⟩
  unfold itD at hf
  split at hf
  · rename_i ds' e1 he
    cases hf
    refine .inl (h2 O H0 H σ env τ ts _ _ _ S he fun v H' S' => ?_)
    obtain ⟨p, xs, rfl, hq, hr⟩ := S'.rp
    exact ⟨p, rfl, ⟨xs, hq.sq⟩, k (Itl X.kx p) H' [.ref p] [.list ds] _ _ walkD_list (.one S'.rp) S'.pop (fun H r => r.rp1) fun i d x H H'' hd r y => y.use hd⟩
  · rename_i ds' e1 he
    cases hf
    refine .inr (h2 O H0 H σ env τ ts _ _ _ S he fun v H' S' => ?_)
    obtain ⟨p, xs, rfl, hq, hr⟩ := S'.rp
    exact ⟨p, rfl, ⟨xs, hq⟩, k (Itt X.kx p) H' [.ref p] [.tuple ds] _ _ walkD_tup (.one S'.rp) S'.pop (fun H r => r.rp1) fun i d x H H'' hd r y => y.use hd⟩
  · cases hf
def rangeD (j : Int) : List Dt := (List.range j.toNat).map fun (i : Nat) => PyData.int (i : Int)
def itR (f : AF) : NF := fun env => match aD f env with
  | some ([.int j], e) => if -(2 ^ 62) ≤ j ∧ j < 2 ^ 62 then some (rangeD j, e) else none
  | _ => none
theorem el_range {f : AF} {p : Pos} (hm : X.mg "range" = none) (hg : Gl X "range") (ha : EA X [a] f) (hs : starEach [a] X.env = [(false, eval a X.env)] := by rfl) : EL X tg (.Call (.Name "range" p) [a] [] pos) (itR f) := by
  obtain ⟨t, h1, h2⟩ := ha
  refine ⟨_, pi_range1 hg hm h1 hs, RunsL.of fun O H0 H σ env τ ts ds env' R S hf k => ?_⟩
  unfold itR at hf
  split at hf
  · rename_i j e1 he
    split at hf
    · rename_i hb
      cases hf
      refine runs_aD h2 S he fun vs H1 r S1 => ?_
      obtain ⟨v, r', rfl, h3, h4⟩ := r
      cases h4
      cases h3
      have hl : (rangeD j).length = j.toNat := by simp [rangeD]
      refine ⟨j, rfl, hb.1, hb.2, k (Itr 0 j.toNat) H1 [] [] (fun _ => True) (YFn fun i => .int (0 + i)) (by rw [hl]; exact walk_range) rfl S1 (fun _ _ => trivial) fun i d x H H' hd _ y => ?_⟩
      obtain ⟨rfl, rfl⟩ := y
      refine ⟨Same.refl _, ?_⟩
      unfold rangeD at hd
      rw [List.getElem?_map] at hd
      have hi : i < j.toNat := by
        cases hq : (List.range j.toNat)[i]? with
        | none => rw [hq] at hd; cases hd
        | some q =>
          have := (List.getElem?_eq_some_iff.mp hq).1
          simpa using this
      rw [List.getElem?_range hi] at hd
      cases hd
      show V.int (0 + (i : Int)) = V.int (i : Int)
      rw [Int.zero_add]
    · cases hf
  · cases hf
def zipD (as bs : List Dt) : List Dt := List.zipWith (fun x y => PyData.tuple [x, y]) as bs
theorem rp_pair {K : Kx} {H : Hp} {T : Addr} {x y : V} {a b : Dt} (hT : H T = none) (ha : Rp K H a x) (hb : Rp K H b y) : Same H (upd H T (.tup [x, y])) ∧ Rp K (upd H T (.tup [x, y])) (.tuple [a, b]) (.ref T) :=
  ⟨same_upd hT, T, [x, y], rfl, .inl (.inl upd_same), x, [y], rfl, Rp.kp (.new hT) a x ha, y, [], rfl, Rp.kp (.new hT) b y hb, rfl⟩
def itZ (f : AF) : NF := fun env => match aD f env with
  | some ([.list as, .list bs], e) => some (zipD as bs, e)
  | _ => none
theorem walkD_zip {K : Kx} {p q : Addr} {as bs : List Dt} : Walk (Itz K p q) (zipD as bs).length (fun H => RpL K H [.list as, .list bs] [.ref p, .ref q]) (YD K (zipD as bs)) := by
  have g : ∀ {H : Hp}, RpL K H [.list as, .list bs] [.ref p, .ref q] → ∃ xs ys, SqL K H p xs ∧ RpL K H as xs ∧ SqL K H q ys ∧ RpL K H bs ys := fun {H} r => by
    obtain ⟨v, r', e, ⟨p', xs, e1, hq, hr⟩, w, r2, e2, ⟨q', ys, e3, hq2, hr2⟩, _⟩ := r
    cases e; cases e2; cases e1; cases e3
    exact ⟨xs, ys, hq.sq, hr, hq2.sq, hr2⟩
  have hl : (zipD as bs).length = min as.length bs.length := by simp [zipD]
  refine ⟨fun i H hi q => ?_, fun H q => ?_, fun i H x H' hi q y => ?_⟩
  · obtain ⟨xs, ys, h1, h2, h3, h4⟩ := g q
    rw [hl] at hi
    obtain ⟨v, g1, _⟩ := h2.get (List.getElem?_eq_getElem (show i < as.length by omega))
    obtain ⟨w, g2, _⟩ := h4.get (List.getElem?_eq_getElem (show i < bs.length by omega))
    exact ⟨xs, ys, v, w, h1, h3, g1, g2⟩
  · obtain ⟨xs, ys, h1, h2, h3, h4⟩ := g q
    refine ⟨xs, ys, h1, h3, ?_⟩
    rw [hl, h2.length, h4.length]; omega
  · obtain ⟨xs, ys, h1, h2, h3, h4⟩ := g q
    rw [hl] at hi
    obtain ⟨v, g1, r1⟩ := h2.get (List.getElem?_eq_getElem (show i < as.length by omega))
    obtain ⟨w, g2, r2⟩ := h4.get (List.getElem?_eq_getElem (show i < bs.length by omega))
    obtain ⟨T, x1, z, rfl, hT, rfl, q1, q2⟩ := y
    have e1 := q1 xs h1
    have e2 := q2 ys h3
    rw [g1] at e1; cases e1
    rw [g2] at e2; cases e2
    have hlt : i < (zipD as bs).length := by rw [hl]; omega
    refine ⟨.tuple [as[i]'(by omega), bs[i]'(by omega)], ?_, rp_pair hT r1 r2⟩
    rw [List.getElem?_eq_getElem hlt]
    simp [zipD]
theorem el_zip {f : AF} {p tpos : Pos} {kk : Nat} {elts : List Expr} (hm : X.mg "zip" = none) (hg : Gl X "zip") (ha : EA X [a, b] f) (hs : starEach [a, b] X.env = (false, eval a X.env) :: starEach [b] X.env := by rfl)
    (hpl : (backTo pos (starEach [b] X.env)).any (·.1) = false := by rfl) : EL X (.Tuple elts kk tpos) (.Call (.Name "zip" p) [a, b] [] pos) (itZ f) := by
  obtain ⟨t, h1, h2⟩ := ha
  refine ⟨_, pi_zip hg hm h1 hs hpl, RunsL.of fun O H0 H σ env τ ts ds env' R S hf k => ?_⟩
  unfold itZ at hf
  split at hf
  · rename_i as bs e1 he
    cases hf
    refine runs_aD h2 S he fun vs H1 r S1 => ?_
    have r0 := r
    obtain ⟨v, r', rfl, ⟨p', xs, rfl, hq, hr⟩, w, r2, rfl, ⟨q', ys, rfl, hq2, hr2⟩, e3⟩ := r
    cases e3
    exact ⟨p', q', xs, ys, rfl, hq.sq, hq2.sq, k (Itz X.kx p' q') H1 _ _ _ _ walkD_zip r0 S1 (fun H r => r) fun i d x H H'' hd r y => y.use hd⟩
  · cases hf
def enumD (as : List Dt) : List Dt := zipD (rangeD as.length) as
def itE (f : AF) : NF := fun env => match aD f env with
  | some ([.list as], e) => some (enumD as, e)
  | _ => none
theorem walkD_enum {K : Kx} {p : Addr} {as : List Dt} : Walk (Ite K p) (enumD as).length (fun H => RpL K H [.list as] [.ref p]) (YD K (enumD as)) := by
  have g : ∀ {H : Hp}, RpL K H [.list as] [.ref p] → ∃ xs, SqL K H p xs ∧ RpL K H as xs := fun {H} r => by
    obtain ⟨v, r', e, ⟨p', xs, e1, hq, hr⟩, _⟩ := r
    cases e; cases e1
    exact ⟨xs, hq.sq, hr⟩
  have hl : (enumD as).length = as.length := by simp [enumD, zipD, rangeD]
  refine ⟨fun i H hi q => ?_, fun H q => ?_, fun i H x H' hi q y => ?_⟩
  · obtain ⟨xs, h1, h2⟩ := g q
    rw [hl] at hi
    obtain ⟨v, g1, _⟩ := h2.get (List.getElem?_eq_getElem hi)
    exact ⟨xs, v, h1, g1⟩
  · obtain ⟨xs, h1, h2⟩ := g q
    refine ⟨xs, h1, ?_⟩
    rw [hl, h2.length]; omega
  · obtain ⟨xs, h1, h2⟩ := g q
    rw [hl] at hi
    obtain ⟨v, g1, r1⟩ := h2.get (List.getElem?_eq_getElem hi)
    obtain ⟨T, x1, rfl, hT, rfl, q1⟩ := y
    have e1 := q1 xs h1
    rw [g1] at e1; cases e1
    have hlt : i < (enumD as).length := by rw [hl]; omega
    refine ⟨.tuple [.int (i : Int), as[i]'(by omega)], ?_, rp_pair hT rfl r1⟩
    rw [List.getElem?_eq_getElem hlt]
    simp [enumD, zipD, rangeD]
theorem el_enum {f : AF} {p tpos : Pos} {kk : Nat} {elts : List Expr} (hm : X.mg "enumerate" = none) (hg : Gl X "enumerate") (ha : EA X [a] f) (hs : starEach [a] X.env = [(false, eval a X.env)] := by rfl) :
    EL X (.Tuple elts kk tpos) (.Call (.Name "enumerate" p) [a] [] pos) (itE f) := by
  obtain ⟨t, h1, h2⟩ := ha
  refine ⟨_, pi_enum hg hm h1 hs, RunsL.of fun O H0 H σ env τ ts ds env' R S hf k => ?_⟩
  unfold itE at hf
  split at hf
  · rename_i as e1 he
    cases hf
    refine runs_aD h2 S he fun vs H1 r S1 => ?_
    have r0 := r
    obtain ⟨v, r', rfl, ⟨p', xs, rfl, hq, hr⟩, e3⟩ := r
    cases e3
    exact ⟨p', xs, rfl, hq.sq, k (Ite X.kx p') H1 _ _ _ _ walkD_enum r0 S1 (fun H r => r) fun i d x H H'' hd r y => y.use hd⟩
  · cases hf

/-! ### comprehensions -/
variable {scope : Scope} {ol : List (Str × Nat)}
theorem pts_yes {K : Kx} : PTs X [] (cT K tYesF) := ⟨fun pins s σ H Q I q => by
  obtain ⟨O, H0, env, τ, ts, d, env', S, hf, k⟩ := q
  cases hf
  exact pts_nil.run pins s σ H Q I (k H S)⟩
theorem en_lc {it : NF} {g : GF} {f : EF} {gs : List Nat} (hc : X.calm = true) (hN : X.N.Nodup) (hi : EL X tg iter it) (ok : BlkOk X.N X.env.scope scope ol) (hgs : ∀ j ∈ gs, j ∈ ol.map (·.2))
    (hg : ∀ (s : Shared) (H : Hp) (C : Addr) (cl : List (Str × Addr)) (fp : List Addr), EG (X.blk s H scope (compEnvC scope cl C X.env) fp) tg gs g)
    (he : ∀ (s : Shared) (H : Hp) (C : Addr) (cl : List (Str × Addr)) (fp : List Addr), EI (X.blk s H scope (compEnvC scope cl C X.env) fp) elt f) (hs : ∀ x, foldedSetIterable iter X.env x = pure x := by intro _; rfl) :
    EN X (.ListComp elt [⟨tg, iter, [], 0⟩] scope pos) (nLc (ol.map (·.2)) it g tYesF f) := by
  obtain ⟨wi, h1, h2⟩ := hi
  exact ⟨_, pe_lc hc hN h1 ok (fun s H C cl fp => (hg s H C cl fp).can) (fun s H C cl fp => pts_yes) (fun s H C cl fp => (he s H C cl fp).can) hs, runs_lc h2 hgs⟩
theorem en_lcI {it : NF} {g : GF} {f : EF} {t : TF} {gs : List Nat} (hc : X.calm = true) (hN : X.N.Nodup) (hi : EL X tg iter it) (ok : BlkOk X.N X.env.scope scope ol) (hgs : ∀ j ∈ gs, j ∈ ol.map (·.2))
    (hg : ∀ (s : Shared) (H : Hp) (C : Addr) (cl : List (Str × Addr)) (fp : List Addr), EG (X.blk s H scope (compEnvC scope cl C X.env) fp) tg gs g)
    (ht : ∀ (s : Shared) (H : Hp) (C : Addr) (cl : List (Str × Addr)) (fp : List Addr), ET (X.blk s H scope (compEnvC scope cl C X.env) fp) c t)
    (he : ∀ (s : Shared) (H : Hp) (C : Addr) (cl : List (Str × Addr)) (fp : List Addr), EI (X.blk s H scope (compEnvC scope cl C X.env) fp) elt f) (hs : ∀ x, foldedSetIterable iter X.env x = pure x := by intro _; rfl) :
    EN X (.ListComp elt [⟨tg, iter, [c], 0⟩] scope pos) (nLc (ol.map (·.2)) it g t f) := by
  obtain ⟨wi, h1, h2⟩ := hi
  exact ⟨_, pe_lc hc hN h1 ok (fun s H C cl fp => (hg s H C cl fp).can) (fun s H C cl fp => pts_one (ht s H C cl fp).can) (fun s H C cl fp => (he s H C cl fp).can) hs, runs_lc h2 hgs⟩
theorem sx_setLc {i : Nat} {y : Str} {py spos : Pos} {it : NF} {g : GF} {f : EF} {gs : List Nat} (hc : X.calm = true) (hN : X.N.Nodup) (hi' : X.N[i]? = some y) (hy : X.env.scope.names.lookup y = some .local)
    (hsw : swapsWith (.ListComp elt [⟨tg, iter, [], 0⟩] scope pos) (some (.Name y py)) spos.line X.env = pure true) (hi : EL X tg iter it) (ok : BlkOk X.N X.env.scope scope ol) (hgs : ∀ j ∈ gs, j ∈ ol.map (·.2))
    (hg : ∀ (s : Shared) (H : Hp) (C : Addr) (cl : List (Str × Addr)) (fp : List Addr), EG (X.blk s H scope (compEnvC scope cl C X.env) fp) tg gs g)
    (he : ∀ (s : Shared) (H : Hp) (C : Addr) (cl : List (Str × Addr)) (fp : List Addr), EI (X.blk s H scope (compEnvC scope cl C X.env) fp) elt f) (hs : ∀ x, foldedSetIterable iter X.env x = pure x := by intro _; rfl) :
    SX X (.Assign [.Name y py] (.ListComp elt [⟨tg, iter, [], 0⟩] scope pos) spos) (sNew i (nLc (ol.map (·.2)) it g tYesF f)) := by
  obtain ⟨wi, h1, h2⟩ := hi
  exact ⟨_, ps_setLc hc hN hi' hy hsw h1 ok (fun s H C cl fp => (hg s H C cl fp).can) (fun s H C cl fp => pts_yes) (fun s H C cl fp => (he s H C cl fp).can) hs, runs_new (runs_lc h2 hgs)⟩
theorem sx_setLcI {i : Nat} {y : Str} {py spos : Pos} {it : NF} {g : GF} {f : EF} {t : TF} {gs : List Nat} (hc : X.calm = true) (hN : X.N.Nodup) (hi' : X.N[i]? = some y) (hy : X.env.scope.names.lookup y = some .local)
    (hsw : swapsWith (.ListComp elt [⟨tg, iter, [c], 0⟩] scope pos) (some (.Name y py)) spos.line X.env = pure true) (hi : EL X tg iter it) (ok : BlkOk X.N X.env.scope scope ol) (hgs : ∀ j ∈ gs, j ∈ ol.map (·.2))
    (hg : ∀ (s : Shared) (H : Hp) (C : Addr) (cl : List (Str × Addr)) (fp : List Addr), EG (X.blk s H scope (compEnvC scope cl C X.env) fp) tg gs g)
    (ht : ∀ (s : Shared) (H : Hp) (C : Addr) (cl : List (Str × Addr)) (fp : List Addr), ET (X.blk s H scope (compEnvC scope cl C X.env) fp) c t)
    (he : ∀ (s : Shared) (H : Hp) (C : Addr) (cl : List (Str × Addr)) (fp : List Addr), EI (X.blk s H scope (compEnvC scope cl C X.env) fp) elt f) (hs : ∀ x, foldedSetIterable iter X.env x = pure x := by intro _; rfl) :
    SX X (.Assign [.Name y py] (.ListComp elt [⟨tg, iter, [c], 0⟩] scope pos) spos) (sNew i (nLc (ol.map (·.2)) it g t f)) := by
  obtain ⟨wi, h1, h2⟩ := hi
  exact ⟨_, ps_setLc hc hN hi' hy hsw h1 ok (fun s H C cl fp => (hg s H C cl fp).can) (fun s H C cl fp => pts_one (ht s H C cl fp).can) (fun s H C cl fp => (he s H C cl fp).can) hs, runs_new (runs_lc h2 hgs)⟩

/-! ### an own list, by its slot -/
def owAt (env : Nv) (i : Nat) : Option (Bool × List Dt) := match env[i]? with
  | some (some (.ow io ds)) => some (io, ds)
  | _ => none
theorem owAt_eq {env : Nv} {i : Nat} {io : Bool} {ds : List Dt} (h : owAt env i = some (io, ds)) : env[i]? = some (some (.ow io ds)) := by
  unfold owAt at h
  split at h
  · rename_i io d he
    cases h
    exact he
  · cases h
theorem Sg.own {K : Kx} {O : Ow} {H0 H : Hp} {σ τ : L2.St} {env ts : Nv} (S : Sg K O H0 H σ env τ ts) {i : Nat} {io : Bool} {ds : List Dt} (h : owAt env i = some (io, ds)) : ∃ a xs, σ[i]? = some (some (.ref a)) ∧ H a = some (.lst xs) ∧ RpL K H ds xs := by
  obtain ⟨v, h1, a, xs, rfl, h3, h4⟩ := S.slotO (owAt_eq h)
  exact ⟨a, xs, h1, h3, h4⟩
def sApp (i : Nat) (f : EF) : SF := fun env => match owAt env i with
  | some _ => match f env with
    | some (d, e) => match owAt e i with
      | some (io, ds) => if ds.length < 10000000 then some (.nx (e.set i (some (.ow io (ds ++ [d]))))) else none
      | none => none
    | none => none
  | none => none
theorem sx_app {i : Nat} {x : Str} {f : EF} {p apos cpos spos : Pos} (hN : X.N[i]? = some x) (hv : Vis X.env.scope x) (h : EI X e f) (hd : (x == ("__debug__" : Str)) = false := by decide) (hcd : (x == ("__classdict__" : Str)) = false := by decide)
    (h1 : attributeBase (.Name x p) ("append" : Str) X.env (eval (.Name x p) X.env) = eval (.Name x p) X.env := by rfl)
    (h2 : (((((backTo cpos (starEach [e] X.env)).all fun x => !x.fst) && (backToKw cpos (keywordEach [] X.env)).all fun x => x.fst.isSome) && decide (([e].length + ([] : List Keyword).length + if ([] : List Keyword).isEmpty = true then 0 else 1) < 30)) = true) := by rfl)
    (h3 : (apos.endLine == cpos.line) = true := by rfl) (h4 : starEach [e] X.env = (false, eval e X.env) :: starEach [] X.env := by rfl) (h5 : ((backTo cpos (starEach [] X.env)).any fun x => x.fst) = false := by rfl)
    (h6 : swapsWith (.Call (.Attribute (.Name x p) ("append" : Str) apos) [e] [] cpos) none spos.line X.env = pure false := by rfl) :
    SX X (.Expr (.Call (.Attribute (.Name x p) ("append" : Str) apos) [e] [] cpos) spos) (sApp i f) := by
  obtain ⟨t, g1, g2⟩ := h
  refine ⟨_, ps_expr (pe_bm PySem.F.plainAttrs_list PySem.F.slot_list_append PySem.F.type_list_append mt_append (pe_var hN hv hd hcd) (pa_cons g1 pa_nil h4) h1 h2 h3 h4 h5) h6, fun O H0 H σ env τ ts out D S h k => ?_⟩
  unfold sApp at h
  split at h
  · rename_i p0 ho0
    split at h
    · rename_i d e1 he
      split at h
      · rename_i io ds ho
        split at h
        · rename_i hlen
          cases h
          obtain ⟨a0, xs0, hw, hH0, _⟩ := S.own (io := p0.1) (ds := p0.2) ho0
          refine ⟨.ref a0, hw, .inl ⟨rfl, xs0, .inl (.inl hH0)⟩, g2 O H0 H σ env τ ts d e1 _ S he fun v H1 S1 => ?_⟩
          obtain ⟨a, xs, hw1, hH1, hr1⟩ := S1.own ho
          rw [hw] at hw1; cases hw1
          refine ⟨a0, xs, v, rfl, rfl, hH1, Nat.lt_of_lt_of_le (by rw [hr1.length]; exact hlen) (by decide), k σ _ ?_⟩
          exact S1.pop.write (owAt_eq ho) hw (hr1.append (.one S1.rp))
        · cases h
      · cases h
    · cases h
  · cases h
/-- x[i] of an own list -/
def eIxO (i : Nat) (f : EF) : EF := fun env => match owAt env i with
  | some _ => match f env with
    | some (.int j, e) => match owAt e i with
      | some (io, ds) => match atI ds j with
        | some d => some (d, e)
        | none => none
      | none => none
    | _ => none
  | none => none
theorem RpL.atI {K : Kx} {H : Hp} {ds : List Dt} {xs : List V} {j : Int} {d : Dt} (r : RpL K H ds xs) (h : L2.atI ds j = some d) : ∃ v, L2.atI xs j = some v ∧ Rp K H d v := by
  unfold L2.atI at h ⊢
  rw [r.length]
  cases hx : ixN ds.length j with
  | none => rw [hx] at h; cases h
  | some m =>
    rw [hx] at h
    exact r.get h
theorem ei_ixO {i : Nat} {x : Str} {f : EF} {p : Pos} (hN : X.N[i]? = some x) (hv : Vis X.env.scope x) (h : EI X e f) (hs : PlainIx e) (hd : (x == ("__debug__" : Str)) = false := by decide) (hcd : (x == ("__classdict__" : Str)) = false := by decide) :
    EI X (.Subscript (.Name x p) e pos) (eIxO i f) := by
  obtain ⟨t, g1, g2⟩ := h
  refine ⟨_, pe_ix ix_list (pe_var hN hv hd hcd) g1 hs, fun O H0 H σ env τ ts d env' Q S h k => ?_⟩
  unfold eIxO at h
  split at h
  · rename_i p0 ho0
    split at h
    · rename_i j e1 he
      split at h
      · rename_i io ds ho
        split at h
        · rename_i d' ha
          cases h
          obtain ⟨a0, xs0, hw, hH0, _⟩ := S.own (io := p0.1) (ds := p0.2) ho0
          refine ⟨.ref a0, hw, g2 O H0 H σ env τ ts _ _ _ S he fun v H1 S1 => ?_⟩
          obtain ⟨a, xs, hw1, hH1, hr1⟩ := S1.own ho
          rw [hw] at hw1; cases hw1
          obtain ⟨u, h1, h2⟩ := hr1.atI ha
          exact ⟨a0, xs, j, u, rfl, S1.rp, .inl (.inl hH1), h1, k u H1 (S1.pop.push h2)⟩
        · cases h
      · cases h
    · cases h
  · cases h
/-- x[i] = e of an own list -/
def sSetI (i : Nat) (fi fv : EF) : SF := fun env => match fv env with
  | some (d, e1) => match owAt e1 i with
    | some _ => match fi e1 with
      | some (.int j, e2) => match owAt e2 i with
        | some (io, ds) => match ixN ds.length j with
          | some m => some (.nx (e2.set i (some (.ow io (ds.set m d)))))
          | none => none
        | none => none
      | _ => none
    | none => none
  | none => none
theorem sx_setI {i : Nat} {x : Str} {fi fv : EF} {p tpos : Pos} {v : Expr} (hN : X.N[i]? = some x) (hv : Vis X.env.scope x) (h : EI X e fi) (h' : EI X v fv) (hd : (x == ("__debug__" : Str)) = false := by decide) (hcd : (x == ("__classdict__" : Str)) = false := by decide)
    (ha : ∀ v, assign (.Subscript (.Name x p) e tpos) X.env v = (do
      let ov ← holding [v] (eval (.Name x p) X.env)
      let iv ← holding [v, ov] (eval e X.env)
      standAt tpos
      holding [v, ov, iv] (setItem ov iv v)
      release [v, ov, iv] []) := by intro _; rfl)
    (hs : swapsWithSole [.Subscript (.Name x p) e tpos] v pos.line X.env = pure false := by rfl) (hw : swappedStores [.Subscript (.Name x p) e tpos] v X.env = pure none := by rfl)
    (h1 : (assignEach [.Subscript (.Name x p) e tpos] X.env).map (·.2) = [assign (.Subscript (.Name x p) e tpos) X.env] := by rfl) : SX X (.Assign [.Subscript (.Name x p) e tpos] v pos) (sSetI i fi fv) := by
  obtain ⟨t, g1, g2⟩ := h
  obtain ⟨u, g3, g4⟩ := h'
  refine ⟨_, ps_asg g3 (pg_sub (pe_var hN hv hd hcd) g1 set_list ha) hs hw h1, fun O H0 H σ env τ ts out D S h k => ?_⟩
  unfold sSetI at h
  split at h
  · rename_i d e1 he
    split at h
    · rename_i p0 ho0
      split at h
      · rename_i j e2 he2
        split at h
        · rename_i io ds ho
          split at h
          · rename_i m hm
            cases h
            refine g4 O H0 H σ env τ ts d e1 _ S he fun v H1 S1 => ?_
            obtain ⟨a0, xs0, hw, hH0, _⟩ := S1.own (io := p0.1) (ds := p0.2) ho0
            refine ⟨.ref a0, hw, g2 O H0 H1 σ e1 _ _ _ _ _ S1 he2 fun vi H2 S2 => ?_⟩
            obtain ⟨a, xs, hw1, hH1, hr1⟩ := S2.own ho
            rw [hw] at hw1; cases hw1
            refine ⟨a0, xs, j, m, rfl, S2.rp, hH1, by rw [hr1.length]; exact hm, k σ _ ?_⟩
            have S3 := S2.pop
            exact S3.pop.write (owAt_eq ho) hw (hr1.set m S3.rp)
          · cases h
        · cases h
      · cases h
    · cases h
  · cases h
/-- x[i] op= e of an own list -/
theorem get_list : PGet X (rIxL X.kx) := by
  intro pins s σ H o i ov iv Q I ro ri h
  obtain ⟨p, xs, j, z, rfl, rfl, hq, he, q⟩ := h
  cases ro
  obtain ⟨t, rfl⟩ := ri
  obtain ⟨its, r, pl, hz⟩ := I.list hq
  obtain ⟨m, h1, h2, h3, h4, h5⟩ := atI_get he
  obtain ⟨w, ew, rw'⟩ := r.get h2
  have hl := r.length
  have hn : sizeLine < 2 ^ 63 := by decide
  have fin : EP X pins σ Q w s := ⟨z, H, I, rw', q⟩
  by_cases h0 : 0 ≤ j
  · have hj : j.toNat = m := by
      have : seqIndex? j xs.length = some j.toNat := by
        have := ixN_seq (n := xs.length) (i := j) (j := j.toNat) (by unfold ixN; rw [if_pos h0, if_pos h5])
        exact this.1
      rw [this] at h1
      exact Option.some.inj h1
    exact wpAny_getItem_list pl.isList h0 (by omega) (by rw [hj]; simpa using ew) fin
  · have hj : (j + (its.toArray.size : Int)).toNat = m := by
      have : seqIndex? j xs.length = some (j + (xs.length : Int)).toNat := by
        have := ixN_seq (n := xs.length) (i := j) (j := (j + (xs.length : Int)).toNat) (by unfold ixN; rw [if_neg h0, if_pos h4])
        exact this.1
      rw [this] at h1
      rw [List.size_toArray, ← hl]
      exact Option.some.inj h1
    exact wpAny_getItem_list_neg pl.isList (by omega) (by rw [List.size_toArray]; omega) (by omega) (by rw [hj]; simpa using ew) fin
def sAugI (g : Int → Int → Int) (i : Nat) (fi fv : EF) : SF := fun env => match owAt env i with
  | some _ => match fi env with
    | some (.int j, e1) => match owAt e1 i with
      | some (_, ds1) => match atI ds1 j with
        | some (.int x) => match fv e1 with
          | some (.int y, e2) => match owAt e2 i with
            | some (io, ds) => match ixN ds.length j with
              | some m => some (.nx (e2.set i (some (.ow io (ds.set m (.int (g x y)))))))
              | none => none
            | none => none
          | _ => none
        | _ => none
      | none => none
    | _ => none
  | none => none
theorem sx_augI {g : Int → Int → Int} {op : Operator} {i : Nat} {x : Str} {fi fv : EF} {p tpos : Pos} {v : Expr} (ho : PIp X op (ipI g)) (hN : X.N[i]? = some x) (hv : Vis X.env.scope x) (h : EI X e fi) (h' : EI X v fv) (hd : (x == ("__debug__" : Str)) = false := by decide) (hcd : (x == ("__classdict__" : Str)) = false := by decide)
    (ha : ∀ ov iv new, augStore e ov iv new = (do holding [new, ov, iv] (setItem ov iv new); release [new, ov, iv] []; pure .next) := by intros; rfl) : SX X (.AugAssign (.Subscript (.Name x p) e tpos) op v pos) (sAugI g i fi fv) := by
  obtain ⟨t, g1, g2⟩ := h
  obtain ⟨u, g3, g4⟩ := h'
  refine ⟨_, ps_augS (pe_var hN hv hd hcd) g1 get_list g3 ho set_list ha, fun O H0 H σ env τ ts out D S h k => ?_⟩
  unfold sAugI at h
  split at h
  · rename_i p0 ho0
    split at h
    · rename_i j e1 he1
      split at h
      · rename_i io1 ds1 ho1
        split at h
        · rename_i x1 hx1
          split at h
          · rename_i y1 e2 he2
            split at h
            · rename_i io ds ho2
              split at h
              · rename_i m hm
                cases h
                obtain ⟨a0, xs0, hw, hH0, _⟩ := S.own (io := p0.1) (ds := p0.2) ho0
                refine ⟨.ref a0, hw, g2 O H0 H σ env τ ts _ _ _ S he1 fun vi H1 S1 => ?_⟩
                obtain ⟨a, xs, hw1, hH1, hr1⟩ := S1.own ho1
                rw [hw] at hw1; cases hw1
                have rvi := S1.rp
                obtain ⟨u1, q1, q2⟩ := hr1.atI hx1
                refine ⟨a0, xs, j, u1, rfl, rvi, .inl (.inl hH1), q1, g4 O H0 H1 σ e1 _ _ _ _ _ S1 he2 fun vy H2 S2 => ?_⟩
                obtain ⟨a', xs2, hw2, hH2, hr2⟩ := S2.own ho2
                rw [hw] at hw2; cases hw2
                refine ⟨x1, y1, q2, S2.rp, a0, xs2, j, m, rfl, rvi, hH2, by rw [hr2.length]; exact hm, k σ _ ?_⟩
                exact S2.pop.pop.write (owAt_eq ho2) hw (hr2.set m rfl)
              · cases h
            · cases h
          · cases h
        · cases h
      · cases h
    · cases h
  · cases h
/-- x.extend(a new list) -/
def sExt (i : Nat) (f : NF) : SF := fun env => match owAt env i with
  | some _ => match f env with
    | some (zs, e) => match owAt e i with
      | some (io, ds) => if ds.length + zs.length ≤ 10000000 then some (.nx (e.set i (some (.ow io (ds ++ zs))))) else none
      | none => none
    | none => none
  | none => none
theorem sx_ext {i : Nat} {x : Str} {f : NF} {p apos cpos spos : Pos} (hN : X.N[i]? = some x) (hv : Vis X.env.scope x) (h : EN X e f) (hd : (x == ("__debug__" : Str)) = false := by decide) (hcd : (x == ("__classdict__" : Str)) = false := by decide)
    (h1 : attributeBase (.Name x p) ("extend" : Str) X.env (eval (.Name x p) X.env) = eval (.Name x p) X.env := by rfl)
    (h2 : (((((backTo cpos (starEach [e] X.env)).all fun x => !x.fst) && (backToKw cpos (keywordEach [] X.env)).all fun x => x.fst.isSome) && decide (([e].length + ([] : List Keyword).length + if ([] : List Keyword).isEmpty = true then 0 else 1) < 30)) = true) := by rfl)
    (h3 : (apos.endLine == cpos.line) = true := by rfl) (h4 : starEach [e] X.env = (false, eval e X.env) :: starEach [] X.env := by rfl) (h5 : ((backTo cpos (starEach [] X.env)).any fun x => x.fst) = false := by rfl)
    (h6 : swapsWith (.Call (.Attribute (.Name x p) ("extend" : Str) apos) [e] [] cpos) none spos.line X.env = pure false := by rfl) :
    SX X (.Expr (.Call (.Attribute (.Name x p) ("extend" : Str) apos) [e] [] cpos) spos) (sExt i f) := by
  obtain ⟨t, g1, g2⟩ := h
  refine ⟨_, ps_expr (pe_bm PySem.F.plainAttrs_list PySem.F.slot_list_extend PySem.F.type_list_extend mt_extend (pe_var hN hv hd hcd) (pa_cons g1 pa_nil h4) h1 h2 h3 h4 h5) h6, fun O H0 H σ env τ ts out D S h k => ?_⟩
  unfold sExt at h
  split at h
  · rename_i p0 ho0
    split at h
    · rename_i zs e1 he
      split at h
      · rename_i io ds ho
        split at h
        · rename_i hlen
          cases h
          obtain ⟨a0, xs0, hw, hH0, _⟩ := S.own (io := p0.1) (ds := p0.2) ho0
          refine ⟨.ref a0, hw, .inl ⟨rfl, xs0, .inl (.inl hH0)⟩, g2 O H0 H σ env τ ts zs e1 _ S he fun v H1 S1 => ?_⟩
          obtain ⟨a, xs, hw1, hH1, hr1⟩ := S1.own ho
          rw [hw] at hw1; cases hw1
          obtain ⟨bb, ys, rfl, hHb, hrb⟩ := S1.topO
          refine ⟨a0, bb, xs, ys, rfl, rfl, hH1, hHb, Nat.le_trans (by rw [hr1.length, hrb.length]; exact hlen) (by decide), k σ _ ?_⟩
          exact S1.pop.write (owAt_eq ho) hw (hr1.append hrb)
        · cases h
      · cases h
    · cases h
  · cases h
/-- x.pop() as a value -/
def ePop (i : Nat) : EF := fun env => match owAt env i with
  | some (io, ds) => match ds.getLast? with
    | some d => some (d, env.set i (some (.ow io ds.dropLast)))
    | none => none
  | none => none
theorem RpL.dropLast {K : Kx} {H : Hp} {ds : List Dt} {xs : List V} (r : RpL K H ds xs) : RpL K H ds.dropLast xs.dropLast := by
  rw [List.dropLast_eq_take, List.dropLast_eq_take, r.length]
  exact r.take _
theorem ei_pop {i : Nat} {x : Str} {p apos cpos : Pos} (hN : X.N[i]? = some x) (hv : Vis X.env.scope x) (hd : (x == ("__debug__" : Str)) = false := by decide) (hcd : (x == ("__classdict__" : Str)) = false := by decide)
    (h1 : attributeBase (.Name x p) ("pop" : Str) X.env (eval (.Name x p) X.env) = eval (.Name x p) X.env := by rfl) (h3 : (apos.endLine == cpos.line) = true := by rfl) :
    EI X (.Call (.Attribute (.Name x p) ("pop" : Str) apos) [] [] cpos) (ePop i) := by
  refine ⟨_, pe_bm0 PySem.F.plainAttrs_list PySem.F.slot_list_pop PySem.F.type_list_pop mt_pop (pe_var hN hv hd hcd) h1 h3, fun O H0 H σ env τ ts d env' Q S h k => ?_⟩
  unfold ePop at h
  split at h
  · rename_i io ds ho
    split at h
    · rename_i d' hl
      cases h
      obtain ⟨a, xs, hw, hH, hr⟩ := S.own ho
      rw [List.getLast?_eq_getElem?] at hl
      obtain ⟨v, q1, q2⟩ := hr.get hl
      refine ⟨.ref a, hw, .inl ⟨rfl, xs, .inl (.inl hH)⟩, a, xs, v, rfl, rfl, hH, by rw [hr.length]; exact q1, k v _ ?_⟩
      exact (S.write (owAt_eq ho) hw hr.dropLast).push (Rp.kp (.lst hH) _ _ q2)
    · cases h
  · cases h
/-- x.pop(0) -/
def ePopAt (i : Nat) (f : EF) : EF := fun env => match owAt env i with
  | some _ => match f env with
    | some (.int j, e1) => match owAt e1 i with
      | some (io, ds) => match (if -(2 ^ 63) ≤ j ∧ j < 2 ^ 63 then seqIndex? j ds.length else none) with
        | some m => match ds[m]? with
          | some d => some (d, e1.set i (some (.ow io (ds.eraseIdx m))))
          | none => none
        | none => none
      | none => none
    | _ => none
  | none => none
theorem ei_popAt {i : Nat} {x : Str} {f : EF} {p apos cpos : Pos} (hN : X.N[i]? = some x) (hv : Vis X.env.scope x) (h : EI X e f) (hd : (x == ("__debug__" : Str)) = false := by decide) (hcd : (x == ("__classdict__" : Str)) = false := by decide)
    (h1 : attributeBase (.Name x p) ("pop" : Str) X.env (eval (.Name x p) X.env) = eval (.Name x p) X.env := by rfl)
    (h2 : (((((backTo cpos (starEach [e] X.env)).all fun x => !x.fst) && (backToKw cpos (keywordEach [] X.env)).all fun x => x.fst.isSome) && decide (([e].length + ([] : List Keyword).length + if ([] : List Keyword).isEmpty = true then 0 else 1) < 30)) = true) := by rfl)
    (h3 : (apos.endLine == cpos.line) = true := by rfl) (h4 : starEach [e] X.env = (false, eval e X.env) :: starEach [] X.env := by rfl) (h5 : ((backTo cpos (starEach [] X.env)).any fun x => x.fst) = false := by rfl) :
    EI X (.Call (.Attribute (.Name x p) ("pop" : Str) apos) [e] [] cpos) (ePopAt i f) := by
  obtain ⟨t, g1, g2⟩ := h
  refine ⟨_, pe_bm PySem.F.plainAttrs_list PySem.F.slot_list_pop PySem.F.type_list_pop mt_popAt (pe_var hN hv hd hcd) (pa_cons g1 pa_nil h4) h1 h2 h3 h4 h5, fun O H0 H σ env τ ts d env' Q S h k => ?_⟩
  unfold ePopAt at h
  split at h
  · rename_i p0 ho0
    split at h
    · rename_i j e1 he
      split at h
      · rename_i io ds ho
        split at h
        · rename_i m hm
          split at h
          · rename_i d' hd'
            cases h
            split at hm
            · rename_i hb
              obtain ⟨a0, xs0, hw, hH0, _⟩ := S.own (io := p0.1) (ds := p0.2) ho0
              refine ⟨.ref a0, hw, .inl ⟨rfl, xs0, .inl (.inl hH0)⟩, g2 O H0 H σ env τ ts _ _ _ S he fun v H1 S1 => ?_⟩
              obtain ⟨a, xs, hw1, hH1, hr1⟩ := S1.own ho
              rw [hw] at hw1; cases hw1
              obtain ⟨u, q1, q2⟩ := hr1.get hd'
              have rv := S1.rp
              cases rv
              refine ⟨a0, xs, j, m, u, rfl, rfl, hH1, hb.1, hb.2, by rw [hr1.length]; exact hm, q1, k u _ ?_⟩
              exact (S1.pop.write (owAt_eq ho) hw (hr1.eraseIdx m)).push (Rp.kp (.lst hH1) _ _ q2)
            · cases hm
          · cases h
        · cases h
      · cases h
    · cases h
  · cases h
/-- len(x) -/
def eLenO (i : Nat) : EF := fun env => match owAt env i with
  | some (io, ds) => some (.int (ds.length : Int), env)
  | none => none
theorem ei_lenO {i : Nat} {x : Str} {p p2 : Pos} (hN : X.N[i]? = some x) (hv : Vis X.env.scope x) (hm : X.mg "len" = none) (hg : Gl X "len") (hd : (x == ("__debug__" : Str)) = false := by decide) (hcd : (x == ("__classdict__" : Str)) = false := by decide)
    (hs : starEach [.Name x p] X.env = (false, eval (.Name x p) X.env) :: starEach [] X.env := by rfl) (hst : ((backTo pos (starEach [] X.env)).any (·.1)) = false := by rfl) :
    EI X (.Call (.Name "len" p2) [.Name x p] [] pos) (eLenO i) := by
  refine ⟨_, pe_callB call_len_seq hg hm PySem.boot_len (pa_cons (pe_var hN hv hd hcd) pa_nil hs) (by decide) (by decide) hs hst, fun O H0 H σ env τ ts d env' Q S h k => ?_⟩
  unfold eLenO at h
  split at h
  · rename_i io ds ho
    cases h
    obtain ⟨a, xs, hw, hH, hr⟩ := S.own ho
    refine ⟨.ref a, hw, a, xs, rfl, .inl (.inl (.inl hH)), ?_⟩
    rw [hr.length]
    exact k _ H (S.push rfl)
  · cases h

/-! ### defs -/
structure Has (K : PySem.W.Frag) (mg : Str → Option Value) (x : Str) (st : Stmt) (ps : List Str) : Prop where
  ex : ∃ (f : Addr) (fd : FuncData), Fun K x x st f fd ∧ Binds K fd ps [] ∧ mg x = some (.ref f)
def startD (ds : List Dt) (n : Nat) : Nv := ds.map (fun d => some (.im d)) ++ List.replicate n none
def retD (o : Option Out) : Option Dt := match o with
  | some (.rt d _) => some d
  | some (.nx _) => some .none
  | _ => none
def fnP (m n : Nat) (b : SF) : List Dt → Option Dt := fun ds => if ds.length = m then retD (b (startD ds n)) else none
theorem sto_start {K : Kx} {H : Hp} {O : Ow} (hO : ∀ a, O a → H a ≠ none) : ∀ {ds : List Dt} {vs : List V} (n : Nat), RpL K H ds vs → Sg K O H H (vs.map some ++ List.replicate n none) (startD ds n) [] [] := by
  intro ds vs n r
  have gE : ∀ {i : Nat} {s : Sl}, (startD ds n ++ [])[i]? = some (some s) → ∃ d, ds[i]? = some d ∧ s = .im d := fun {i s} h => by
    rw [List.append_nil] at h
    unfold startD at h
    by_cases hi : i < (ds.map fun d => some (Sl.im d)).length
    · rw [List.getElem?_append_left hi, List.getElem?_map] at h
      cases hd : ds[i]? with
      | none => rw [hd] at h; cases h
      | some d =>
        rw [hd] at h
        cases h
        exact ⟨d, rfl, rfl⟩
    · rw [List.getElem?_append_right (by omega)] at h
      rw [List.getElem?_replicate] at h
      split at h <;> cases h
  have hl := r.length
  refine ⟨⟨by simp [startD, hl], ⟨fun _ => [], fun i s h => ?_, fun i s h b hb => (nomatch hb), fun i j s t _ _ _ b hb => (nomatch hb)⟩, fun i s a h o _ => ?_, fun a u h _ => h, hO⟩, by simp [startD, hl]⟩
  · obtain ⟨d, h1, rfl⟩ := gE h
    obtain ⟨v, h2, h3⟩ := r.get h1
    refine ⟨v, ?_, h3, rfl⟩
    rw [List.append_nil, List.getElem?_append_left (by simpa using (List.getElem?_eq_some_iff.mp h2).1), List.getElem?_map, h2]
    rfl
  · obtain ⟨d, h1, rfl⟩ := gE h
    cases o
theorem good_fn {P : Program} {w : World} {K : PySem.W.Frag} {mg : Str → Option Value} {base : Heap} {x : Str} {st : Stmt} {N ps : List Str} {k m n : Nat} {g : SF} (h : Has K mg x st ps) (S : FnScope N ps (defScope st)) (hm : ps.length = m) (hn : N.length = m + n)
    (B : ∀ (f : Addr) (cdv : Value) (A : Around) (outer : List Env) (s : Shared) (H : Hp) (E : XK), Room k (A.deeper (PyProof.Rows.envOfC x (defScope st) s.heap.objs.size f cdv)) →
      SXs (cxOf CX0 P w K mg base N x (defScope st) f cdv A outer s H E).nox (defBody st) g) : Good P w K mg base (k + 1) x ps (SpP ⟨K, w⟩ (fnP m n g)) := by
  obtain ⟨f, fd, F, Bd, M⟩ := h.ex
  refine ⟨⟨f, fd, F.ok S (fun vs H Q E h => ?_) (fun cdv A outer s H vs Q E hr h => ?_), Bd, M, F.kp⟩⟩
  · obtain ⟨ds, d, r, hf, _⟩ := h
    unfold fnP at hf
    split at hf
    · rename_i hl
      rw [r.length, hl, hm]
    · cases hf
  · obtain ⟨ds, d, r, hf, q⟩ := h
    unfold fnP at hf
    split at hf
    · rename_i hl
      obtain ⟨t, h1, h2⟩ := B f cdv A outer s H E hr
      refine ⟨t, h1, ?_⟩
      have hv : vs.length = m := by rw [r.length, hl]
      have e1 : L2.start N vs = vs.map some ++ List.replicate n none := by
        unfold L2.start
        rw [hn, hv, show m + n - m = n by omega]
      rw [e1]
      have S0 := sto_start (O := Ow.nil) (fun _ z => z.elim) n r
      unfold retD at hf
      split at hf
      · rename_i d' e' ho
        cases hf
        exact h2 _ _ _ _ _ _ _ _ _ S0 ho fun v σ H' S' => q v H' (fun a u ha => S'.st.frame a u ha id) S'.rp
      · rename_i e' ho
        cases hf
        exact h2 _ _ _ _ _ _ _ _ _ S0 ho fun σ H' S' => q .non H' (fun a u ha => S'.st.frame a u ha id) rfl
      · cases hf
    · cases hf

/-! ### defs that write the list that is their second argument -/
def SpT (K : Kx) (f : List Dt → List Dt → Option (Dt × List Dt)) : Sp := fun vs H Q _ => ∃ v0 p rest xs ds town d town', vs = v0 :: .ref p :: rest ∧ H p = some (.lst xs) ∧ RpL K H town xs ∧ RpL K H ds (v0 :: rest) ∧ f ds town = some (d, town') ∧
  ∀ v H' xs', (∀ a u, H a = some u → a ≠ p → H' a = some u) → H' p = some (.lst xs') → RpL K H' town' xs' → Rp K H' d v → Q v H'
def startT (ds town : List Dt) (n : Nat) : Nv := match ds with
  | d0 :: r => some (.im d0) :: some (.ow true town) :: (r.map (fun d => some (.im d)) ++ List.replicate n none)
  | [] => []
def retT (o : Option Out) : Option (Dt × List Dt) := match o with
  | some (.rt d e) => match owAt e 1 with
    | some (true, t) => some (d, t)
    | _ => none
  | some (.nx e) => match owAt e 1 with
    | some (true, t) => some (.none, t)
    | _ => none
  | _ => none
def fnT (m n : Nat) (b : SF) : List Dt → List Dt → Option (Dt × List Dt) := fun ds town => if ds.length + 1 = m then retT (b (startT ds town n)) else none
theorem sgT_start {K : Kx} {H : Hp} {p : Addr} {xs : List V} {v0 : V} {rest : List V} {d0 : Dt} {dr town : List Dt} (n : Nat) (hp : H p = some (.lst xs)) (rt : RpL K H town xs) (r : RpL K H (d0 :: dr) (v0 :: rest)) :
    Sg K (Ow.one p) H H (some v0 :: some (.ref p) :: (rest.map some ++ List.replicate n none)) (startT (d0 :: dr) town n) [] [] := by
  obtain ⟨v0', rest', e, r0, rr⟩ := r
  cases e
  have S1 := sto_start (K := K) (H := H) (O := Ow.one p) (fun a ha => by cases ha; rw [hp]; exact fun z => nomatch z) n rr
  have gE : ∀ {i : Nat} {s : Sl}, (startT (d0 :: dr) town n ++ [])[i]? = some (some s) → (i = 0 ∧ s = .im d0) ∨ (i = 1 ∧ s = .ow true town) ∨ ∃ j d, i = j + 2 ∧ (startD dr n ++ [])[j]? = some (some s) ∧ s = .im d := fun {i s} h => by
    match i, h with
    | 0, h => left; cases h; exact ⟨rfl, rfl⟩
    | 1, h => right; left; cases h; exact ⟨rfl, rfl⟩
    | j + 2, h =>
      right; right
      have h' : (startD dr n)[j]? = some (some s) := by simpa [startT, startD] using h
      have h0 := h'
      unfold startD at h'
      by_cases hi : j < (dr.map fun d => some (Sl.im d)).length
      · rw [List.getElem?_append_left hi, List.getElem?_map] at h'
        cases hd : dr[j]? with
        | none => rw [hd] at h'; cases h'
        | some d =>
          rw [hd] at h'
          cases h'
          exact ⟨j, d, rfl, by rw [List.append_nil]; exact h0, rfl⟩
      · rw [List.getElem?_append_right (by omega), List.getElem?_replicate] at h'
        split at h' <;> cases h'
  have le := S1.le
  refine ⟨⟨?_, ⟨fun i => if i = 1 then [p] else [], fun i s h => ?_, fun i s h b hb => ?_, fun i j s t ne h h' b hb hb' => ?_⟩, fun i s a h o hw => ?_, fun a u h _ => h, fun a ha => by cases ha; rw [hp]; exact fun z => nomatch z⟩, ?_⟩
  · have := S1.st.len
    simp [startT, startD] at this ⊢
    omega
  · rcases gE h with ⟨rfl, rfl⟩ | ⟨rfl, rfl⟩ | ⟨j, d, rfl, h, rfl⟩
    · exact ⟨v0, rfl, r0, rfl⟩
    · exact ⟨.ref p, rfl, p, xs, rfl, rfl, hp, rt⟩
    · obtain ⟨v, h1, fp, h2, _⟩ := S1.st.ok j _ h
      exact ⟨v, h1, h2, by rw [if_neg (by omega)]⟩
  · by_cases e : i = 1
    · subst e
      rw [if_pos rfl] at hb
      cases List.mem_singleton.mp hb
      exact .inl rfl
    · rw [if_neg e] at hb; cases hb
  · by_cases e : i = 1
    · by_cases e' : j = 1
      · exact ne (e.trans e'.symm)
      · rw [if_neg e'] at hb'; cases hb'
    · rw [if_neg e] at hb; cases hb
  · rcases gE h with ⟨rfl, rfl⟩ | ⟨rfl, rfl⟩ | ⟨j, d, rfl, h, rfl⟩
    · cases o
    · cases hw; rfl
    · cases o
  · simp [startT, startD] at le ⊢
    exact le
theorem good_fnT {P : Program} {w : World} {K : PySem.W.Frag} {mg : Str → Option Value} {base : Heap} {x : Str} {st : Stmt} {N ps : List Str} {k m n : Nat} {g : SF} (h : Has K mg x st ps) (S : FnScope N ps (defScope st)) (hm : ps.length = m) (hn : N.length = m + n)
    (B : ∀ (f : Addr) (cdv : Value) (A : Around) (outer : List Env) (s : Shared) (H : Hp) (E : XK), Room k (A.deeper (PyProof.Rows.envOfC x (defScope st) s.heap.objs.size f cdv)) →
      SXs (cxOf CX0 P w K mg base N x (defScope st) f cdv A outer s H E).nox (defBody st) g) : Good P w K mg base (k + 1) x ps (SpT ⟨K, w⟩ (fnT m n g)) := by
  obtain ⟨f, fd, F, Bd, M⟩ := h.ex
  refine ⟨⟨f, fd, F.ok S (fun vs H Q E h => ?_) (fun cdv A outer s H vs Q E hr h => ?_), Bd, M, F.kp⟩⟩
  · obtain ⟨v0, p, rest, xs, ds, town, d, town', rfl, hp, rt, r, hf, _⟩ := h
    unfold fnT at hf
    split at hf
    · rename_i hl
      have := r.length
      simp at this ⊢
      omega
    · cases hf
  · obtain ⟨v0, p, rest, xs, ds, town, d, town', rfl, hp, rt, r, hf, q⟩ := h
    unfold fnT at hf
    split at hf
    · rename_i hl
      obtain ⟨t, h1, h2⟩ := B f cdv A outer s H E hr
      refine ⟨t, h1, ?_⟩
      have hv := r.length
      simp at hv
      obtain ⟨d0, dr, rfl⟩ : ∃ d0 dr, ds = d0 :: dr := by
        cases ds with
        | nil => simp at hv
        | cons a b => exact ⟨a, b, rfl⟩
      have e1 : L2.start N (v0 :: .ref p :: rest) = some v0 :: some (.ref p) :: (rest.map some ++ List.replicate n none) := by
        unfold L2.start
        simp at hl hv ⊢
        rw [hn, show m + n - (rest.length + 1 + 1) = n by omega]
      rw [e1]
      have S0 := sgT_start n hp rt r
      unfold retT at hf
      split at hf
      · rename_i d' e' ho
        split at hf
        · rename_i t' ht'
          cases hf
          refine h2 _ _ _ _ _ _ _ _ _ S0 ho fun v σ H' S' => ?_
          obtain ⟨a, ys, g1, g2, g3⟩ := S'.own ht'
          have ea : a = p := by
            exact S'.st.root 1 _ a (get_left (owAt_eq ht')) rfl (get_left g1)
          subst ea
          exact q v H' ys (fun b u hb nb => S'.st.frame b u hb nb) g2 g3 S'.rp
        · cases hf
      · rename_i e' ho
        split at hf
        · rename_i t' ht'
          cases hf
          refine h2 _ _ _ _ _ _ _ _ _ S0 ho fun σ H' S' => ?_
          obtain ⟨a, ys, g1, g2, g3⟩ := S'.own ht'
          have ea : a = p := by
            exact S'.st.root 1 _ a (get_left (owAt_eq ht')) rfl (get_left g1)
          subst ea
          exact q .non H' ys (fun b u hb nb => S'.st.frame b u hb nb) g2 g3 rfl
        · cases hf
      · cases hf
    · cases hf
end
/-- a call has written the own list in slot i -/
theorem Sto.called {K : Kx} {O : Ow} {H0 H H' : Hp} {W : L2.St} {E : Nv} (S : Sto K O H0 H W E) {i : Nat} {a : Addr} {io : Bool} {ds ds' : List Dt} {ys : List V} (hi : E[i]? = some (some (.ow io ds))) (hw : W[i]? = some (some (.ref a)))
    (hk : ∀ b u, H b = some u → b ≠ a → H' b = some u) (hy : H' a = some (.lst ys)) (r : RpL K H' ds' ys) : Sto K O H0 H' W (E.set i (some (.ow io ds'))) := by
  obtain ⟨v, h1, fp, a', xs, rfl, _, h3, h4⟩ := S.ok i _ hi
  rw [hw] at h1; cases h1
  have k : Kp H H' := ⟨fun b ys e => hk b _ e (ne_of e h3 (fun z => nomatch z)), fun b ob u e => hk b _ e (ne_of e h3 (fun z => nomatch z))⟩
  refine S.step hi hw k (fun b hb => ?_) (fun fp h => ?_) id
  · by_cases e : b = a
    · subst e; rw [hy]; exact fun z => nomatch z
    · cases q : H b with
      | none => exact absurd q hb
      | some u => rw [hk b u q e]; exact fun z => nomatch z
  · obtain ⟨a2, xs2, e, rfl, _⟩ := h
    cases e
    exact ⟨fun b u hb q => hk b u q (fun z => hb (by simp [z])), [a], ⟨a, ys, rfl, rfl, hy, r⟩, fun b hb => .inl hb⟩
theorem Sg.called {K : Kx} {O : Ow} {H0 H H' : Hp} {σ τ : L2.St} {env ts : Nv} (S : Sg K O H0 H σ env τ ts) {i : Nat} {a : Addr} {io : Bool} {ds ds' : List Dt} {ys : List V} (hi : env[i]? = some (some (.ow io ds))) (hw : σ[i]? = some (some (.ref a)))
    (hk : ∀ b u, H b = some u → b ≠ a → H' b = some u) (hy : H' a = some (.lst ys)) (r : RpL K H' ds' ys) : Sg K O H0 H' σ (env.set i (some (.ow io ds'))) τ ts := by
  have h := S.st.called (get_left hi) (get_left hw) hk hy r
  rw [List.set_append_left _ _ (List.getElem?_eq_some_iff.mp hi).1] at h
  exact ⟨h, by simpa using S.le⟩
section
variable {X : Cx} {e a b c : Expr} {es : List Expr} {pos : Pos}
/-- f(e, town, ..): the list in slot i is written by f -/
def eCallT (i : Nat) (g : List Dt → List Dt → Option (Dt × List Dt)) (f0 : EF) (f : AF) : EF := fun env => match f0 env with
  | some (d0, e1) => match owAt e1 i with
    | some _ => match aD f e1 with
      | some (ds, e2) => match owAt e2 i with
        | some (io, t) => match g (d0 :: ds) t with
          | some (d, t') => some (d, e2.set i (some (.ow io t')))
          | none => none
        | none => none
      | none => none
    | none => none
  | none => none
theorem ei_callT {k i : Nat} {x y : Str} {ps : List Str} {g : List Dt → List Dt → Option (Dt × List Dt)} {f0 : EF} {f : AF} {p q : Pos} (G : Good X.prog X.w X.K X.mg X.base k x ps (SpT X.kx g)) (hr : Room k X.A) (hg : Gl X x) (h0 : EI X e f0) (hN : X.N[i]? = some y) (hv : Vis X.env.scope y) (ha : EA X es f)
    (hd' : (y == ("__debug__" : Str)) = false := by decide) (hcd : (y == ("__classdict__" : Str)) = false := by decide) (hd : (x == ("__debug__" : Str)) = false := by decide)
    (hs : starEach (e :: .Name y q :: es) X.env = (false, eval e X.env) :: starEach (.Name y q :: es) X.env := by rfl) (hs' : starEach (.Name y q :: es) X.env = (false, eval (.Name y q) X.env) :: starEach es X.env := by rfl)
    (hst : ((backTo pos (starEach (.Name y q :: es) X.env)).any (·.1)) = false := by rfl) : EI X (.Call (.Name x p) (e :: .Name y q :: es) [] pos) (eCallT i g f0 f) := by
  obtain ⟨fa, fd, F, B, M, kp⟩ := G.ex
  obtain ⟨_, h1, h2⟩ := h0
  obtain ⟨_, h3, h4⟩ := ha
  refine ⟨_, pe_call F hr hg M kp B .nil pass0 (pa_cons h1 (pa_cons (pe_var hN hv hd' hcd) h3 hs') hs) hd hs hst, fun O H0 H σ env τ ts d env' Q S h k => ?_⟩
  unfold eCallT at h
  split at h
  · rename_i d0 e1 he
    split at h
    · rename_i p1 ho1
      split at h
      · rename_i ds e2 he2
        split at h
        · rename_i io t ho2
          split at h
          · rename_i d' t' hg'
            cases h
            refine h2 O H0 H σ env τ ts d0 e1 _ S he fun v0 H1 S1 => ?_
            obtain ⟨a1, xs1, hw, _, _⟩ := S1.own (io := p1.1) (ds := p1.2) ho1
            refine ⟨.ref a1, hw, runs_aD h4 S1 he2 fun vs H2 r S2 => ?_⟩
            obtain ⟨a2, xs2, hw2, hH2, hr2⟩ := S2.own ho2
            rw [hw] at hw2; cases hw2
            refine ⟨v0, a1, vs, xs2, d0 :: ds, t, d, t', by simp, hH2, hr2, ⟨v0, vs, rfl, S2.rp, r⟩, hg', fun v H' xs' hk hy hr' hv' => k v H' ?_⟩
            exact (S2.pop.called (owAt_eq ho2) hw hk hy hr').push hv'
          · cases h
        · cases h
      · cases h
    · cases h
  · cases h
end
/-! ### data as the library reads it -/
mutual
theorem dp_of {K : Kx} {H : Hp} : ∀ (d : Dt) (v : V), d.plain = true → Rp K H d v → Dp K H v d
  | .none, _, _, h => by cases h; exact .non
  | .bool b, _, _, h => by cases h; exact .bl b
  | .int i, _, _, h => by cases h; exact .int i
  | .str x, _, _, h => by cases h; exact .str x
  | .list ds, _, p, h => by
    obtain ⟨a, xs, rfl, f, r⟩ := h
    exact .lst f.sq (dpAll_of ds xs (by simpa only [PyData.plain] using p) r)
  | .tuple ds, _, p, h => by
    obtain ⟨a, xs, rfl, f, r⟩ := h
    exact .tup f (dpAll_of ds xs (by simpa only [PyData.plain] using p) r)
  | .dict _, _, p, h => by simp only [PyData.plain] at p; cases p
theorem dpAll_of {K : Kx} {H : Hp} : ∀ (ds : List Dt) (xs : List V), PyData.plainAll ds = true → RpL K H ds xs → DpAll K H xs ds
  | [], _, _, h => by cases h; exact .nil
  | d :: ds, _, p, h => by
    obtain ⟨v, r, rfl, h1, h2⟩ := h
    simp only [PyData.plainAll, Bool.and_eq_true] at p
    exact .cons (dp_of d v p.1 h1) (dpAll_of ds r p.2 h2)
end
section
variable {X : Cx} {pins : List (Addr × Obj)} {σ : L2.St} {H : Hp} {s : Shared}
theorem rp_reads (I : L2.Inv X pins σ H s) {d : Dt} {v : V} {u : Value} (p : d.plain = true) (h : Rp X.kx H d v) (r : RelV v u) : ∃ as, Reads s.heap u d as := Dp.reads I d v u (dp_of d v p h) r
theorem rpl_reads (I : L2.Inv X pins σ H s) {ds : List Dt} {vs : List V} {us : List Value} (p : PyData.plainAll ds = true) (h : RpL X.kx H ds vs) (r : Vals vs us) : ∃ as, ReadsAll s.heap us ds as := Dp.readsAll I ds vs us (dpAll_of ds vs p h) r
end

mutual
def okD : Nat → Dt → Bool
  | _, .none => true
  | _, .bool _ => true
  | _, .int _ => true
  | _, .str _ => true
  | k, .list ds => match k with
    | 0 => false
    | k + 1 => okL k ds
  | k, .tuple ds => match k with
    | 0 => false
    | k + 1 => okL k ds
  | _, .dict _ => false
def okL : Nat → List Dt → Bool
  | _, [] => true
  | k, d :: ds => okD k d && okL k ds
end
mutual
theorem okD_plain : ∀ (d : Dt) (k : Nat), okD k d = true → d.plain = true ∧ d.depth ≤ k
  | .none, k, h => ⟨rfl, Nat.zero_le _⟩
  | .bool _, k, h => ⟨rfl, Nat.zero_le _⟩
  | .int _, k, h => ⟨rfl, Nat.zero_le _⟩
  | .str _, k, h => ⟨rfl, Nat.zero_le _⟩
  | .list ds, 0, h => by simp [okD] at h
  | .list ds, k + 1, h => by
    have h' : okL k ds = true := by simpa [okD] using h
    obtain ⟨h1, h2⟩ := okL_plain ds k h'
    exact ⟨by simpa [PyData.plain] using h1, by simp [PyData.depth]; exact h2⟩
  | .tuple ds, 0, h => by simp [okD] at h
  | .tuple ds, k + 1, h => by
    have h' : okL k ds = true := by simpa [okD] using h
    obtain ⟨h1, h2⟩ := okL_plain ds k h'
    exact ⟨by simpa [PyData.plain] using h1, by simp [PyData.depth]; exact h2⟩
  | .dict _, k, h => by simp [okD] at h
theorem okL_plain : ∀ (ds : List Dt) (k : Nat), okL k ds = true → PyData.plainAll ds = true ∧ PyData.depthAll ds ≤ k
  | [], k, h => ⟨rfl, Nat.zero_le _⟩
  | d :: ds, k, h => by
    have h' : okD k d = true ∧ okL k ds = true := by simpa [okL] using h
    obtain ⟨h1, h2⟩ := okD_plain d k h'.1
    obtain ⟨h3, h4⟩ := okL_plain ds k h'.2
    exact ⟨by simp [PyData.plainAll, h1, h3], by simp [PyData.depthAll]; omega⟩
end
theorem okL_all {k : Nat} : ∀ {ds : List Dt}, okL k ds = ds.all (okD k)
  | [] => rfl
  | d :: ds => by simp [okL, okL_all (ds := ds)]

/-! ### or of rules -/
section
variable {X : Cx}
theorem OpR.or {f : Value → Value → Sem Value} {r r' : R2} (h : OpR X f r) (h' : OpR X f r') : OpR X f (fun x y H Q => r x y H Q ∨ r' x y H Q) := by
  intro pins s σ H x y v u Q I rx ry q
  rcases q with q | q
  · exact h pins s σ H x y v u Q I rx ry q
  · exact h' pins s σ H x y v u Q I rx ry q
def orD (g g' : Dt → Dt → Option Dt) : Dt → Dt → Option Dt := fun a b => match g a b with
  | some d => some d
  | none => g' a b
theorem OpD.or {K : Kx} {r r' : R2} {g g' : Dt → Dt → Option Dt} (h : OpD K r g) (h' : OpD K r' g') : OpD K (fun x y H Q => r x y H Q ∨ r' x y H Q) (orD g g') := by
  intro H x y a b d Q ra rb hg k
  unfold orD at hg
  split at hg
  · rename_i d' hd
    cases hg
    exact .inl (h H x y a b d Q ra rb hd k)
  · exact .inr (h' H x y a b d Q ra rb hg k)
/-- a new list is frozen at once -/
def rFrz (r : R2) : R2 := fun x y H Q => r x y H fun v H1 => ∃ p xs, v = .ref p ∧ H1 p = some (.lst xs) ∧ ∀ o, Q v (upd H1 p (.frz o (.lst xs)))
theorem opr_frz {f : Value → Value → Sem Value} {r : R2} (h : OpR X f r) : OpR X f (rFrz r) := by
  intro pins s σ H x y v u Q I rx ry q
  refine thn (h pins s σ H x y v u _ I rx ry q) fun w s' ⟨z, H', I', rz, p, xs, e, hp, q'⟩ => ?_
  subst e
  obtain ⟨od, I2⟩ := I'.lock hp trivial
  exact ⟨_, _, I2, rz, q' od⟩
def lsD (g : Dt → Dt → Option (List Dt)) : Dt → Dt → Option Dt := fun a b => match g a b with
  | some ds => some (.list ds)
  | none => none
theorem same_frz {H : Hp} {p : Addr} {u o : HO} (hp : H p = none) : Same H (upd (upd H p u) p o) := by rw [upd_upd]; exact same_upd hp
theorem opn_frz {K : Kx} {r : R2} {g : Dt → Dt → Option (List Dt)} (h : OpN K r g) : OpD K (rFrz r) (lsD g) := by
  intro H x y a b d Q ra rb hg k
  unfold lsD at hg
  split at hg
  · rename_i ds hd
    cases hg
    refine h H x y a b ds _ ra rb hd fun p xs hp r => ⟨p, xs, rfl, upd_same, fun o => k _ _ (same_frz hp) ?_⟩
    exact ⟨p, xs, rfl, .inl ⟨o, upd_same⟩, r.kp (.of_same (same_frz hp))⟩
  · cases hg

/-! ### + - * // % ** -/
def iAdd : Dt → Dt → Option Dt
  | .int i, .int j => some (.int (i + j))
  | _, _ => none
def sAdd : Dt → Dt → Option Dt
  | .str x, .str y => if x.length + y.length ≤ 1000000 then some (.str (x ++ y)) else none
  | _, _ => none
def tAddD : Dt → Dt → Option Dt
  | .tuple a, .tuple b => if a.length + b.length ≤ 10000000 then some (.tuple (a ++ b)) else none
  | _, _ => none
def lAdd : Dt → Dt → Option (List Dt)
  | .list a, .list b => if a.length + b.length ≤ 10000000 then some (a ++ b) else none
  | _, _ => none
theorem od_I0 {K : Kx} {f : Int → Int → V} {g : Int → Int → Dt} (h : ∀ i j H, Rp K H (g i j) (f i j)) : OpD K (rI0 f) (fun a b => match a, b with | .int i, .int j => some (g i j) | _, _ => none) := by
  intro H x y a b d Q ra rb hg k
  dsimp only at hg
  split at hg
  · rename_i i j
    cases hg
    exact ⟨i, j, ra, rb, k _ H (Same.refl H) (h i j H)⟩
  · cases hg
theorem od_I {K : Kx} {C : Int → Int → Prop} [∀ i j, Decidable (C i j)] {f : Int → Int → V} {g : Int → Int → Dt} (h : ∀ i j H, Rp K H (g i j) (f i j)) : OpD K (rI C f) (fun a b => match a, b with | .int i, .int j => if C i j then some (g i j) else none | _, _ => none) := by
  intro H x y a b d Q ra rb hg k
  dsimp only at hg
  split at hg
  · rename_i i j
    split at hg
    · rename_i hc
      cases hg
      exact ⟨i, j, ra, rb, hc, k _ H (Same.refl H) (h i j H)⟩
    · cases hg
  · cases hg
theorem od_iAdd {K : Kx} : OpD K (rI0 fun i j => .int (i + j)) iAdd := od_I0 fun _ _ _ => rfl
theorem od_sAdd {K : Kx} : OpD K (fun x y H Q => ∃ i j, x = .str i ∧ y = .str j ∧ i.length + j.length ≤ sizeLine ∧ Q (.str (i ++ j)) H) sAdd := by
  intro H x y a b d Q ra rb hg k
  unfold sAdd at hg
  split at hg
  · rename_i i j
    split at hg
    · rename_i hc
      cases hg
      exact ⟨i, j, ra, rb, Nat.le_trans hc (by decide), k _ H (Same.refl H) rfl⟩
    · cases hg
  · cases hg
theorem od_tAdd {K : Kx} : OpD K (rCatA K) tAddD := by
  intro H x y a b d Q ra rb hg k
  unfold tAddD at hg
  split at hg
  · rename_i as bs
    split at hg
    · rename_i hc
      cases hg
      obtain ⟨p, xs, rfl, hp, rx⟩ := ra
      obtain ⟨q, ys, rfl, hq, ry⟩ := rb
      refine ⟨p, q, xs, ys, rfl, rfl, hp, hq, Nat.le_trans (by rw [rx.length, ry.length]; exact hc) (by decide), fun e => ?_, fun _ e => ?_, fun _ _ t ht => ?_⟩
      · subst e
        have : as = [] := by
          have := rx.length
          simp at this
          exact List.eq_nil_of_length_eq_zero this.symm
        subst this
        exact k _ H (Same.refl H) ⟨q, ys, rfl, hq, ry⟩
      · subst e
        have : bs = [] := by
          have := ry.length
          simp at this
          exact List.eq_nil_of_length_eq_zero this.symm
        subst this
        rw [List.append_nil] at k
        exact k _ H (Same.refl H) ⟨p, xs, rfl, hp, rx⟩
      · exact k _ _ (same_upd ht) ⟨t, _, rfl, .inl (.inl upd_same), (rx.append ry).kp (.new ht)⟩
    · cases hg
  · cases hg
/-- two lists that are read -/
def rCatS (K : Kx) : R2 := fun x y H Q => ∃ l b xs zs, x = .ref l ∧ y = .ref b ∧ SqL K H l xs ∧ SqL K H b zs ∧ xs.length + zs.length ≤ sizeLine ∧ ∀ p, H p = none → Q (.ref p) (upd H p (.lst (xs ++ zs)))
theorem op_catS : OpR X (binaryOp .Add) (rCatS X.kx) := by
  intro pins s σ H x y v u Q I rx ry h
  obtain ⟨l, b, xs, zs, rfl, rfl, hH, hB, hz, q⟩ := h
  cases rx
  cases ry
  obtain ⟨its, r, pl, _⟩ := I.list hH
  obtain ⟨its2, r2, pl2, _⟩ := I.list hB
  obtain ⟨⟨cls, dd, data, sl⟩, n, ho, hc, _, hd⟩ := id pl
  obtain ⟨⟨cls2, dd2, data2, sl2⟩, n2, ho2, hc2, _, hd2⟩ := id pl2
  simp only at hc hd hc2 hd2
  subst hc hd hc2 hd2
  have hsz : its.toArray.size + its2.toArray.size ≤ sizeLine := by
    have := r.length
    have := r2.length
    simp; omega
  have ea : its.toArray ++ its2.toArray = (its ++ its2).toArray := by simp
  refine concat_meets ⟨_, ho, rfl⟩ ⟨_, ho2, rfl⟩ noFill_list_add seq_list_add PySem.F.slot_list_add PySem.F.entry_list_add (PySem.F.args_list_add_2 _ _) (PyProof.Rows.list_addW l b its.toArray its2.toArray n n2 dd dd2 sl sl2 hsz) ⟨ho, ho2, ?_⟩
  rw [ea]
  exact ⟨.ref _, _, I.lnew (t' := s.toks) (r.append r2) (by rw [List.length_append]; exact hz), rfl, q _ I.fresh⟩
theorem on_lAdd {K : Kx} : OpN K (rCatS K) lAdd := by
  intro H x y a b d Q ra rb hg k
  unfold lAdd at hg
  split at hg
  · rename_i as bs
    split at hg
    · rename_i hc
      cases hg
      obtain ⟨p, xs, rfl, hp, rx⟩ := ra
      obtain ⟨q, ys, rfl, hq, ry⟩ := rb
      exact ⟨p, q, xs, ys, rfl, rfl, hp.sq, hq.sq, Nat.le_trans (by rw [rx.length, ry.length]; exact hc) (by decide), fun t ht => k t _ ht (rx.append ry)⟩
    · cases hg
  · cases hg
def dAdd : Dt → Dt → Option Dt
  | .int i, .int j => some (.int (i + j))
  | .str x, .str y => if x.length + y.length ≤ 1000000 then some (.str (x ++ y)) else none
  | .tuple a, .tuple b => if a.length + b.length ≤ 10000000 then some (.tuple (a ++ b)) else none
  | .list a, .list b => if a.length + b.length ≤ 10000000 then some (.list (a ++ b)) else none
  | _, _ => none
theorem OpD.imp {K : Kx} {r : R2} {g g' : Dt → Dt → Option Dt} (h : OpD K r g) (e : ∀ a b d, g' a b = some d → g a b = some d) : OpD K r g' :=
  fun H x y a b d Q ra rb hg k => h H x y a b d Q ra rb (e a b d hg) k
variable {e a b c : Expr} {es : List Expr} {pos : Pos}
theorem ei_add {fa fb : EF} (ha : EI X a fa) (hb : EI X b fb) : EI X (.BinOp a .Add b pos) (eOp dAdd fa fb) := by
  refine ei_op (OpR.or op_add (OpR.or op_add_str (OpR.or op_catA (opr_frz op_catS)))) (OpD.imp (OpD.or od_iAdd (OpD.or od_sAdd (OpD.or od_tAdd (opn_frz on_lAdd)))) fun a b d h => ?_) ha hb
  unfold dAdd at h
  split at h
  · exact h
  · split at h
    · rename_i hc
      show orD iAdd (orD sAdd (orD tAddD (lsD lAdd))) (.str _) (.str _) = _
      simp only [orD, iAdd, sAdd, if_pos hc]; exact h
    · cases h
  · split at h
    · rename_i hc
      show orD iAdd (orD sAdd (orD tAddD (lsD lAdd))) (.tuple _) (.tuple _) = _
      simp only [orD, iAdd, sAdd, tAddD, if_pos hc]; exact h
    · cases h
  · split at h
    · rename_i hc
      show orD iAdd (orD sAdd (orD tAddD (lsD lAdd))) (.list _) (.list _) = _
      simp only [orD, iAdd, sAdd, tAddD, lsD, lAdd, if_pos hc]; exact h
    · cases h
  · cases h
theorem en_add {fa fb : EF} (ha : EI X a fa) (hb : EI X b fb) : EN X (.BinOp a .Add b pos) (nOp lAdd fa fb) := en_op op_catS on_lAdd ha hb
def dSub : Dt → Dt → Option Dt
  | .int i, .int j => some (.int (i - j))
  | _, _ => none
theorem ei_sub {fa fb : EF} (ha : EI X a fa) (hb : EI X b fb) : EI X (.BinOp a .Sub b pos) (eOp dSub fa fb) :=
  ei_op op_sub (OpD.imp (od_I0 (g := fun i j => .int (i - j)) fun _ _ _ => rfl) fun a b d h => by unfold dSub at h; exact h) ha hb
def dMul : Dt → Dt → Option Dt
  | .int i, .int j => if (-(2 ^ 64) < i ∧ i < 2 ^ 64) ∨ (-(2 ^ 64) < j ∧ j < 2 ^ 64) ∨ (-(2 ^ 1000) < i ∧ i < 2 ^ 1000 ∧ -(2 ^ 1000) < j ∧ j < 2 ^ 1000) then some (.int (i * j)) else none
  | _, _ => none
theorem ei_mul {fa fb : EF} (ha : EI X a fa) (hb : EI X b fb) : EI X (.BinOp a .Mult b pos) (eOp dMul fa fb) := by
  refine ei_op (OpR.or op_mul op_mulW) ?_ ha hb
  intro H x y a b d Q ra rb hg k
  unfold dMul at hg
  split at hg
  · rename_i i j
    split at hg
    · rename_i hc
      cases hg
      rcases hc with hc | hc | hc
      · exact .inl ⟨i, j, ra, rb, .inl hc, k _ H (Same.refl H) rfl⟩
      · exact .inl ⟨i, j, ra, rb, .inr hc, k _ H (Same.refl H) rfl⟩
      · refine .inr ⟨i, j, ra, rb, wide_mul (a := 1000) (b := 1000) ?_ ?_ (by decide) (by decide) (by decide), k _ H (Same.refl H) rfl⟩
        · omega
        · omega
    · cases hg
  · cases hg
def dFdiv : Dt → Dt → Option Dt
  | .int i, .int j => if j ≠ 0 ∧ j.natAbs < 1073741824 then some (.int (i.fdiv j)) else none
  | _, _ => none
theorem ei_fdiv {fa fb : EF} (ha : EI X a fa) (hb : EI X b fb) : EI X (.BinOp a .FloorDiv b pos) (eOp dFdiv fa fb) := by
  refine ei_op op_fdivN ?_ ha hb
  intro H x y a b d Q ra rb hg k
  unfold dFdiv at hg
  split at hg
  · rename_i i j
    split at hg
    · rename_i hc
      cases hg
      exact ⟨i, j, ra, rb, hc, k _ H (Same.refl H) rfl⟩
    · cases hg
  · cases hg
def dMod : Dt → Dt → Option Dt
  | .int i, .int j => if j ≠ 0 then some (.int (i.fmod j)) else none
  | _, _ => none
theorem ei_mod {fa fb : EF} (ha : EI X a fa) (hb : EI X b fb) : EI X (.BinOp a .Mod b pos) (eOp dMod fa fb) := by
  refine ei_op op_modN ?_ ha hb
  intro H x y a b d Q ra rb hg k
  unfold dMod at hg
  split at hg
  · rename_i i j
    split at hg
    · rename_i hc
      cases hg
      exact ⟨i, j, ra, rb, hc, k _ H (Same.refl H) rfl⟩
    · cases hg
  · cases hg
def dPow : Dt → Dt → Option Dt
  | .int i, .int j => if 0 ≤ j ∧ j ≤ 1000000 ∧ i.natAbs < 18446744073709551616 then some (.int (i ^ j.toNat)) else none
  | _, _ => none
theorem ei_pow {fa fb : EF} (ha : EI X a fa) (hb : EI X b fb) : EI X (.BinOp a .Pow b pos) (eOp dPow fa fb) := by
  refine ei_op op_pow ?_ ha hb
  intro H x y a b d Q ra rb hg k
  unfold dPow at hg
  split at hg
  · rename_i i j
    split at hg
    · rename_i hc
      cases hg
      exact ⟨i, j, ra, rb, ⟨hc.1, hc.2.1, by have := hc.2.2; omega⟩, k _ H (Same.refl H) rfl⟩
    · cases hg
  · cases hg
def dNeg : Dt → Option Dt
  | .int i => some (.int (-i))
  | _ => none
theorem ei_neg {fa : EF} (ha : EI X a fa) : EI X (.UnaryOp .USub a pos) (eUn dNeg fa) := by
  refine ei_un un_neg ?_ ha
  intro H x a d Q ra hg k
  unfold dNeg at hg
  split at hg
  · rename_i i
    cases hg
    exact ⟨i, ra, k _ H (Same.refl H) rfl⟩
  · cases hg

/-! ### == != < <= > >= in, not in, is -/
def dEq (a b : Dt) : Option Dt := if okD 40 a && okD 40 b then some (.bool (a.eqv b)) else none
def dNe (a b : Dt) : Option Dt := if okD 40 a && okD 40 b then some (.bool (!a.eqv b)) else none
def rDat (K : Kx) (g : Dt → Dt → Option Bool) : R2 := fun x y H Q => ∃ a b k, Rp K H a x ∧ Rp K H b y ∧ g a b = some k ∧ Q (.bl k) H
theorem od_dat {K : Kx} {g : Dt → Dt → Option Bool} {g' : Dt → Dt → Option Dt} (h : ∀ a b d, g' a b = some d → ∃ k, d = .bool k ∧ g a b = some k) : OpD K (rDat K g) g' := by
  intro H x y a b d Q ra rb hg k
  obtain ⟨b', rfl, h'⟩ := h a b d hg
  exact ⟨a, b, b', ra, rb, h', k _ H (Same.refl H) rfl⟩
def gEq (a b : Dt) : Option Bool := if okD 40 a && okD 40 b then some (a.eqv b) else none
def gNe (a b : Dt) : Option Bool := if okD 40 a && okD 40 b then some (!a.eqv b) else none
theorem op_eqR (hu : X.A.units + 64 < cLine) : OpR X (compareOp .Eq) (rDat X.kx gEq) := by
  intro pins s σ H x y v u Q I rx ry h
  obtain ⟨a, b, k, ra, rb, hg, q⟩ := h
  unfold gEq at hg
  split at hg
  · rename_i hc
    cases hg
    rw [Bool.and_eq_true] at hc
    obtain ⟨p1, p2⟩ := okD_plain a 40 hc.1
    obtain ⟨p3, p4⟩ := okD_plain b 40 hc.2
    obtain ⟨as, r1⟩ := rp_reads I p1 ra rx
    obtain ⟨bs, r2⟩ := rp_reads I p3 rb ry
    exact PySem.SeqAt.eq_plain r1 r2 p1 p3 (by omega) ⟨.bl _, H, I, rfl, q⟩
  · cases hg
theorem op_neR (hu : X.A.units + 64 < cLine) : OpR X (compareOp .NotEq) (rDat X.kx gNe) := by
  intro pins s σ H x y v u Q I rx ry h
  obtain ⟨a, b, k, ra, rb, hg, q⟩ := h
  unfold gNe at hg
  split at hg
  · rename_i hc
    cases hg
    rw [Bool.and_eq_true] at hc
    obtain ⟨p1, p2⟩ := okD_plain a 40 hc.1
    obtain ⟨p3, p4⟩ := okD_plain b 40 hc.2
    obtain ⟨as, r1⟩ := rp_reads I p1 ra rx
    obtain ⟨bs, r2⟩ := rp_reads I p3 rb ry
    exact PySem.SeqAt.ne_plain r1 r2 p1 p3 (by omega) ⟨.bl _, H, I, rfl, q⟩
  · cases hg
theorem od_eq {K : Kx} : OpD K (rDat K gEq) dEq := od_dat fun a b d h => by
  unfold dEq at h; unfold gEq
  split at h
  · rename_i hc; cases h; exact ⟨_, rfl, by rw [if_pos hc]⟩
  · cases h
theorem od_ne {K : Kx} : OpD K (rDat K gNe) dNe := od_dat fun a b d h => by
  unfold dNe at h; unfold gNe
  split at h
  · rename_i hc; cases h; exact ⟨_, rfl, by rw [if_pos hc]⟩
  · cases h
def dCmp (f : Dt → Dt → Bool) (a b : Dt) : Option Dt := match a with
  | .none => none
  | _ => if PySem.W.alike a b && okD 40 a && okD 40 b then some (.bool (f a b)) else none
def notN : Dt → Bool
  | .none => false
  | _ => true
def gCmp (f : Dt → Dt → Bool) (a b : Dt) : Option Bool := if PySem.W.alike a b && okD 40 a && okD 40 b && notN a then some (f a b) else none
theorem od_cmp {K : Kx} {f : Dt → Dt → Bool} : OpD K (rDat K (gCmp f)) (dCmp f) := od_dat fun a b d h => by
  unfold dCmp at h; unfold gCmp
  split at h
  · cases h
  · split at h
    · rename_i hn hc
      cases h
      refine ⟨_, rfl, ?_⟩
      rw [if_pos]
      rw [hc]
      cases a <;> first | rfl | exact absurd rfl hn
    · cases h
theorem cmp_use (hu : X.A.units + 64 < cLine) {f : Dt → Dt → Bool} {op : CmpOp}
    (hr : ∀ {s : Shared} {v u : Value} {da db : Dt} {as bs : List Addr} {Q : Value → Shared → Prop}, Reads s.heap v da as → Reads s.heap u db bs → PySem.W.alike da db = true → da ≠ .none → X.A.units + min da.depth db.depth < cLine → Q (.bool (f da db)) s →
      wpAny (model X.prog X.w) X.A (compareOp op v u) Q X.xe s) : OpR X (compareOp op) (rDat X.kx (gCmp f)) := by
  intro pins s σ H x y v u Q I rx ry h
  obtain ⟨a, b, k, ra, rb, hg, q⟩ := h
  unfold gCmp at hg
  split at hg
  · rename_i hc
    cases hg
    rw [Bool.and_eq_true, Bool.and_eq_true, Bool.and_eq_true] at hc
    obtain ⟨p1, p2⟩ := okD_plain a 40 hc.1.1.2
    obtain ⟨p3, p4⟩ := okD_plain b 40 hc.1.2
    obtain ⟨as, r1⟩ := rp_reads I p1 ra rx
    obtain ⟨bs, r2⟩ := rp_reads I p3 rb ry
    refine hr r1 r2 hc.1.1.1 (fun z => ?_) (by omega) ⟨.bl _, H, I, rfl, q⟩
    subst z
    cases hc.2
  · cases hg
def dLt := dCmp fun a b => PySem.W.dataLt a b
def dGt := dCmp fun a b => PySem.W.dataLt b a
def dLe := dCmp fun a b => !PySem.W.dataLt b a
def dGe := dCmp fun a b => !PySem.W.dataLt a b
theorem op_ltR (hu : X.A.units + 64 < cLine) : OpR X (compareOp .Lt) (rDat X.kx (gCmp fun a b => PySem.W.dataLt a b)) := cmp_use hu fun r1 r2 h hn hu' q => PySem.W.lt_data r1 r2 h hn hu' q
theorem op_gtR (hu : X.A.units + 64 < cLine) : OpR X (compareOp .Gt) (rDat X.kx (gCmp fun a b => PySem.W.dataLt b a)) := cmp_use hu fun r1 r2 h hn hu' q => PySem.W.gt_data r1 r2 h hn hu' q
theorem op_leR (hu : X.A.units + 64 < cLine) : OpR X (compareOp .LtE) (rDat X.kx (gCmp fun a b => !PySem.W.dataLt b a)) := cmp_use hu fun r1 r2 h hn hu' q => PySem.W.le_data r1 r2 h hn hu' q
theorem op_geR (hu : X.A.units + 64 < cLine) : OpR X (compareOp .GtE) (rDat X.kx (gCmp fun a b => !PySem.W.dataLt a b)) := cmp_use hu fun r1 r2 h hn hu' q => PySem.W.ge_data r1 r2 h hn hu' q
def dIn : Dt → Dt → Option Dt
  | d, .list ds => if okD 40 d && okL 40 ds then some (.bool (ds.any fun y => y.eqv d)) else none
  | d, .tuple ds => if okD 40 d && okL 40 ds then some (.bool (ds.any fun y => y.eqv d)) else none
  | _, _ => none
def dNi : Dt → Dt → Option Dt
  | d, .list ds => if okD 40 d && okL 40 ds then some (.bool (!ds.any fun y => y.eqv d)) else none
  | d, .tuple ds => if okD 40 d && okL 40 ds then some (.bool (!ds.any fun y => y.eqv d)) else none
  | _, _ => none
def gIn (neg : Bool) : Dt → Dt → Option Bool
  | d, .list ds => if okD 40 d && okL 40 ds then some (if neg then !ds.any (fun y => y.eqv d) else ds.any fun y => y.eqv d) else none
  | d, .tuple ds => if okD 40 d && okL 40 ds then some (if neg then !ds.any (fun y => y.eqv d) else ds.any fun y => y.eqv d) else none
  | _, _ => none
theorem od_in {K : Kx} : OpD K (rDat K (gIn false)) dIn := od_dat fun a b d h => by
  unfold dIn at h
  split at h
  · rename_i ds
    split at h
    · rename_i hc
      cases h
      exact ⟨_, rfl, by simp only [gIn, hc]; rfl⟩
    · cases h
  · rename_i ds
    split at h
    · rename_i hc
      cases h
      exact ⟨_, rfl, by simp only [gIn, hc]; rfl⟩
    · cases h
  · cases h
theorem od_ni {K : Kx} : OpD K (rDat K (gIn true)) dNi := od_dat fun a b d h => by
  unfold dNi at h
  split at h
  · rename_i ds
    split at h
    · rename_i hc
      cases h
      exact ⟨_, rfl, by simp only [gIn, hc]; rfl⟩
    · cases h
  · rename_i ds
    split at h
    · rename_i hc
      cases h
      exact ⟨_, rfl, by simp only [gIn, hc]; rfl⟩
    · cases h
  · cases h
theorem op_inR (hu : X.A.units + 64 < cLine) : OpR X (compareOp .In) (rDat X.kx (gIn false)) := by
  intro pins s σ H x y v u Q I rx ry h
  obtain ⟨a, b, k, ra, rb, hg, q⟩ := h
  unfold gIn at hg
  split at hg
  · split at hg
    · rename_i hc
      cases hg
      rw [Bool.and_eq_true] at hc
      obtain ⟨p1, p2⟩ := okD_plain _ 40 hc.1
      obtain ⟨p3, p4⟩ := okL_plain _ 40 hc.2
      obtain ⟨as, r1⟩ := rp_reads I p1 ra rx
      obtain ⟨bs, r2⟩ := rp_reads I (by simpa only [PyData.plain] using p3) rb ry
      exact PySem.SeqAt.in_list_data r2 r1 p3 p1 (by omega) ⟨.bl _, H, I, rfl, q⟩
    · cases hg
  · split at hg
    · rename_i hc
      cases hg
      rw [Bool.and_eq_true] at hc
      obtain ⟨p1, p2⟩ := okD_plain _ 40 hc.1
      obtain ⟨p3, p4⟩ := okL_plain _ 40 hc.2
      obtain ⟨as, r1⟩ := rp_reads I p1 ra rx
      obtain ⟨bs, r2⟩ := rp_reads I (by simpa only [PyData.plain] using p3) rb ry
      exact PySem.SeqAt.in_tuple_data r2 r1 p3 p1 (by omega) ⟨.bl _, H, I, rfl, q⟩
    · cases hg
  · cases hg
theorem op_niR (hu : X.A.units + 64 < cLine) : OpR X (compareOp .NotIn) (rDat X.kx (gIn true)) := by
  intro pins s σ H x y v u Q I rx ry h
  obtain ⟨a, b, k, ra, rb, hg, q⟩ := h
  unfold gIn at hg
  split at hg
  · split at hg
    · rename_i hc
      cases hg
      rw [Bool.and_eq_true] at hc
      obtain ⟨p1, p2⟩ := okD_plain _ 40 hc.1
      obtain ⟨p3, p4⟩ := okL_plain _ 40 hc.2
      obtain ⟨as, r1⟩ := rp_reads I p1 ra rx
      obtain ⟨bs, r2⟩ := rp_reads I (by simpa only [PyData.plain] using p3) rb ry
      exact PySem.SeqAt.notIn_list_data r2 r1 p3 p1 (by omega) ⟨.bl _, H, I, rfl, q⟩
    · cases hg
  · split at hg
    · rename_i hc
      cases hg
      rw [Bool.and_eq_true] at hc
      obtain ⟨p1, p2⟩ := okD_plain _ 40 hc.1
      obtain ⟨p3, p4⟩ := okL_plain _ 40 hc.2
      obtain ⟨as, r1⟩ := rp_reads I p1 ra rx
      obtain ⟨bs, r2⟩ := rp_reads I (by simpa only [PyData.plain] using p3) rb ry
      exact PySem.SeqAt.notIn_tuple_data r2 r1 p3 p1 (by omega) ⟨.bl _, H, I, rfl, q⟩
    · cases hg
  · cases hg
def dIs : Dt → Dt → Option Dt
  | .none, .none => some (.bool true)
  | .bool _, .none | .int _, .none | .str _, .none | .list _, .none | .tuple _, .none | .dict _, .none => some (.bool false)
  | .bool a, .bool b => some (.bool (decide (a = b)))
  | _, _ => none
def dIsn : Dt → Dt → Option Dt
  | .none, .none => some (.bool false)
  | .bool _, .none | .int _, .none | .str _, .none | .list _, .none | .tuple _, .none | .dict _, .none => some (.bool true)
  | .bool a, .bool b => some (.bool (!decide (a = b)))
  | _, _ => none
theorem od_is {K : Kx} : OpD K (fun x y H Q => (y = .non ∧ Q (.bl (decide (x = .non))) H) ∨ ∃ a b, x = V.bl a ∧ y = V.bl b ∧ Q (.bl (decide (a = b))) H) dIs := by
  intro H x y a b d Q ra rb hg k
  unfold dIs at hg
  split at hg <;> first | (cases hg; done) | skip
  · cases hg; cases ra; exact .inl ⟨rb, k _ H (Same.refl H) rfl⟩
  · cases hg; cases ra; exact .inl ⟨rb, k _ H (Same.refl H) rfl⟩
  · cases hg; cases ra; exact .inl ⟨rb, k _ H (Same.refl H) rfl⟩
  · cases hg; cases ra; exact .inl ⟨rb, k _ H (Same.refl H) rfl⟩
  · cases hg; obtain ⟨p, xs, rfl, _⟩ := ra; exact .inl ⟨rb, k _ H (Same.refl H) rfl⟩
  · cases hg; obtain ⟨p, xs, rfl, _⟩ := ra; exact .inl ⟨rb, k _ H (Same.refl H) rfl⟩
  · cases hg; obtain ⟨p, es, o, rfl, _⟩ := ra; exact .inl ⟨rb, k _ H (Same.refl H) rfl⟩
  · cases hg; exact .inr ⟨_, _, ra, rb, k _ H (Same.refl H) rfl⟩
theorem od_isn {K : Kx} : OpD K (fun x y H Q => (y = .non ∧ Q (.bl (!decide (x = .non))) H) ∨ ∃ a b, x = V.bl a ∧ y = V.bl b ∧ Q (.bl (!decide (a = b))) H) dIsn := by
  intro H x y a b d Q ra rb hg k
  unfold dIsn at hg
  split at hg <;> first | (cases hg; done) | skip
  · cases hg; cases ra; exact .inl ⟨rb, k _ H (Same.refl H) rfl⟩
  · cases hg; cases ra; exact .inl ⟨rb, k _ H (Same.refl H) rfl⟩
  · cases hg; cases ra; exact .inl ⟨rb, k _ H (Same.refl H) rfl⟩
  · cases hg; cases ra; exact .inl ⟨rb, k _ H (Same.refl H) rfl⟩
  · cases hg; obtain ⟨p, xs, rfl, _⟩ := ra; exact .inl ⟨rb, k _ H (Same.refl H) rfl⟩
  · cases hg; obtain ⟨p, xs, rfl, _⟩ := ra; exact .inl ⟨rb, k _ H (Same.refl H) rfl⟩
  · cases hg; obtain ⟨p, es, o, rfl, _⟩ := ra; exact .inl ⟨rb, k _ H (Same.refl H) rfl⟩
  · cases hg; exact .inr ⟨_, _, ra, rb, k _ H (Same.refl H) rfl⟩
theorem op_isA : OpR X (compareOp .Is) (fun x y H Q => (y = .non ∧ Q (.bl (decide (x = .non))) H) ∨ ∃ a b, x = V.bl a ∧ y = V.bl b ∧ Q (.bl (decide (a = b))) H) := OpR.or op_isN op_is_bl
theorem op_isnA : OpR X (compareOp .IsNot) (fun x y H Q => (y = .non ∧ Q (.bl (!decide (x = .non))) H) ∨ ∃ a b, x = V.bl a ∧ y = V.bl b ∧ Q (.bl (!decide (a = b))) H) := OpR.or op_notN op_isnot_bl
end
section
variable {X : Cx} {e a b c : Expr} {es : List Expr} {pos : Pos}

/-! ### chains -/
def eChain (g g' : Dt → Dt → Option Dt) (fa fb fc : EF) : EF := fun env => match fa env with
  | some (x, e1) => match fb e1 with
    | some (y, e2) => match g x y with
      | some (.bool true) => match fc e2 with
        | some (z, e3) => match g' y z with
          | some d => some (d, e3)
          | none => none
        | none => none
      | some (.bool false) => some (.bool false, e2)
      | _ => none
    | none => none
  | none => none
theorem runs_chain {K : Kx} {r r' : R2} {g g' : Dt → Dt → Option Dt} {ta tb tc : TE} {fa fb fc : EF} (hr : OpD K r g) (hr' : OpD K r' g') (ha : RunsI K ta fa) (hb : RunsI K tb fb) (hc : RunsI K tc fc) : RunsI K (tChain r r' ta tb tc) (eChain g g' fa fb fc) := by
  intro O H0 H σ env τ ts d env' Q S h k
  unfold eChain at h
  split at h
  · rename_i x e1 h1
    split at h
    · rename_i y e2 h2
      split at h
      · rename_i h3
        split at h
        · rename_i z e3 h4
          split at h
          · rename_i d' h5
            cases h
            refine ha O H0 H σ env τ ts x e1 _ S h1 fun v1 H1 S1 => ?_
            refine hb O H0 H1 σ e1 _ _ y e2 _ S1 h2 fun v2 H2 S2 => ?_
            refine hr H2 v1 v2 x y _ _ S2.pop.rp S2.rp h3 fun v H' e rv => ⟨true, rv, ?_⟩
            rw [if_pos rfl]
            refine hc O H0 H' σ e2 _ _ z _ _ (S2.same e) h4 fun v3 H3 S3 => ?_
            refine hr' H3 v2 v3 y z d Q S3.pop.rp S3.rp h5 fun w H4 e4 rw' => ?_
            exact k w H4 ((S3.pop.pop.pop.same e4).push rw')
          · cases h
        · cases h
      · rename_i h3
        cases h
        refine ha O H0 H σ env τ ts x e1 _ S h1 fun v1 H1 S1 => ?_
        refine hb O H0 H1 σ e1 _ _ y _ _ S1 h2 fun v2 H2 S2 => ?_
        refine hr H2 v1 v2 x y _ _ S2.pop.rp S2.rp h3 fun v H' e rv => ⟨false, rv, ?_⟩
        rw [if_neg (by decide)]
        exact k _ H' ((S2.pop.pop.same e).push rfl)
      · cases h
    · cases h
  · cases h
theorem ei_chain {op op' : CmpOp} {r r' : R2} {g g' : Dt → Dt → Option Dt} {fa fb fc : EF} (ho : OpR X (compareOp op) r) (hr : OpD X.kx r g) (ho' : OpR X (compareOp op') r') (hr' : OpD X.kx r' g') (ha : EI X a fa) (hb : EI X b fb) (hc : EI X c fc)
    (hm : lastMarks [op, op'] [b, c] = false := by with_unfolding_all rfl) : EI X (.Compare a [op, op'] [b, c] pos) (eChain g g' fa fb fc) := by
  obtain ⟨_, h1, h2⟩ := ha
  obtain ⟨_, h3, h4⟩ := hb
  obtain ⟨_, h5, h6⟩ := hc
  exact ⟨_, pe_chain ho ho' h1 h3 h5 hm, runs_chain hr hr' h2 h4 h6⟩
theorem et_chain {op op' : CmpOp} {r r' : R2} {g g' : Dt → Dt → Option Dt} {fa fb fc : EF} (ho : OpR X (compareOp op) r) (hr : OpD X.kx r g) (ho' : OpR X (compareOp op') r') (hr' : OpD X.kx r' g') (ha : EI X a fa) (hb : EI X b fb) (hc : EI X c fc)
    (hm : lastMarks [op, op'] [b, c] = false := by with_unfolding_all rfl) : ET X (.Compare a [op, op'] [b, c] pos) (tVal (eChain g g' fa fb fc)) := by
  obtain ⟨_, h1, h2⟩ := ha
  obtain ⟨_, h3, h4⟩ := hb
  obtain ⟨_, h5, h6⟩ := hc
  exact ⟨_, pt_chain ho ho' h1 h3 h5 hm, runs_tst (runs_chain hr hr' h2 h4 h6)⟩

/-! ### items and slices -/
def dIx : Dt → Dt → Option Dt
  | .list ds, .int i => atI ds i
  | .tuple ds, .int i => atI ds i
  | .str z, .int i => if z.length ≤ 1000000 then (match atI z.cps.toList i with
    | some c => some (.str ⟨#[c]⟩)
    | none => none) else none
  | _, _ => none
theorem od_ix {K : Kx} : OpD K (rIx K) dIx := by
  intro H x y a b d Q ra rb hg k
  unfold dIx at hg
  split at hg
  · obtain ⟨p, xs, rfl, f, r⟩ := ra
    obtain ⟨v, h1, h2⟩ := r.atI hg
    exact .inl ⟨p, xs, _, v, rfl, rb, f.sq, h1, k v H (Same.refl H) h2⟩
  · obtain ⟨p, xs, rfl, f, r⟩ := ra
    obtain ⟨v, h1, h2⟩ := r.atI hg
    exact .inr (.inl ⟨p, xs, _, v, rfl, rb, f, h1, k v H (Same.refl H) h2⟩)
  · split at hg
    · rename_i hl
      split at hg
      · rename_i cc hcc
        cases hg
        exact .inr (.inr ⟨_, _, cc, ra, rb, Nat.le_trans hl (by decide), hcc, k _ H (Same.refl H) rfl⟩)
      · cases hg
    · cases hg
  · cases hg
theorem ei_ix {fa fb : EF} (ha : EI X a fa) (hb : EI X b fb) (hs : PlainIx b) : EI X (.Subscript a b pos) (eOp dIx fa fb) := by
  obtain ⟨ta, h1, h2⟩ := ha
  obtain ⟨tb, h3, h4⟩ := hb
  exact ⟨_, pe_ix ix_seq h1 h3 hs, runs_op od_ix h2 h4⟩
def cutD {α : Type} (xs : List α) (lo hi : Option Int) : List α := List.take (HT.sIx xs.length xs.length hi - HT.sIx xs.length 0 lo) (List.drop (HT.sIx xs.length 0 lo) xs)
abbrev OF := Nv → Option (Option Int × Nv)
def RunsO (K : Kx) (t : TO) (f : OF) : Prop := ∀ (O : Ow) (H0 H : Hp) (σ : L2.St) (env : Nv) (τ : L2.St) (ts : Nv) (d : Option Int) (env' : Nv) (Q : Option Int → Hp → Prop), Sg K O H0 H σ env τ ts → f env = some (d, env') →
  (∀ H', Sg K O H0 H' σ env' τ ts → Q d H') → t σ H Q
def EO (X : Cx) (e : Option Expr) (f : OF) : Prop := ∃ t, PO X e t ∧ RunsO X.kx t f
def oNo : OF := fun env => some (none, env)
def oAt (f : EF) : OF := fun env => match f env with
  | some (.int i, e) => some (some i, e)
  | _ => none
theorem eo_no : EO X none oNo := ⟨_, po_none, fun O H0 H σ env τ ts d env' Q S h k => by cases h; exact k H S⟩
theorem eo_at {f : EF} (h : EI X e f) : EO X (some e) (oAt f) := by
  obtain ⟨t, h1, h2⟩ := h
  refine ⟨_, po_some h1, fun O H0 H σ env τ ts d env' Q S h k => ?_⟩
  unfold oAt at h
  split at h
  · rename_i i e1 he
    cases h
    exact h2 O H0 H σ env τ ts _ _ _ S he fun v H1 S1 => ⟨i, S1.rp, k H1 S1.pop⟩
  · cases h
def dSl (d : Dt) (lo hi : Option Int) : Option Dt := match d with
  | .list ds => some (.list (cutD ds lo hi))
  | .tuple ds => some (.tuple (cutD ds lo hi))
  | .str z => if z.length ≤ 1000000 then some (.str (cutS z lo hi)) else none
  | _ => none
def eSl (f : EF) (lo hi : OF) : EF := fun env => match f env with
  | some (d, e1) => match lo e1 with
    | some (l, e2) => match hi e2 with
      | some (h, e3) => match dSl d l h with
        | some z => some (z, e3)
        | none => none
      | none => none
    | none => none
  | none => none
def rSlFz (r : V → Option Int → Option Int → Hp → VK → Prop) : V → Option Int → Option Int → Hp → VK → Prop := fun x lo hi H Q => r x lo hi H fun v H1 => ∃ p xs, v = .ref p ∧ H1 p = some (.lst xs) ∧ ∀ o, Q v (upd H1 p (.frz o (.lst xs)))
theorem slr_frz {r : V → Option Int → Option Int → Hp → VK → Prop} (h : SlR X r) : SlR X (rSlFz r) := by
  intro pins s σ H x v vl vu lo hi sl Q I rx hs pl pu q
  obtain ⟨T, id, h1, h2, h3⟩ := h pins s σ H x v vl vu lo hi sl _ I rx hs pl pu q
  refine ⟨T, id, h1, h2, thn h3 fun w s' ⟨z, H', I', rz, p, xs, e, hp, q'⟩ => ?_⟩
  subst e
  obtain ⟨od, I2⟩ := I'.lock hp trivial
  exact ⟨_, _, I2, rz, q' od⟩
theorem cut_rp {K : Kx} {H : Hp} {ds : List Dt} {xs : List V} (lo hi : Option Int) (r : RpL K H ds xs) : RpL K H (cutD ds lo hi) (cutV xs lo hi) := by
  unfold cutD cutV
  rw [r.length]
  exact (r.drop _).take _
theorem cutD_all {α : Type} {xs : List α} {lo hi : Option Int} (h : HT.sIx xs.length 0 lo = 0 ∧ HT.sIx xs.length xs.length hi = xs.length) : cutD xs lo hi = xs := by
  unfold cutD
  rw [h.1, h.2]
  simp
theorem ei_sl {f : EF} {lo hi : Option Expr} {fl fh : OF} {p2 : Pos} (h : EI X e f) (hl : EO X lo fl) (hh : EO X hi fh) : EI X (.Subscript e (.Slice lo hi none p2) pos) (eSl f fl fh) := by
  obtain ⟨t, h1, h2⟩ := h
  obtain ⟨tl, h3, h4⟩ := hl
  obtain ⟨th, h5, h6⟩ := hh
  refine ⟨_, pe_slice (SlR.or (slr_frz sl_list) (SlR.or sl_tupA sl_str)) h1 h3 h5, fun O H0 H σ env τ ts d env' Q S h k => ?_⟩
  unfold eSl at h
  split at h
  · rename_i d0 e1 he1
    split at h
    · rename_i l e2 he2
      split at h
      · rename_i hh' e3 he3
        split at h
        · rename_i z hz
          cases h
          refine h2 O H0 H σ env τ ts d0 e1 _ S he1 fun v H1 S1 => ?_
          refine h4 O H0 H1 σ e1 _ _ l e2 _ S1 he2 fun H2 S2 => ?_
          refine h6 O H0 H2 σ e2 _ _ hh' _ _ S2 he3 fun H3 S3 => ?_
          have rv := S3.rp
          unfold dSl at hz
          split at hz
          · rename_i ds
            cases hz
            obtain ⟨p, xs, rfl, f, r⟩ := rv
            refine .inl ⟨p, xs, rfl, f.sq, fun q hq => ⟨q, _, rfl, upd_same, fun o => k _ _ ?_⟩⟩
            exact (S3.pop.same (same_frz hq)).push ⟨q, _, rfl, .inl ⟨o, upd_same⟩, (cut_rp l hh' r).kp (.of_same (same_frz hq))⟩
          · rename_i ds
            cases hz
            obtain ⟨p, xs, rfl, f, r⟩ := rv
            refine .inr (.inl ⟨p, xs, rfl, f, fun hw => k _ _ ?_, fun _ q hq => k _ _ ?_⟩)
            · rw [r.length] at hw
              rw [cutD_all hw]
              exact S3
            · exact (S3.pop.same (same_upd hq)).push ⟨q, _, rfl, .inl (.inl upd_same), (cut_rp l hh' r).kp (.new hq)⟩
          · rename_i z'
            split at hz
            · rename_i hl
              cases hz
              exact .inr (.inr ⟨z', rv, Nat.le_trans hl (by decide), k _ _ (S3.pop.push rfl)⟩)
            · cases hz
          · cases hz
        · cases h
      · cases h
    · cases h
  · cases h

/-! ### built-ins -/
def intsOf : List Dt → Option (List Int)
  | [] => some []
  | .int i :: r => match intsOf r with
    | some ns => some (i :: ns)
    | none => none
  | _ => none
theorem intsOf_map (ns : List Int) : intsOf (ns.map PyData.int) = some ns := by
  induction ns with
  | nil => rfl
  | cons n r ih => simp [intsOf, ih]
theorem intsOf_rp {K : Kx} {H : Hp} : ∀ {ds : List Dt} {xs : List V} {ns : List Int}, intsOf ds = some ns → RpL K H ds xs → xs = ns.map V.int ∧ ds = ns.map PyData.int
  | [], xs, ns, h, r => by cases h; cases r; exact ⟨rfl, rfl⟩
  | d :: ds, xs, ns, h, r => by
    unfold intsOf at h
    split at h
    · cases h; rename_i hc; cases hc
    · rename_i i r' hc
      cases hc
      split at h
      · rename_i ns' hn
        cases h
        obtain ⟨v, r', rfl, h1, h2⟩ := r
        cases h1
        obtain ⟨e1, e2⟩ := intsOf_rp hn h2
        exact ⟨by rw [e1]; rfl, by rw [e2]; rfl⟩
      · cases h
    · cases h
def boolsOf : List Dt → Option (List Bool)
  | [] => some []
  | .bool i :: r => match boolsOf r with
    | some ns => some (i :: ns)
    | none => none
  | _ => none
theorem boolsOf_map (ns : List Bool) : boolsOf (ns.map PyData.bool) = some ns := by
  induction ns with
  | nil => rfl
  | cons n r ih => simp [boolsOf, ih]
theorem boolsOf_rp {K : Kx} {H : Hp} : ∀ {ds : List Dt} {xs : List V} {ns : List Bool}, boolsOf ds = some ns → RpL K H ds xs → xs = ns.map V.bl
  | [], xs, ns, h, r => by cases h; cases r; rfl
  | d :: ds, xs, ns, h, r => by
    unfold boolsOf at h
    split at h
    · cases h; rename_i hc; cases hc
    · rename_i i r' hc
      cases hc
      split at h
      · rename_i ns' hn
        cases h
        obtain ⟨v, r', rfl, h1, h2⟩ := r
        cases h1
        rw [boolsOf_rp hn h2]; rfl
      · cases h
    · cases h
theorem RpL.one_inv {K : Kx} {H : Hp} {d : Dt} {xs : List V} (h : RpL K H [d] xs) : ∃ v, xs = [v] ∧ Rp K H d v := by
  obtain ⟨v, r, rfl, h1, h2⟩ := h
  cases h2
  exact ⟨v, rfl, h1⟩
def dLen : List Dt → Option Dt
  | [.list ds] => some (.int (ds.length : Int))
  | [.tuple ds] => some (.int (ds.length : Int))
  | [.str z] => if z.length ≤ 1000000 then some (.int (z.length : Int)) else none
  | _ => none
theorem ei_len {f : AF} {p : Pos} (hm : X.mg "len" = none) (hg : Gl X "len") (ha : EA X [a] f)
    (hs : starEach [a] X.env = (false, eval a X.env) :: starEach [] X.env := by rfl) (hst : ((backTo pos (starEach [] X.env)).any (·.1)) = false := by rfl) : EI X (.Call (.Name "len" p) [a] [] pos) (eCall dLen f) := by
  refine ei_B (CallR.or call_len_seq call_len_str) ?_ hm hg PySem.boot_len ha (by decide) (by decide) hs hst
  intro H xs ds d Q r hg k
  unfold dLen at hg
  split at hg
  · cases hg
    obtain ⟨v, rfl, p, ys, rfl, f, r⟩ := r.one_inv
    refine .inl ⟨p, ys, rfl, .inl f.sq, ?_⟩
    rw [r.length]; exact k _ H (Same.refl H) rfl
  · cases hg
    obtain ⟨v, rfl, p, ys, rfl, f, r⟩ := r.one_inv
    refine .inl ⟨p, ys, rfl, .inr f, ?_⟩
    rw [r.length]; exact k _ H (Same.refl H) rfl
  · split at hg
    · rename_i hl
      cases hg
      obtain ⟨v, rfl, h1⟩ := r.one_inv
      cases h1
      exact .inr ⟨_, rfl, Nat.le_trans hl (by decide), k _ H (Same.refl H) rfl⟩
    · cases hg
  · cases hg
/-- sum of a tuple of ints -/
def rSumT (K : Kx) : List V → Hp → VK → Prop := fun vs H Q => ∃ (a : Addr) (ns : List Int), vs = [V.ref a] ∧ SqT K H a (ns.map V.int) ∧ Q (.int ns.sum) H
theorem cr_sumT (hc : X.calm = true) : CallR X (.builtin "sum") (rSumT X.kx) := by
  intro pins s σ H vs us Q I r h
  obtain ⟨a, ns, rfl, hs, q⟩ := h
  obtain ⟨its, rv, hl, _⟩ := I.tuple hs
  rw [Vals.ref1 r]
  have hi := rv.ints
  obtain ⟨o, ho, hcl, n, hd⟩ := id hl
  have hl' : s.heap.IsTuple a its.toArray := ⟨o, ho, hcl, n, hd⟩
  obtain ⟨xs, hx⟩ := hi.allInts.items
  have hn : PySem.numsOf its.toArray.toList = ns := by rw [show its.toArray.toList = its from rfl, hi.numsOf]
  rw [hx] at hl' hn
  rw [PySem.nums_intItems] at hn
  refine PySem.W.ktm_sumG (I.ok.hd hc) hl' fun h' tk t' hk => ?_
  rw [PySem.preSum_eq, List.take_of_length_le (by simp), hn]
  exact ⟨.int _, H, I.kept hk, ⟨_, rfl⟩, q⟩
def dSum : List Dt → Option Dt
  | [.list ds] => match intsOf ds with
    | some ns => some (.int ns.sum)
    | none => none
  | [.tuple ds] => match intsOf ds with
    | some ns => some (.int ns.sum)
    | none => none
  | _ => none
theorem ei_sum {f : AF} {p : Pos} (hc : X.calm = true) (hm : X.mg "sum" = none) (hg : Gl X "sum") (ha : EA X [a] f)
    (hs : starEach [a] X.env = (false, eval a X.env) :: starEach [] X.env := by rfl) (hst : ((backTo pos (starEach [] X.env)).any (·.1)) = false := by rfl) : EI X (.Call (.Name "sum" p) [a] [] pos) (eCall dSum f) := by
  refine ei_B (CallR.or (cr_sum hc) (cr_sumT hc)) ?_ hm hg (by decide +kernel) ha (by decide) (by decide) hs hst
  intro H xs ds d Q r hg k
  unfold dSum at hg
  split at hg
  · split at hg
    · rename_i ns hn
      cases hg
      obtain ⟨v, rfl, p, ys, rfl, f, r⟩ := r.one_inv
      obtain ⟨rfl, _⟩ := intsOf_rp hn r
      exact .inl ⟨p, ns, rfl, f.sq, k _ H (Same.refl H) rfl⟩
    · cases hg
  · split at hg
    · rename_i ns hn
      cases hg
      obtain ⟨v, rfl, p, ys, rfl, f, r⟩ := r.one_inv
      obtain ⟨rfl, _⟩ := intsOf_rp hn r
      exact .inr ⟨p, ns, rfl, f, k _ H (Same.refl H) rfl⟩
    · cases hg
  · cases hg
/-- min, max of one list or tuple of ints -/
theorem alike_ints (n : Int) (ns : List Int) : PySem.W.AlikeAll ((n :: ns).map PyData.int) := by
  refine ⟨fun x hx y hy => ?_, fun x hx => ?_⟩
  · obtain ⟨i, _, rfl⟩ := List.mem_map.mp hx
    obtain ⟨j, _, rfl⟩ := List.mem_map.mp hy
    rfl
  · obtain ⟨i, _, rfl⟩ := List.mem_map.mp hx
    exact fun z => nomatch z
theorem depth_ints : ∀ ns : List Int, PyData.depthAll (ns.map PyData.int) = 0
  | [] => rfl
  | n :: r => by simp [PyData.depthAll, PyData.depth, depth_ints r]
def rBest (K : Kx) (f : Int → List Int → Int) : List V → Hp → VK → Prop := fun vs H Q => ∃ v n ns, vs = [v] ∧ (Rp K H (.list ((n :: ns).map PyData.int)) v ∨ Rp K H (.tuple ((n :: ns).map PyData.int)) v) ∧ Q (.int (f n ns)) H
theorem plain_ints : ∀ ns : List Int, PyData.plainAll (ns.map PyData.int) = true
  | [] => rfl
  | n :: r => by simp only [List.map_cons, PyData.plainAll, PyData.plain, plain_ints r, Bool.and_self]
theorem int_reads {h : Heap} {v : Value} {n : Int} {bs : List Addr} (r : Reads h v (.int n) bs) : ∃ t, v = .int n t := by
  cases r
  exact ⟨_, rfl⟩
theorem cr_minA (hc : X.calm = true) (hu : X.A.units + 64 < cLine) : CallR X (.builtin "min") (rBest X.kx fun n ns => ns.foldl min n) := by
  intro pins s σ H vs us Q I r h
  obtain ⟨v, n, ns, rfl, hv, q⟩ := h
  rcases hv with hv | hv
  · obtain ⟨a, xs, rfl, f, rx⟩ := hv
    rw [Vals.ref1 r]
    obtain ⟨its, rv, hl, _⟩ := I.list f.sq
    obtain ⟨as, ra⟩ := rpl_reads I (plain_ints (n :: ns)) rx rv
    refine PySem.W.min_list_data (x := .int n) (xs := ns.map PyData.int) (I.ok.hd hc) hl.isList ra (alike_ints n ns) (by have := depth_ints (n :: ns); simp only [List.map_cons] at this; rw [this]; omega) fun i w h' tk bs _ rw' hk => ?_
    rw [PySem.W.minD_ints] at rw'
    obtain ⟨t, rfl⟩ := int_reads rw'
    exact ⟨.int _, H, I.kept hk, ⟨_, rfl⟩, q⟩
  · obtain ⟨a, xs, rfl, f, rx⟩ := hv
    rw [Vals.ref1 r]
    obtain ⟨its, rv, hl, _⟩ := I.tuple f
    obtain ⟨as, ra⟩ := rpl_reads I (plain_ints (n :: ns)) rx rv
    refine PySem.W.min_tuple_data (x := .int n) (xs := ns.map PyData.int) (I.ok.hd hc) hl ra (alike_ints n ns) (by have := depth_ints (n :: ns); simp only [List.map_cons] at this; rw [this]; omega) fun i w h' tk bs _ rw' hk => ?_
    rw [PySem.W.minD_ints] at rw'
    obtain ⟨t, rfl⟩ := int_reads rw'
    exact ⟨.int _, H, I.kept hk, ⟨_, rfl⟩, q⟩
theorem cr_maxA (hc : X.calm = true) (hu : X.A.units + 64 < cLine) : CallR X (.builtin "max") (rBest X.kx fun n ns => ns.foldl max n) := by
  intro pins s σ H vs us Q I r h
  obtain ⟨v, n, ns, rfl, hv, q⟩ := h
  rcases hv with hv | hv
  · obtain ⟨a, xs, rfl, f, rx⟩ := hv
    rw [Vals.ref1 r]
    obtain ⟨its, rv, hl, _⟩ := I.list f.sq
    obtain ⟨as, ra⟩ := rpl_reads I (plain_ints (n :: ns)) rx rv
    refine PySem.W.max_list_data (x := .int n) (xs := ns.map PyData.int) (I.ok.hd hc) hl.isList ra (alike_ints n ns) (by have := depth_ints (n :: ns); simp only [List.map_cons] at this; rw [this]; omega) fun i w h' tk bs _ rw' hk => ?_
    rw [PySem.W.maxD_ints] at rw'
    obtain ⟨t, rfl⟩ := int_reads rw'
    exact ⟨.int _, H, I.kept hk, ⟨_, rfl⟩, q⟩
  · obtain ⟨a, xs, rfl, f, rx⟩ := hv
    rw [Vals.ref1 r]
    obtain ⟨its, rv, hl, _⟩ := I.tuple f
    obtain ⟨as, ra⟩ := rpl_reads I (plain_ints (n :: ns)) rx rv
    refine PySem.W.max_tuple_data (x := .int n) (xs := ns.map PyData.int) (I.ok.hd hc) hl ra (alike_ints n ns) (by have := depth_ints (n :: ns); simp only [List.map_cons] at this; rw [this]; omega) fun i w h' tk bs _ rw' hk => ?_
    rw [PySem.W.maxD_ints] at rw'
    obtain ⟨t, rfl⟩ := int_reads rw'
    exact ⟨.int _, H, I.kept hk, ⟨_, rfl⟩, q⟩
def dBest (f : Int → List Int → Int) (g : Int → Int → Int) : List Dt → Option Dt
  | [.list ds] => match intsOf ds with
    | some (n :: ns) => some (.int (f n ns))
    | _ => none
  | [.tuple ds] => match intsOf ds with
    | some (n :: ns) => some (.int (f n ns))
    | _ => none
  | [.int i, .int j] => some (.int (g i j))
  | _ => none
theorem cd_best {K : Kx} {f : Int → List Int → Int} {g : Int → Int → Int} : CallD K (fun xs H Q => rBest K f xs H Q ∨ ∃ i j, xs = [V.int i, V.int j] ∧ Q (.int (g i j)) H) (dBest f g) := by
  intro H xs ds d Q r hg k
  unfold dBest at hg
  split at hg
  · split at hg
    · rename_i n ns hn
      cases hg
      obtain ⟨v, rfl, h1⟩ := r.one_inv
      have h0 := h1
      obtain ⟨p, ys, rfl, f, r⟩ := h1
      obtain ⟨_, rfl⟩ := intsOf_rp hn r
      exact .inl ⟨_, n, ns, rfl, .inl h0, k _ H (Same.refl H) rfl⟩
    · cases hg
  · split at hg
    · rename_i n ns hn
      cases hg
      obtain ⟨v, rfl, h1⟩ := r.one_inv
      have h0 := h1
      obtain ⟨p, ys, rfl, f, r⟩ := h1
      obtain ⟨_, rfl⟩ := intsOf_rp hn r
      exact .inl ⟨_, n, ns, rfl, .inr h0, k _ H (Same.refl H) rfl⟩
    · cases hg
  · cases hg
    obtain ⟨v, r', rfl, h1, w, r2, rfl, h2, e⟩ := r
    cases e; cases h1; cases h2
    exact .inr ⟨_, _, rfl, k _ H (Same.refl H) rfl⟩
  · cases hg
def dMin := dBest (fun n ns => ns.foldl min n) fun i j => if j < i then j else i
def dMax := dBest (fun n ns => ns.foldl max n) fun i j => if j > i then j else i
theorem ei_min {f : AF} {p : Pos} (hc : X.calm = true) (hu : X.A.units + 64 < cLine) (hm : X.mg "min" = none) (hg : Gl X "min") (ha : EA X (e :: es) f)
    (hs : starEach (e :: es) X.env = (false, eval e X.env) :: starEach es X.env := by rfl) (hst : ((backTo pos (starEach es X.env)).any (·.1)) = false := by rfl) : EI X (.Call (.Name "min" p) (e :: es) [] pos) (eCall dMin f) :=
  ei_B (CallR.or (cr_minA hc hu) (call_min2 hc)) cd_best hm hg (by decide +kernel) ha (by decide) (by decide) hs hst
theorem ei_max {f : AF} {p : Pos} (hc : X.calm = true) (hu : X.A.units + 64 < cLine) (hm : X.mg "max" = none) (hg : Gl X "max") (ha : EA X (e :: es) f)
    (hs : starEach (e :: es) X.env = (false, eval e X.env) :: starEach es X.env := by rfl) (hst : ((backTo pos (starEach es X.env)).any (·.1)) = false := by rfl) : EI X (.Call (.Name "max" p) (e :: es) [] pos) (eCall dMax f) :=
  ei_B (CallR.or (cr_maxA hc hu) (call_max2 hc)) cd_best hm hg (by decide +kernel) ha (by decide) (by decide) hs hst
def dAbs : List Dt → Option Dt
  | [.int i] => some (.int (if i < 0 then -i else i))
  | _ => none
theorem ei_abs {f : AF} {p : Pos} (hm : X.mg "abs" = none) (hg : Gl X "abs") (ha : EA X [a] f)
    (hs : starEach [a] X.env = (false, eval a X.env) :: starEach [] X.env := by rfl) (hst : ((backTo pos (starEach [] X.env)).any (·.1)) = false := by rfl) : EI X (.Call (.Name "abs" p) [a] [] pos) (eCall dAbs f) := by
  refine ei_B call_abs ?_ hm hg (by decide +kernel) ha (by decide) (by decide) hs hst
  intro H xs ds d Q r hg k
  unfold dAbs at hg
  split at hg
  · cases hg
    obtain ⟨v, rfl, h1⟩ := r.one_inv
    cases h1
    exact ⟨_, rfl, k _ H (Same.refl H) rfl⟩
  · cases hg
def dAll : List Dt → Option Dt
  | [.list ds] => match boolsOf ds with
    | some bs => some (.bool (bs.all id))
    | none => none
  | _ => none
def dAny : List Dt → Option Dt
  | [.list ds] => match boolsOf ds with
    | some bs => some (.bool (bs.any id))
    | none => none
  | _ => none
theorem ei_all {f : AF} {p : Pos} (hc : X.calm = true) (hm : X.mg "all" = none) (hg : Gl X "all") (ha : EA X [a] f)
    (hs : starEach [a] X.env = (false, eval a X.env) :: starEach [] X.env := by rfl) (hst : ((backTo pos (starEach [] X.env)).any (·.1)) = false := by rfl) : EI X (.Call (.Name "all" p) [a] [] pos) (eCall dAll f) := by
  refine ei_B (cr_all hc) ?_ hm hg (by decide +kernel) ha (by decide) (by decide) hs hst
  intro H xs ds d Q r hg k
  unfold dAll at hg
  split at hg
  · split at hg
    · rename_i bs hn
      cases hg
      obtain ⟨v, rfl, p, ys, rfl, f, r⟩ := r.one_inv
      have := boolsOf_rp hn r
      subst this
      exact ⟨p, bs, rfl, f.sq, k _ H (Same.refl H) rfl⟩
    · cases hg
  · cases hg
theorem ei_any {f : AF} {p : Pos} (hc : X.calm = true) (hm : X.mg "any" = none) (hg : Gl X "any") (ha : EA X [a] f)
    (hs : starEach [a] X.env = (false, eval a X.env) :: starEach [] X.env := by rfl) (hst : ((backTo pos (starEach [] X.env)).any (·.1)) = false := by rfl) : EI X (.Call (.Name "any" p) [a] [] pos) (eCall dAny f) := by
  refine ei_B (cr_any hc) ?_ hm hg (by decide +kernel) ha (by decide) (by decide) hs hst
  intro H xs ds d Q r hg k
  unfold dAny at hg
  split at hg
  · split at hg
    · rename_i bs hn
      cases hg
      obtain ⟨v, rfl, p, ys, rfl, f, r⟩ := r.one_inv
      have := boolsOf_rp hn r
      subst this
      exact ⟨p, bs, rfl, f.sq, k _ H (Same.refl H) rfl⟩
    · cases hg
  · cases hg
def seqOf : List Dt → Option (List Dt)
  | [.list ds] => some ds
  | [.tuple ds] => some ds
  | _ => none
theorem en_list {f : AF} {p : Pos} (hm : X.mg "list" = none) (hg : Gl X "list") (ha : EA X [a] f)
    (hs : starEach [a] X.env = (false, eval a X.env) :: starEach [] X.env := by rfl) (hst : ((backTo pos (starEach [] X.env)).any (·.1)) = false := by rfl) : EN X (.Call (.Name "list" p) [a] [] pos) (nCall seqOf f) := by
  refine en_Ty call_list_of ?_ hm hg (by decide +kernel) ha (by decide) (by decide) hs hst
  intro H xs ds es Q r hg k
  unfold seqOf at hg
  split at hg
  · cases hg
    obtain ⟨v, rfl, p, ys, rfl, f, r⟩ := r.one_inv
    exact ⟨p, ys, rfl, .inl f.sq, fun l hl => k l ys hl r⟩
  · cases hg
    obtain ⟨v, rfl, p, ys, rfl, f, r⟩ := r.one_inv
    exact ⟨p, ys, rfl, .inr f, fun l hl => k l ys hl r⟩
  · cases hg
def dTuple : List Dt → Option Dt
  | [.list ds] => some (.tuple ds)
  | [.tuple ds] => some (.tuple ds)
  | _ => none
theorem ei_tuple {f : AF} {p : Pos} (hm : X.mg "tuple" = none) (hg : Gl X "tuple") (ha : EA X [a] f)
    (hs : starEach [a] X.env = (false, eval a X.env) :: starEach [] X.env := by rfl) (hst : ((backTo pos (starEach [] X.env)).any (·.1)) = false := by rfl) : EI X (.Call (.Name "tuple" p) [a] [] pos) (eCall dTuple f) := by
  refine ei_Ty call_tuple_of ?_ hm hg (by decide +kernel) ha (by decide) (by decide) hs hst
  intro H xs ds es Q r hg k
  unfold dTuple at hg
  split at hg
  · cases hg
    obtain ⟨v, rfl, p, ys, rfl, f, r⟩ := r.one_inv
    exact ⟨p, ys, rfl, .inl ⟨f.sq, fun l hl => k _ _ (same_upd hl) ⟨l, ys, rfl, .inl (.inl upd_same), r.kp (.new hl)⟩⟩⟩
  · cases hg
    obtain ⟨v, rfl, p, ys, rfl, f, r⟩ := r.one_inv
    exact ⟨p, ys, rfl, .inr ⟨f, k _ H (Same.refl H) ⟨p, ys, rfl, f, r⟩⟩⟩
  · cases hg

/-! ### isinstance -/
def tyN : Dt → String
  | .none => "NoneType"
  | .bool _ => "bool"
  | .int _ => "int"
  | .str _ => "str"
  | .list _ => "list"
  | .tuple _ => "tuple"
  | .dict _ => "dict"
def isDict : Dt → Bool
  | .none => false
  | .bool _ => false
  | .int _ => false
  | .str _ => false
  | .list _ => false
  | .tuple _ => false
  | .dict _ => true
theorem tyX_of {K : Kx} {H : Hp} : ∀ {d : Dt} {v : V}, isDict d = false → Rp K H d v → TyX K H v (.type (tyN d))
  | .none, _, _, h => by cases h; exact .base .non
  | .bool b, _, _, h => by cases h; exact .base (.bl b)
  | .int i, _, _, h => by cases h; exact .base (.int i)
  | .str x, _, _, h => by cases h; exact .base (.str x)
  | .list ds, _, _, h => by
    obtain ⟨a, xs, rfl, f, _⟩ := h
    rcases f with ⟨o, f⟩ | ⟨o, its, n, h1, h2, _⟩
    · exact .base (.frz f)
    · exact .kList h1 h2
  | .tuple ds, _, _, h => by
    obtain ⟨a, xs, rfl, f, _⟩ := h
    rcases f with (f | ⟨o, f⟩) | ⟨o, its, n, h1, h2, _⟩
    · exact .base (.tup f)
    · exact .fTuple f
    · exact .kTuple h1 h2
  | .dict _, _, p, h => by simp only [isDict] at p; cases p
def dIsi (t : Dt → Bool) : List Dt → Option Dt
  | [d] => some (.bool (t d))
  | _ => none
def isInt : Dt → Bool
  | .int _ => true
  | .bool _ => true
  | _ => false
def isBool : Dt → Bool
  | .bool _ => true
  | _ => false
def isStr : Dt → Bool
  | .str _ => true
  | _ => false
def isList : Dt → Bool
  | .list _ => true
  | _ => false
def isTup : Dt → Bool
  | .tuple _ => true
  | _ => false
def KitOk (T : String) (t : Dt → Bool) : Prop := ∀ d, (match d with | .dict _ => False | _ => True) → kitB (tyN d) T = some (t d)
theorem kit_int : KitOk "int" isInt := fun d h => by cases d <;> first | exact h.elim | (simp only [tyN, isInt]; decide +kernel)
theorem kit_bool : KitOk "bool" isBool := fun d h => by cases d <;> first | exact h.elim | (simp only [tyN, isBool]; decide +kernel)
theorem kit_str : KitOk "str" isStr := fun d h => by cases d <;> first | exact h.elim | (simp only [tyN, isStr]; decide +kernel)
theorem kit_list : KitOk "list" isList := fun d h => by cases d <;> first | exact h.elim | (simp only [tyN, isList]; decide +kernel)
theorem kit_tup : KitOk "tuple" isTup := fun d h => by cases d <;> first | exact h.elim | (simp only [tyN, isTup]; decide +kernel)
def eIsi (t : Dt → Bool) (f : EF) : EF := fun env => match f env with
  | some (d, e) => if isDict d = true then none else some (.bool (t d), e)
  | none => none
theorem ei_isi {T : String} {y : Str} {t : Dt → Bool} {f : EF} {p p2 : Pos} (kt : KitOk T t) (hm : X.mg "isinstance" = none) (hg : Gl X "isinstance") (hmT : X.mg y = none) (hgT : Gl X y) (hb : bootBuiltins y = some (.type T)) (h : EI X e f) (hn : y ≠ "__name__" := by decide) (hd : (y == ("__debug__" : Str)) = false := by decide)
    (hs : starEach [e, .Name y p2] X.env = (false, eval e X.env) :: starEach [.Name y p2] X.env := by rfl) (hs2 : starEach [.Name y p2] X.env = (false, eval (.Name y p2) X.env) :: starEach [] X.env := by rfl)
    (hst : ((backTo pos (starEach [.Name y p2] X.env)).any (·.1)) = false := by rfl) : EI X (.Call (.Name "isinstance" p) [e, .Name y p2] [] pos) (eIsi t f) := by
  obtain ⟨te, h1, h2⟩ := h
  refine ⟨_, pe_callB call_isi hg hm (by decide +kernel) (pa_cons h1 (pa_cons (pe_bltn (v := .ty T) hgT hmT hb rfl hn hd) pa_nil hs2) hs) (by decide) (by decide) hs hst, fun O H0 H σ env τ ts d env' Q S h k => ?_⟩
  unfold eIsi at h
  split at h
  · rename_i d' e1 he
    split at h
    · cases h
    · rename_i hnd
      have hnd' : isDict d' = false := by simpa using hnd
      cases h
      refine h2 O H0 H σ env τ ts d' _ _ S he fun v H1 S1 => ?_
      have rv := S1.rp
      refine ⟨v, .ty T, _, _, t d', rfl, .ty T, tyX_of hnd' rv, kit_ty (kt d' ?_), k _ H1 (S1.pop.push rfl)⟩
      cases d' <;> first | trivial | (simp only [isDict] at hnd'; cases hnd')
  · cases h

/-! ### a new list times an int -/
def nRep (fa : NF) (fb : EF) : NF := fun env => match fa env with
  | some (ds, e1) => match fb e1 with
    | some (.int k, e2) => if -(2 ^ 63) ≤ k ∧ k < 2 ^ 63 ∧ ds.length * k.toNat ≤ 10000000 then some ((List.replicate k.toNat ds).flatten, e2) else none
    | _ => none
  | none => none
theorem RpL.rep {K : Kx} {H : Hp} {ds : List Dt} {xs : List V} (r : RpL K H ds xs) : ∀ n : Nat, RpL K H (List.replicate n ds).flatten (List.replicate n xs).flatten
  | 0 => rfl
  | n + 1 => by
    rw [List.replicate_succ, List.replicate_succ, List.flatten_cons, List.flatten_cons]
    exact r.append (RpL.rep r n)
theorem en_rep {fa : NF} {fb : EF} (ha : EN X a fa) (hb : EI X b fb) : EN X (.BinOp a .Mult b pos) (nRep fa fb) := by
  obtain ⟨ta, h1, h2⟩ := ha
  obtain ⟨tb, h3, h4⟩ := hb
  refine ⟨_, pe_op op_rep h1 h3, fun O H0 H σ env τ ts d env' Q S h k => ?_⟩
  unfold nRep at h
  split at h
  · rename_i ds e1 he1
    split at h
    · rename_i j e2 he2
      split at h
      · rename_i hc
        cases h
        refine h2 O H0 H σ env τ ts ds e1 _ S he1 fun v H1 S1 => ?_
        refine h4 O H0 H1 σ e1 _ _ _ _ _ S1 he2 fun w H2 S2 => ?_
        have rw' := S2.rp
        have S3 := S2.pop
        obtain ⟨l, xs, rfl, hl, r⟩ := S3.topO
        refine ⟨l, j, xs, rfl, rw', hl, hc.1, hc.2.1, Nat.le_trans (by rw [r.length]; exact hc.2.2) (by decide), fun p hp => k _ _ ?_⟩
        exact S3.pop.pushNew hp (r.rep _)
      · cases h
    · cases h
  · cases h

/-! ### == of an own list -/
def eEqO (neg : Bool) (i : Nat) (f : EF) : EF := fun env => match owAt env i with
  | some _ => match f env with
    | some (d, e1) => match owAt e1 i with
      | some (_, ds) => if okL 39 ds && okD 40 d then some (.bool (if neg then !PyData.eqv (.list ds) d else PyData.eqv (.list ds) d), e1) else none
      | none => none
    | none => none
  | none => none
def rEqO (K : Kx) (neg : Bool) : R2 := fun x y H Q => ∃ a xs ds d, x = .ref a ∧ SqL K H a xs ∧ RpL K H ds xs ∧ Rp K H d y ∧ okL 39 ds = true ∧ okD 40 d = true ∧ Q (.bl (if neg then !PyData.eqv (.list ds) d else PyData.eqv (.list ds) d)) H
theorem op_eqO (hu : X.A.units + 64 < cLine) : OpR X (compareOp .Eq) (rEqO X.kx false) := by
  intro pins s σ H x y v u Q I rx ry h
  obtain ⟨a, xs, ds, d, rfl, hs, hr, hd, o1, o2, q⟩ := h
  obtain ⟨p1, p2⟩ := okD_plain (.list ds) 40 (by simpa [okD] using o1)
  obtain ⟨p3, p4⟩ := okD_plain d 40 o2
  obtain ⟨bs, r2⟩ := rp_reads I p3 hd ry
  obtain ⟨as, r1⟩ := Dp.reads I (.list ds) (.ref a) v (.lst hs (dpAll_of ds xs (by simpa only [PyData.plain] using p1) hr)) rx
  exact PySem.SeqAt.eq_plain r1 r2 p1 p3 (by omega) ⟨.bl _, H, I, rfl, q⟩
theorem op_neO (hu : X.A.units + 64 < cLine) : OpR X (compareOp .NotEq) (rEqO X.kx true) := by
  intro pins s σ H x y v u Q I rx ry h
  obtain ⟨a, xs, ds, d, rfl, hs, hr, hd, o1, o2, q⟩ := h
  obtain ⟨p1, p2⟩ := okD_plain (.list ds) 40 (by simpa [okD] using o1)
  obtain ⟨p3, p4⟩ := okD_plain d 40 o2
  obtain ⟨bs, r2⟩ := rp_reads I p3 hd ry
  obtain ⟨as, r1⟩ := Dp.reads I (.list ds) (.ref a) v (.lst hs (dpAll_of ds xs (by simpa only [PyData.plain] using p1) hr)) rx
  exact PySem.SeqAt.ne_plain r1 r2 p1 p3 (by omega) ⟨.bl _, H, I, rfl, q⟩
theorem runs_eqO {K : Kx} {neg : Bool} {i : Nat} {f : EF} {t : TE} (h2 : RunsI K t f) : RunsI K (tOp (rEqO K neg) (tVar i) t) (eEqO neg i f) := by
  intro O H0 H σ env τ ts d env' Q S h k
  unfold eEqO at h
  split at h
  · rename_i p0 ho0
    split at h
    · rename_i d1 e1 he
      split at h
      · rename_i io ds ho
        split at h
        · rename_i hc
          cases h
          rw [Bool.and_eq_true] at hc
          obtain ⟨a0, xs0, hw, hH0, _⟩ := S.own (io := p0.1) (ds := p0.2) ho0
          refine ⟨.ref a0, hw, h2 O H0 H σ env τ ts d1 _ _ S he fun v H1 S1 => ?_⟩
          obtain ⟨a, xs, hw1, hH1, hr1⟩ := S1.own ho
          rw [hw] at hw1; cases hw1
          exact ⟨_, xs, ds, d1, rfl, .inl (.inl hH1), hr1, S1.rp, hc.1, hc.2, k _ H1 (S1.pop.push rfl)⟩
        · cases h
      · cases h
    · cases h
  · cases h
theorem et_eqO {i : Nat} {x : Str} {f : EF} {p : Pos} (hu : X.A.units + 64 < cLine) (hN : X.N[i]? = some x) (hv : Vis X.env.scope x) (h : EI X e f) (hm : behindInMarks .Eq e = false) (hd : (x == ("__debug__" : Str)) = false := by decide) (hcd : (x == ("__classdict__" : Str)) = false := by decide) :
    ET X (.Compare (.Name x p) [.Eq] [e] pos) (tVal (eEqO false i f)) := by
  obtain ⟨t, h1, h2⟩ := h
  exact ⟨_, pt_cmpR (op_eqO hu) (pe_var hN hv hd hcd) h1 hm, runs_tst (runs_eqO h2)⟩
theorem et_neO {i : Nat} {x : Str} {f : EF} {p : Pos} (hu : X.A.units + 64 < cLine) (hN : X.N[i]? = some x) (hv : Vis X.env.scope x) (h : EI X e f) (hm : behindInMarks .NotEq e = false) (hd : (x == ("__debug__" : Str)) = false := by decide) (hcd : (x == ("__classdict__" : Str)) = false := by decide) :
    ET X (.Compare (.Name x p) [.NotEq] [e] pos) (tVal (eEqO true i f)) := by
  obtain ⟨t, h1, h2⟩ := h
  exact ⟨_, pt_cmpR (op_neO hu) (pe_var hN hv hd hcd) h1 hm, runs_tst (runs_eqO h2)⟩
end
section
variable {X : Cx} {e a b c : Expr} {es : List Expr} {pos : Pos}
/-! ### what a name holds, own or not, read in place -/
def valAt (env : Nv) (i : Nat) : Option Dt := match env[i]? with
  | some (some (.im d)) => some d
  | some (some (.ow _ ds)) => some (.list ds)
  | _ => none
/-- readable as d just now -/
def Rv (K : Kx) (H : Hp) (d : Dt) (v : V) : Prop := Rp K H d v ∨ ∃ a xs ds, d = .list ds ∧ v = .ref a ∧ SqL K H a xs ∧ RpL K H ds xs
theorem Sg.val {K : Kx} {O : Ow} {H0 H : Hp} {σ τ : L2.St} {env ts : Nv} (S : Sg K O H0 H σ env τ ts) {i : Nat} {d : Dt} (h : valAt env i = some d) : ∃ v, σ[i]? = some (some v) ∧ Rv K H d v := by
  unfold valAt at h
  split at h
  · rename_i d' he
    cases h
    obtain ⟨v, h1, h2⟩ := S.slotI he
    exact ⟨v, h1, .inl h2⟩
  · rename_i io ds he
    cases h
    obtain ⟨v, h1, a, xs, rfl, h3, h4⟩ := S.slotO he
    exact ⟨_, h1, .inr ⟨a, xs, ds, rfl, rfl, .inl (.inl h3), h4⟩⟩
  · cases h
theorem Rv.dp {K : Kx} {H : Hp} {d : Dt} {v : V} (p : d.plain = true) (h : Rv K H d v) : Dp K H v d := by
  rcases h with h | ⟨a, xs, ds, rfl, rfl, h1, h2⟩
  · exact dp_of d v p h
  · exact .lst h1 (dpAll_of ds xs (by simpa only [PyData.plain] using p) h2)
def eOpV (g : Dt → Dt → Option Dt) (i : Nat) (f : EF) : EF := fun env => match valAt env i with
  | some _ => match f env with
    | some (y, e1) => match valAt e1 i with
      | some x => match g x y with
        | some z => some (z, e1)
        | none => none
      | none => none
    | none => none
  | none => none
def OpV (K : Kx) (r : R2) (g : Dt → Dt → Option Dt) : Prop := ∀ (H : Hp) (x y : V) (a b d : Dt) (Q : VK), Rv K H a x → Rp K H b y → g a b = some d → (∀ v H', Same H H' → Rp K H' d v → Q v H') → r x y H Q
theorem runs_opV {K : Kx} {r : R2} {g : Dt → Dt → Option Dt} {i : Nat} {t : TE} {f : EF} (hr : OpV K r g) (h2 : RunsI K t f) : RunsI K (tOp r (tVar i) t) (eOpV g i f) := by
  intro O H0 H σ env τ ts d env' Q S h k
  unfold eOpV at h
  split at h
  · rename_i d0 h0
    split at h
    · rename_i y e1 he
      split at h
      · rename_i x hx
        split at h
        · rename_i z hz
          cases h
          obtain ⟨v, hv, _⟩ := S.val h0
          refine ⟨v, hv, h2 O H0 H σ env τ ts y _ _ S he fun w H1 S1 => ?_⟩
          obtain ⟨v', hv', rv⟩ := S1.val hx
          rw [hv] at hv'; cases hv'
          exact hr H1 v w x y d Q rv S1.rp hz fun u H' e r => k u H' ((S1.pop.same e).push r)
        · cases h
      · cases h
    · cases h
  · cases h
theorem ov_ix {K : Kx} : OpV K (rIx K) dIx := by
  intro H x y a b d Q ra rb hg k
  rcases ra with ra | ⟨p, xs, ds, rfl, rfl, h1, h2⟩
  · exact od_ix H x y a b d Q ra rb hg k
  · unfold dIx at hg
    split at hg
    · rename_i hh
      cases hh
      obtain ⟨v, g1, g2⟩ := h2.atI hg
      exact .inl ⟨p, xs, _, v, rfl, rb, h1, g1, k v H (Same.refl H) g2⟩
    · rename_i hh; cases hh
    · rename_i hh; cases hh
    · cases hg
theorem ei_ixV {i : Nat} {x : Str} {f : EF} {p : Pos} (h : EI X e f) (hs : PlainIx e) (hN : X.N[i]? = some x := by rfl) (hv : Vis X.env.scope x := by first | exact Or.inl rfl | exact Or.inr (Or.inl rfl) | exact Or.inr (Or.inr rfl)) (hd : (x == ("__debug__" : Str)) = false := by decide) (hcd : (x == ("__classdict__" : Str)) = false := by decide) :
    EI X (.Subscript (.Name x p) e pos) (eOpV dIx i f) := by
  obtain ⟨t, g1, g2⟩ := h
  exact ⟨_, pe_ix ix_seq (pe_var hN hv hd hcd) g1 hs, runs_opV ov_ix g2⟩
def rDatV (K : Kx) (g : Dt → Dt → Option Bool) : R2 := fun x y H Q => ∃ a b k, Rv K H a x ∧ Rp K H b y ∧ g a b = some k ∧ Q (.bl k) H
theorem ov_dat {K : Kx} {g : Dt → Dt → Option Bool} {g' : Dt → Dt → Option Dt} (h : ∀ a b d, g' a b = some d → ∃ k, d = .bool k ∧ g a b = some k) : OpV K (rDatV K g) g' := by
  intro H x y a b d Q ra rb hg k
  obtain ⟨b', rfl, h'⟩ := h a b d hg
  exact ⟨a, b, b', ra, rb, h', k _ H (Same.refl H) rfl⟩
theorem op_eqV (hu : X.A.units + 64 < cLine) : OpR X (compareOp .Eq) (rDatV X.kx gEq) := by
  intro pins s σ H x y v u Q I rx ry h
  obtain ⟨a, b, k, ra, rb, hg, q⟩ := h
  unfold gEq at hg
  split at hg
  · rename_i hc
    cases hg
    rw [Bool.and_eq_true] at hc
    obtain ⟨p1, p2⟩ := okD_plain a 40 hc.1
    obtain ⟨p3, p4⟩ := okD_plain b 40 hc.2
    obtain ⟨as, r1⟩ := Dp.reads I a x v (ra.dp p1) rx
    obtain ⟨bs, r2⟩ := rp_reads I p3 rb ry
    exact PySem.SeqAt.eq_plain r1 r2 p1 p3 (by omega) ⟨.bl _, H, I, rfl, q⟩
  · cases hg
theorem op_neV (hu : X.A.units + 64 < cLine) : OpR X (compareOp .NotEq) (rDatV X.kx gNe) := by
  intro pins s σ H x y v u Q I rx ry h
  obtain ⟨a, b, k, ra, rb, hg, q⟩ := h
  unfold gNe at hg
  split at hg
  · rename_i hc
    cases hg
    rw [Bool.and_eq_true] at hc
    obtain ⟨p1, p2⟩ := okD_plain a 40 hc.1
    obtain ⟨p3, p4⟩ := okD_plain b 40 hc.2
    obtain ⟨as, r1⟩ := Dp.reads I a x v (ra.dp p1) rx
    obtain ⟨bs, r2⟩ := rp_reads I p3 rb ry
    exact PySem.SeqAt.ne_plain r1 r2 p1 p3 (by omega) ⟨.bl _, H, I, rfl, q⟩
  · cases hg
theorem ov_eq {K : Kx} : OpV K (rDatV K gEq) dEq := ov_dat fun a b d h => by
  unfold dEq at h; unfold gEq
  split at h
  · rename_i hc; cases h; exact ⟨_, rfl, by rw [if_pos hc]⟩
  · cases h
theorem ov_ne {K : Kx} : OpV K (rDatV K gNe) dNe := ov_dat fun a b d h => by
  unfold dNe at h; unfold gNe
  split at h
  · rename_i hc; cases h; exact ⟨_, rfl, by rw [if_pos hc]⟩
  · cases h
theorem ei_cmpV {op : CmpOp} {r : R2} {g : Dt → Dt → Option Dt} {i : Nat} {x : Str} {f : EF} {p : Pos} (ho : OpR X (compareOp op) r) (hr : OpV X.kx r g) (h : EI X e f) (hm : behindInMarks op e = false) (hN : X.N[i]? = some x := by rfl) (hv : Vis X.env.scope x := by first | exact Or.inl rfl | exact Or.inr (Or.inl rfl) | exact Or.inr (Or.inr rfl)) (hd : (x == ("__debug__" : Str)) = false := by decide) (hcd : (x == ("__classdict__" : Str)) = false := by decide) :
    EI X (.Compare (.Name x p) [op] [e] pos) (eOpV g i f) := by
  obtain ⟨t, g1, g2⟩ := h
  exact ⟨_, pe_cmpR ho (pe_var hN hv hd hcd) g1 hm, runs_opV hr g2⟩
theorem et_cmpV {op : CmpOp} {r : R2} {g : Dt → Dt → Option Dt} {i : Nat} {x : Str} {f : EF} {p : Pos} (ho : OpR X (compareOp op) r) (hr : OpV X.kx r g) (h : EI X e f) (hm : behindInMarks op e = false) (hN : X.N[i]? = some x := by rfl) (hv : Vis X.env.scope x := by first | exact Or.inl rfl | exact Or.inr (Or.inl rfl) | exact Or.inr (Or.inr rfl)) (hd : (x == ("__debug__" : Str)) = false := by decide) (hcd : (x == ("__classdict__" : Str)) = false := by decide) :
    ET X (.Compare (.Name x p) [op] [e] pos) (tVal (eOpV g i f)) := by
  obtain ⟨t, g1, g2⟩ := h
  exact ⟨_, pt_cmpR ho (pe_var hN hv hd hcd) g1 hm, runs_tst (runs_opV hr g2)⟩
def eLenV (i : Nat) : EF := fun env => match valAt env i with
  | some d => match dLen [d] with
    | some z => some (z, env)
    | none => none
  | none => none
theorem ei_lenV {i : Nat} {x : Str} {p p2 : Pos} (hm : X.mg "len" = none) (hg : Gl X "len") (hN : X.N[i]? = some x := by rfl) (hv : Vis X.env.scope x := by first | exact Or.inl rfl | exact Or.inr (Or.inl rfl) | exact Or.inr (Or.inr rfl)) (hd : (x == ("__debug__" : Str)) = false := by decide) (hcd : (x == ("__classdict__" : Str)) = false := by decide)
    (hs : starEach [.Name x p] X.env = (false, eval (.Name x p) X.env) :: starEach [] X.env := by rfl) (hst : ((backTo pos (starEach [] X.env)).any (·.1)) = false := by rfl) :
    EI X (.Call (.Name "len" p2) [.Name x p] [] pos) (eLenV i) := by
  refine ⟨_, pe_callB (CallR.or call_len_seq call_len_str) hg hm PySem.boot_len (pa_cons (pe_var hN hv hd hcd) pa_nil hs) (by decide) (by decide) hs hst, fun O H0 H σ env τ ts d env' Q S h k => ?_⟩
  unfold eLenV at h
  split at h
  · rename_i d0 h0
    split at h
    · rename_i z hz
      cases h
      obtain ⟨v, hv, rv⟩ := S.val h0
      refine ⟨v, hv, ?_⟩
      rcases rv with rv | ⟨a, xs, ds, rfl, rfl, h1, h2⟩
      · unfold dLen at hz
        split at hz
        · rename_i ds hh
          cases hh
          cases hz
          obtain ⟨p, ys, rfl, f, r⟩ := rv
          refine .inl ⟨p, ys, rfl, .inl f.sq, ?_⟩
          rw [r.length]; exact k _ H (S.push rfl)
        · rename_i ds hh
          cases hh
          cases hz
          obtain ⟨p, ys, rfl, f, r⟩ := rv
          refine .inl ⟨p, ys, rfl, .inr f, ?_⟩
          rw [r.length]; exact k _ H (S.push rfl)
        · rename_i z' hh
          cases hh
          split at hz
          · rename_i hl
            cases hz
            cases rv
            exact .inr ⟨_, rfl, Nat.le_trans hl (by decide), k _ H (S.push rfl)⟩
          · cases hz
        · cases hz
      · cases hz
        refine .inl ⟨a, xs, rfl, .inl h1, ?_⟩
        rw [h2.length]; exact k _ H (S.push rfl)
    · cases h
  · cases h
end

/-! ### the ends -/
theorem fnok_of {P : Program} {w : World} {K : PySem.W.Frag} {mg : Str → Option Value} {base : Heap} {x : Str} {st : Stmt} {N ps : List Str} {k m n : Nat} {g : SF} {f : Addr} {fd : FuncData} (F : Fun K x x st f fd) (S : FnScope N ps (defScope st)) (hm : ps.length = m) (hn : N.length = m + n)
    (B : ∀ (f : Addr) (cdv : Value) (A : Around) (outer : List PySem.Env) (s : Shared) (H : Hp) (E : XK), Room k (A.deeper (PyProof.Rows.envOfC x (defScope st) s.heap.objs.size f cdv)) →
      SXs (cxOf CX0 P w K mg base N x (defScope st) f cdv A outer s H E).nox (defBody st) g) : FnOk P w K mg base CX0 (k + 1) f fd ps (SpP ⟨K, w⟩ (fnP m n g)) := by
  refine F.ok S (fun vs H Q E h => ?_) (fun cdv A outer s H vs Q E hr h => ?_)
  · obtain ⟨ds, d, r, hf, _⟩ := h
    unfold fnP at hf
    split at hf
    · rename_i hl
      rw [r.length, hl, hm]
    · cases hf
  · obtain ⟨ds, d, r, hf, q⟩ := h
    unfold fnP at hf
    split at hf
    · rename_i hl
      obtain ⟨t, h1, h2⟩ := B f cdv A outer s H E hr
      refine ⟨t, h1, ?_⟩
      have hv : vs.length = m := by rw [r.length, hl]
      have e1 : L2.start N vs = vs.map some ++ List.replicate n none := by
        unfold L2.start
        rw [hn, hv, show m + n - m = n by omega]
      rw [e1]
      have S0 := sto_start (O := Ow.nil) (fun _ z => z.elim) n r
      unfold retD at hf
      split at hf
      · rename_i d' e' ho
        cases hf
        exact h2 _ _ _ _ _ _ _ _ _ S0 ho fun v σ H' S' => q v H' (fun a u ha => S'.st.frame a u ha id) S'.rp
      · rename_i e' ho
        cases hf
        exact h2 _ _ _ _ _ _ _ _ _ S0 ho fun σ H' S' => q .non H' (fun a u ha => S'.st.frame a u ha id) rfl
      · cases hf
    · cases hf
theorem has_mk {K : PySem.W.Frag} {h : Heap} {mg : Str → Option Value} {x : Str} {st : Stmt} {ps : List Str} {f : Addr} {od an : Option Addr} {sl : Array (Option Value)} {oc kV dc pm cd ct : Value} (KX : K.In h) (G : h.Ns mainGlobals mg)
    (hb : ∀ (kV doc pm : Value) (an : Option Addr) (cdv ct : Value) (us : List Value), us.length = ps.length → bindArgs (PySem.W.fnOf x x (defArgs st) (defBody st) (defScope st) .none kV doc pm an cdv ct) ⟨us, []⟩ = pure (ps.zip us))
    (a : PySem.W.nsIn K mainGlobals x = some (some (.ref f))) (l : K.lookup f = some ⟨oc, od, .func (PySem.W.fnOf x x (defArgs st) (defBody st) (defScope st) .none kV dc pm an cd ct), sl⟩) (c : PySem.W.codeIn K cd x = true) (k : PySem.W.keepIn K (.ref f) = true) : Has K mg x st ps :=
  ⟨f, _, fun_mk l c k, (fun_mk l c k).binds hb, PySem.W.mg_of KX G a⟩
/-- the law holds at each script -/
theorem law_sp {K : Kx} {H : Hp} {a : Addr} {ns : List Int} {f : List Dt → Option Dt} (hO : Only H) (hS : SqL K H a (ns.map V.int)) (hf : f [.list (ns.map PyData.int)] = some (.bool true)) : SpP K f [.ref a] H (fun v _ => v = .bl true) fun _ _ _ => False := by
  have ri : ∀ (ns : List Int), RpL K H (ns.map PyData.int) (ns.map V.int) := fun ns => by
    induction ns with
    | nil => rfl
    | cons n r ih => exact ⟨.int n, _, rfl, rfl, ih⟩
  refine ⟨[.list (ns.map PyData.int)], .bool true, ?_, hf, fun v H' _ r => r⟩
  refine .one ⟨a, ns.map V.int, rfl, ?_, ri ns⟩
  rcases hS with (h | ⟨o, h⟩) | h
  · rcases hO a with e | ⟨o, xs, e⟩
    · rw [e] at h; cases h
    · rw [e] at h; cases h
  · exact .inl ⟨o, h⟩
  · exact .inr h
section
variable {X : Cx} {e a b c : Expr} {es : List Expr} {pos : Pos}
/-- a module's constant -/
def CstOk (K : PySem.W.Frag) (mg : Str → Option Value) (x : Str) (d : Dt) : Prop := ∃ v u, mg x = some u ∧ RelV v u ∧ ∀ w H, Rp ⟨K, w⟩ H d v
theorem ei_cst {x : Str} {d : Dt} (hg : Gl X x) (h : CstOk X.K X.mg x d) (hd : (x == ("__debug__" : Str)) = false := by decide) : EI X (.Name x pos) (eC d) := by
  obtain ⟨v, u, h1, h2, h3⟩ := h
  exact ei_glob hg h1 h2 (h3 _) hd
def sRetN : SF := fun env => some (.rt .none env)
theorem sx_retN : SX X (.Return none pos) sRetN := ⟨_, ps_retN, fun O H0 H σ env τ ts out D S h k => by
  cases h
  exact k .non σ H (S.push rfl)⟩
/-- name op= e, ints -/
def sAug (g : Int → Int → Int) (i : Nat) (f : EF) : SF := fun env => match env[i]? with
  | some (some (.im (.int x))) => match f env with
    | some (.int y, e) => some (.nx (e.set i (some (.im (.int (g x y))))))
    | _ => none
  | _ => none
theorem sx_aug {g : Int → Int → Int} {op : Operator} {i : Nat} {x : Str} {f : EF} {pos' : Pos} (ho : PIp X op (ipI g)) (hN : X.N.Nodup) (hi : X.N[i]? = some x) (hx : Loc X.env.scope x) (h : EI X e f)
    (hf : X.fn x = true ∨ X.env.scope.names.lookup x = some .local := by first | exact .inl rfl | exact .inr rfl | assumption) : SX X (.AugAssign (.Name x pos') op e pos) (sAug g i f) := by
  obtain ⟨t, h1, h2⟩ := h
  refine ⟨_, ps_aug hN hi hx h1 ho hf, fun O H0 H σ env τ ts out D S h k => ?_⟩
  unfold sAug at h
  split at h
  · rename_i x0 h0
    split at h
    · rename_i y e1 he
      cases h
      obtain ⟨v, hv, rv⟩ := S.slotI h0
      cases rv
      refine ⟨_, hv, h2 O H0 H σ env τ ts _ _ _ S he fun w H1 S1 => ?_⟩
      have rw' := S1.rp
      exact ⟨x0, y, rfl, rw', k _ H1 ((S1.pop.push (d := .int (g x0 y)) (v := .int (g x0 y)) rfl).put i)⟩
    · cases h
  · cases h
end
/-! ### keys as the library reads them -/
section
variable {X : Cx} {pins : List (Addr × Obj)} {σ : L2.St} {H : Hp} {s : Shared}
mutual
theorem key_is (I : L2.Inv X pins σ H s) : ∀ (d : Dt) (k : NestedKey) (v : V) (u : Value), kOf d = some k → Rp X.kx H d v → RelV v u → NestedIs s.heap k u
  | .none, k, v, u, hk, r, ru => by
    cases hk; cases r; cases (show u = .none from ru); exact .none
  | .bool b, k, v, u, hk, r, ru => by
    cases hk; cases r; cases (show u = .bool b from ru); exact .bool rfl
  | .int i, k, v, u, hk, r, ru => by
    cases hk; cases r
    obtain ⟨t, rfl⟩ := (show ∃ t, u = .int i t from ru)
    exact .int i t
  | .str x, k, v, u, hk, r, ru => by
    cases hk; cases r
    obtain ⟨t, rfl⟩ := (show ∃ t, u = .str x t from ru)
    exact .text x t
  | .tuple ds, k, v, u, hk, r, ru => by
    obtain ⟨a, xs, rfl, f, rx⟩ := r
    cases (show u = .ref a from ru)
    unfold kOf at hk
    cases hks : ksOf ds with
    | none => rw [hks] at hk; cases hk
    | some ks =>
      rw [hks] at hk
      cases hk
      obtain ⟨its, rv, ⟨o, ho, hc, n, hd⟩, _⟩ := I.tuple f
      exact .tup ho hc hd (by simpa using keys_are I ds ks xs its hks rx rv)
  | .list _, k, v, u, hk, r, ru => by cases hk
  | .dict _, k, v, u, hk, r, ru => by cases hk
theorem keys_are (I : L2.Inv X pins σ H s) : ∀ (ds : List Dt) (ks : List NestedKey) (vs : List V) (us : List Value), ksOf ds = some ks → RpL X.kx H ds vs → Vals vs us → NestedAll s.heap ks us
  | [], ks, vs, us, hk, r, ru => by
    cases hk; cases r; cases ru; exact .nil
  | d :: ds, ks, vs, us, hk, r, ru => by
    obtain ⟨v, r', rfl, h1, h2⟩ := r
    cases ru with
    | cons q1 q2 =>
      unfold ksOf at hk
      cases e1 : kOf d with
      | none => rw [e1] at hk; cases hk
      | some k =>
        rw [e1] at hk
        cases e2 : ksOf ds with
        | none => rw [e2] at hk; cases hk
        | some ks' =>
          rw [e2] at hk
          cases hk
          exact .cons (key_is I d k v _ e1 h1 q1) (keys_are I ds ks' r' _ e2 h2 q2)
end
theorem keyOf_k {d : Dt} {k : NestedKey} (h : keyOf d = some k) : kOf d = some k ∧ k.depth ≤ 8 ∧ ∃ ds, d = .tuple ds := by
  unfold keyOf at h
  split at h
  · rename_i ds
    split at h
    · rename_i k' hk
      split at h
      · rename_i hd
        cases h
        exact ⟨hk, hd, ds, rfl⟩
      · cases h
    · cases h
  · cases h
/-- the key y, as a value -/
def IsK (K : Kx) (H : Hp) (y : V) (k : NestedKey) : Prop := ∃ d, keyOf d = some k ∧ Rp K H d y
theorem IsK.ref {K : Kx} {H : Hp} {y : V} {k : NestedKey} (h : IsK K H y k) : ∃ b, y = .ref b := by
  obtain ⟨d, h1, h2⟩ := h
  obtain ⟨_, _, ds, rfl⟩ := keyOf_k h1
  obtain ⟨a, _, rfl, _⟩ := h2
  exact ⟨a, rfl⟩
theorem IsK.is (I : L2.Inv X pins σ H s) {b : Addr} {k : NestedKey} (h : IsK X.kx H (.ref b) k) : (nestedKind X.prog X.w).is s.heap k b := by
  obtain ⟨d, h1, h2⟩ := h
  obtain ⟨h3, h4, _⟩ := keyOf_k h1
  exact ⟨key_is I d k _ _ h3 h2 rfl, h4⟩
end

/-! ### entries -/
def valE (es : List Ent) (k : NestedKey) : Option V := match es with
  | [] => none
  | p :: r => if p.1 = k then some p.2.2 else valE r k
def setE (k : NestedKey) (v : V) (p : Ent) : Ent := if p.1 = k then (p.1, p.2.1, v) else p
def putE (es : List Ent) (k : NestedKey) (b : Addr) (v : V) : List Ent := if (valE es k).isSome = true then es.map (setE k v) else es ++ [(k, b, v)]
def KeysOk (K : Kx) (H : Hp) (es : List Ent) : Prop := ∀ p ∈ es, IsK K H (.ref p.2.1) p.1
abbrev ExRel : List Ent → List (NestedKey × Addr × Value) → Prop := Paired fun p q => p.1 = q.1 ∧ p.2.1 = q.2.1 ∧ RelV p.2.2 q.2.2
theorem ents_of {w : World} {P : Program} : ∀ {es : List Ent} {ar : List DictEntry}, Paired (EntOk w) es ar → ∃ xs, ExRel es xs ∧ ar = xs.map (entryOfKey (nestedKind P w))
  | _, _, .nil => ⟨[], .nil, rfl⟩
  | p :: es, e :: ar, .cons h t => by
    obtain ⟨xs, h1, h2⟩ := ents_of (P := P) t
    obtain ⟨g1, g2, g3⟩ := h
    refine ⟨(p.1, p.2.1, e.val) :: xs, .cons ⟨rfl, rfl, g3⟩ h1, ?_⟩
    rw [List.map_cons, ← h2]
    congr 1
    cases e
    simp only [entryOfKey, nestedKind] at *
    rw [g1, g2]
theorem ents_to {w : World} {P : Program} : ∀ {es : List Ent} {xs : List (NestedKey × Addr × Value)}, ExRel es xs → Paired (EntOk w) es (xs.map (entryOfKey (nestedKind P w)))
  | _, _, .nil => .nil
  | p :: es, q :: xs, .cons h t => by
    obtain ⟨g1, g2, g3⟩ := h
    refine .cons ⟨?_, ?_, g3⟩ (ents_to t)
    · show q.1.hash w = p.1.hash w
      rw [g1]
    · show Value.ref q.2.1 = .ref p.2.1
      rw [g2]
theorem ExRel.keys : ∀ {es : List Ent} {xs : List (NestedKey × Addr × Value)}, ExRel es xs → es.map (·.1) = xs.map (·.1)
  | _, _, .nil => rfl
  | _ :: _, _ :: _, .cons h t => by rw [List.map_cons, List.map_cons, ExRel.keys t, h.1]
theorem ExRel.val (k : NestedKey) : ∀ {es : List Ent} {xs : List (NestedKey × Addr × Value)}, ExRel es xs → RelO (valE es k) ((atKey xs k).map (·.2))
  | _, _, .nil => trivial
  | p :: es, q :: xs, .cons h t => by
    have ih := ExRel.val k t
    unfold valE
    by_cases e : p.1 = k
    · rw [if_pos e]
      have e' : q.1 = k := h.1 ▸ e
      simp only [atKey, List.find?_cons, e', decide_true, Option.map_some]
      exact h.2.2
    · rw [if_neg e]
      have e' : ¬ q.1 = k := h.1 ▸ e
      have : atKey (q :: xs) k = atKey xs k := by simp [atKey, List.find?_cons, e']
      rw [this]
      exact ih
theorem ExRel.setAll (k : NestedKey) {v : V} {u : Value} (r : RelV v u) : ∀ {es : List Ent} {xs : List (NestedKey × Addr × Value)}, ExRel es xs → ExRel (es.map (setE k v)) (xs.map (putAt k u))
  | _, _, .nil => .nil
  | p :: es, q :: xs, .cons h t => by
    refine .cons ?_ (ExRel.setAll k r t)
    unfold setE putAt
    by_cases e : p.1 = k
    · have e' : q.1 = k := h.1 ▸ e
      rw [if_pos e, if_pos e']
      exact ⟨h.1, h.2.1, r⟩
    · have e' : ¬ q.1 = k := h.1 ▸ e
      rw [if_neg e, if_neg e']
      exact h
theorem ExRel.app : ∀ {es fs : List Ent} {xs ys : List (NestedKey × Addr × Value)}, ExRel es xs → ExRel fs ys → ExRel (es ++ fs) (xs ++ ys)
  | _, _, _, _, .nil, h => h
  | _ :: _, _, _ :: _, _, .cons h t, h' => .cons h (ExRel.app t h')
theorem ExRel.put (k : NestedKey) (b : Addr) {v : V} {u : Value} (r : RelV v u) {es : List Ent} {xs : List (NestedKey × Addr × Value)} (h : ExRel es xs) : ExRel (putE es k b v) (storedH xs k b u) := by
  have q := (h.val k).isSome_eq
  rw [Option.isSome_map] at q
  unfold putE storedH
  rw [q]
  split
  · exact h.setAll k r
  · exact h.app (.cons ⟨rfl, rfl, r⟩ .nil)
theorem putE_len (es : List Ent) (k : NestedKey) (b : Addr) (v : V) : (putE es k b v).length ≤ es.length + 1 := by
  unfold putE
  split <;> simp
section
variable {X : Cx} {pins : List (Addr × Obj)} {σ : L2.St} {H : Hp} {s : Shared}
theorem dn_of (I : L2.Inv X pins σ H s) {a : Addr} {es : List Ent} (e : Rd H a (dN X.w a es)) (hk : KeysOk X.kx H es) :
    es.length ≤ sizeLine ∧ (a == sysModules) = false ∧ ∃ xs, ExRel es xs ∧ s.heap.DictOfH (nestedKind X.prog X.w) a xs := by
  obtain ⟨⟨h1, h2, h3, o, ar, ep, h4, h5, h6, h7⟩, _⟩ := e.ok I.hok
  obtain ⟨xs, g1, g2⟩ := ents_of (P := X.prog) h7
  refine ⟨h1, h2, xs, g1, o, ar, ep, h4, h5, h6, g2, fun x hx => ?_, by rw [← g1.keys]; exact h3⟩
  have : ∀ {es : List Ent} {xs : List (NestedKey × Addr × Value)}, ExRel es xs → KeysOk X.kx H es → ∀ x ∈ xs, (nestedKind X.prog X.w).is s.heap x.1 x.2.1 := by
    intro es xs r
    induction r with
    | nil => intro _ x hx; cases hx
    | cons h t ih =>
      intro hk x hx
      rcases List.mem_cons.mp hx with rfl | hx
      · rw [← h.1, ← h.2.1]
        exact IsK.is I (hk _ List.mem_cons_self)
      · exact ih (fun p hp => hk p (List.mem_cons_of_mem _ hp)) x hx
  exact this g1 hk x hx
theorem dn_new {P : Program} {w : World} {H' : Hp} {h' : Heap} {a : Addr} {es : List Ent} {xs : List (NestedKey × Addr × Value)} (z : es.length ≤ sizeLine) (hd : (a == sysModules) = false) (r : ExRel es xs) (dd : h'.DictOfH (nestedKind P w) a xs) : ObjOk P w H' h' a (dN w a es) := by
  obtain ⟨o, ar, ep, h1, h2, h3, h4, _, h5⟩ := dd
  refine ⟨⟨z, hd, by rw [r.keys]; exact h5, o, ar, ep, h1, h2, h3, by rw [h4]; exact ents_to r⟩, ⟨o, h1⟩, ?_⟩
  rintro g1 g2 ⟨q1, q2, q3, o, ar, ep, q4, q5⟩ k
  exact ⟨q1, q2, q3, o, ar, ep, k o q4, q5⟩
/-- the dict at a, its entries -/
def NDict (K : Kx) (H : Hp) (a : Addr) (es : List Ent) : Prop := Rd H a (dN K.w a es) ∧ KeysOk K H es
variable {a b : Addr} {y v : V} {u r : Value} {k : NestedKey} {es : List Ent} {A : Around} {E : Value → Shared → Prop}
theorem room8 (hu : A.units + 64 < cLine) : (nestedKind X.prog X.w).room A.in1 := by
  show A.in1.units + 8 < cLine
  rw [Around.in1_units]; omega
theorem n_getItem {Q : Value → Shared → Prop} (hu : A.units + 64 < cLine) (I : L2.Inv X pins σ H s) (d : NDict X.kx H a es) (hy : IsK X.kx H y k) (hv : valE es k = some v) (ry : RelV y u) (h : ∀ w' s', L2.Inv X pins σ H s' → RelV v w' → Q w' s') :
    wpAny (model X.prog X.w) A (getItem (.ref a) u) Q E s := by
  obtain ⟨b, rfl⟩ := hy.ref
  cases (show u = Value.ref b from ry)
  obtain ⟨z, hd, xs, rel, dd⟩ := dn_of I d.1 d.2
  obtain ⟨w', hw, rw'⟩ := RelO.some_of (v := v) (o := (atKey xs k).map (·.2)) (by rw [← hv]; exact rel.val k)
  obtain ⟨p, hp, hp2⟩ := Option.map_eq_some_iff.mp hw
  refine wpAny_getItem_heap (room8 hu) (IsK.is I hy) dd hp ?_
  rw [hp2]
  exact h w' _ (I.tok _) rw'
theorem n_in {Q : Value → Shared → Prop} (hu : A.units + 64 < cLine) (I : L2.Inv X pins σ H s) (d : NDict X.kx H a es) (hy : IsK X.kx H y k) (ry : RelV y u) (h : ∀ s', L2.Inv X pins σ H s' → Q (.bool (valE es k).isSome) s') :
    wpAny (model X.prog X.w) A (compareOp .In u (.ref a)) Q E s := by
  obtain ⟨b, rfl⟩ := hy.ref
  cases (show u = Value.ref b from ry)
  obtain ⟨z, hd, xs, rel, dd⟩ := dn_of I d.1 d.2
  refine in_keyed (room8 hu) (IsK.is I hy) hd ⟨xs, dd, rfl⟩ ?_
  have q := (rel.val k).isSome_eq
  rw [valueAt_pairsH, ← q]
  exact h _ (I.tok _)
theorem n_notIn {Q : Value → Shared → Prop} (hu : A.units + 64 < cLine) (I : L2.Inv X pins σ H s) (d : NDict X.kx H a es) (hy : IsK X.kx H y k) (ry : RelV y u) (h : ∀ s', L2.Inv X pins σ H s' → Q (.bool (!(valE es k).isSome)) s') :
    wpAny (model X.prog X.w) A (compareOp .NotIn u (.ref a)) Q E s := by
  obtain ⟨b, rfl⟩ := hy.ref
  cases (show u = Value.ref b from ry)
  obtain ⟨z, hd, xs, rel, dd⟩ := dn_of I d.1 d.2
  refine notIn_keyed (room8 hu) (IsK.is I hy) hd ⟨xs, dd, rfl⟩ ?_
  have q := (rel.val k).isSome_eq
  rw [valueAt_pairsH, ← q]
  exact h _ (I.tok _)
theorem n_setItem {Q : Unit → Shared → Prop} (hu : A.units + 64 < cLine) (I : L2.Inv X pins σ H s) (hd0 : H a = some (dN X.w a es)) (hk : KeysOk X.kx H es) (hl : es.length < sizeLine) (hy : IsK X.kx H (.ref b) k) (rv : RelV v r)
    (h : ∀ s', L2.Inv X pins σ (upd H a (dN X.w a (putE es k b v))) s' → Q () s') : wpAny (model X.prog X.w) A (setItem (.ref a) (.ref b) r) Q E s := by
  obtain ⟨z, hd, xs, rel, dd⟩ := dn_of I (.inl hd0) hk
  have hz : xs.length ≤ sizeLine := by rw [← Paired.length rel]; exact z
  refine wpAny_setItem_heap (hsz := hz) (room8 hu) (IsK.is I hy) dd fun h' dd' hs => h _ ?_
  obtain ⟨q, ar, ep, hq, _⟩ := id dd'
  refine d_write I (by rw [hd0]; exact True.intro) hs ⟨q, hq⟩ (dn_new (by have := putE_len es k b v; omega) hd (rel.put k b rv) dd')
end
/-! ### dicts as data -/
def lookD : List (Dt × Dt) → NestedKey → Option Dt
  | [], _ => none
  | p :: r, k => if keyOf p.1 = some k then some p.2 else lookD r k
def hasD : List Dt → NestedKey → Bool
  | [], _ => false
  | p :: r, k => if keyOf p = some k then true else hasD r k
def setD (k : NestedKey) (v : Dt) (p : Dt × Dt) : Dt × Dt := if keyOf p.1 = some k then (p.1, v) else p
def putD (kvs : List (Dt × Dt)) (key : Dt) (k : NestedKey) (v : Dt) : List (Dt × Dt) := if (lookD kvs k).isSome = true then kvs.map (setD k v) else kvs ++ [(key, v)]
/-- the keys alone -/
def RpK (K : Kx) (H : Hp) : List Dt → List Ent → Prop
  | [], es => es = []
  | d :: r, es => ∃ e r', es = e :: r' ∧ keyOf d = some e.1 ∧ Rp K H d (.ref e.2.1) ∧ RpK K H r r'
section
variable {K : Kx} {H H' : Hp}
theorem RpD.toK : ∀ {kvs : List (Dt × Dt)} {es : List Ent}, RpD K H kvs es → RpK K H (kvs.map (·.1)) es
  | [], _, h => h
  | (k, d) :: r, _, h => by
    obtain ⟨e, r', rfl, ⟨h1, h2, _⟩, h3⟩ := h
    exact ⟨e, r', rfl, h1, h2, RpD.toK h3⟩
theorem RowsD.toK : ∀ {kvs : List (Dt × List Dt)} {es : List Ent} {as : List Addr}, RowsD K H kvs es as → RpK K H (kvs.map (·.1)) es
  | [], _, _, h => h.1
  | p :: r, _, _, h => by
    obtain ⟨e, es', a, r', ys, rfl, rfl, h1, h2, _, _, _, h3⟩ := h
    exact ⟨e, es', rfl, h1, h2, RowsD.toK h3⟩
theorem RpK.keysOk : ∀ {ks : List Dt} {es : List Ent}, RpK K H ks es → KeysOk K H es
  | [], _, h, p, hp => by cases h; cases hp
  | d :: r, _, h, p, hp => by
    obtain ⟨e, r', rfl, h1, h2, h3⟩ := h
    rcases List.mem_cons.mp hp with rfl | hp
    · exact ⟨d, h1, h2⟩
    · exact RpK.keysOk h3 p hp
theorem RpK.has (k : NestedKey) : ∀ {ks : List Dt} {es : List Ent}, RpK K H ks es → (valE es k).isSome = hasD ks k
  | [], _, h => by cases h; rfl
  | d :: r, _, h => by
    obtain ⟨e, r', rfl, h1, h2, h3⟩ := h
    unfold valE hasD
    rw [h1]
    by_cases q : e.1 = k
    · rw [if_pos q, if_pos (by rw [q])]; rfl
    · rw [if_neg q, if_neg (fun z => q (Option.some.inj z))]
      exact RpK.has k h3
theorem RpK.length : ∀ {ks : List Dt} {es : List Ent}, RpK K H ks es → es.length = ks.length
  | [], _, h => by cases h; rfl
  | d :: r, _, h => by
    obtain ⟨e, r', rfl, h1, h2, h3⟩ := h
    simp [RpK.length h3]
theorem RpK.get : ∀ {ks : List Dt} {es : List Ent} {i : Nat} {d : Dt}, RpK K H ks es → ks[i]? = some d → ∃ e, es[i]? = some e ∧ Rp K H d (.ref e.2.1)
  | [], _, _, _, _, e => by simp at e
  | d :: ds, _, 0, _, h, e => by
    obtain ⟨v, r, rfl, _, h1, _⟩ := h
    simp at e; subst e
    exact ⟨v, rfl, h1⟩
  | d :: ds, _, i + 1, d', h, e => by
    obtain ⟨v, r, rfl, _, _, h2⟩ := h
    obtain ⟨u, e1, e2⟩ := RpK.get (i := i) h2 (by simpa using e)
    exact ⟨u, by simpa using e1, e2⟩
theorem RpD.look (k : NestedKey) : ∀ {kvs : List (Dt × Dt)} {es : List Ent} {d : Dt}, RpD K H kvs es → lookD kvs k = some d → ∃ v, valE es k = some v ∧ Rp K H d v
  | [], _, _, _, e => by cases e
  | (key, d0) :: r, _, d, h, e => by
    obtain ⟨p, r', rfl, ⟨h1, h2, h3⟩, h4⟩ := h
    unfold lookD at e
    unfold valE
    simp only [h1, Option.some.injEq] at e
    by_cases q : p.1 = k
    · rw [if_pos q] at e
      cases e
      rw [if_pos q]
      exact ⟨_, rfl, h3⟩
    · rw [if_neg q] at e
      rw [if_neg q]
      exact RpD.look k h4 e
theorem hasD_look (k : NestedKey) : ∀ kvs : List (Dt × Dt), hasD (kvs.map (·.1)) k = (lookD kvs k).isSome
  | [] => rfl
  | p :: r => by
    rw [List.map_cons]
    unfold hasD lookD
    split
    · rfl
    · exact hasD_look k r
theorem RpD.setAll (k : NestedKey) {d : Dt} {v : V} (rv : Rp K H d v) : ∀ {kvs : List (Dt × Dt)} {es : List Ent}, RpD K H kvs es → RpD K H (kvs.map (setD k d)) (es.map (setE k v))
  | [], _, h => by cases h; rfl
  | (key, d0) :: r, _, h => by
    obtain ⟨p, r', rfl, ⟨h1, h2, h3⟩, h4⟩ := h
    refine ⟨_, _, rfl, ?_, RpD.setAll k rv h4⟩
    unfold setD setE
    simp only [h1, Option.some.injEq]
    by_cases q : p.1 = k
    · rw [if_pos q, if_pos q]; exact ⟨h1, h2, rv⟩
    · rw [if_neg q, if_neg q]; exact ⟨h1, h2, h3⟩
theorem RpD.snoc {key d : Dt} {k : NestedKey} {b : Addr} {v : V} (hk : keyOf key = some k) (rk : Rp K H key (.ref b)) (rv : Rp K H d v) : ∀ {kvs : List (Dt × Dt)} {es : List Ent}, RpD K H kvs es → RpD K H (kvs ++ [(key, d)]) (es ++ [(k, b, v)])
  | [], _, h => by cases h; exact ⟨_, _, rfl, ⟨hk, rk, rv⟩, rfl⟩
  | p :: r, _, h => by
    obtain ⟨e, r', rfl, h1, h2⟩ := h
    exact ⟨e, _, rfl, h1, RpD.snoc hk rk rv h2⟩
theorem RpD.put {kvs : List (Dt × Dt)} {es : List Ent} {key d : Dt} {k : NestedKey} {b : Addr} {v : V} (h : RpD K H kvs es) (hk : keyOf key = some k) (rk : Rp K H key (.ref b)) (rv : Rp K H d v) : RpD K H (putD kvs key k d) (putE es k b v) := by
  have q := h.toK.has k
  rw [hasD_look] at q
  unfold putD putE
  rw [q]
  split
  · exact h.setAll k rv
  · exact h.snoc hk rk rv
end

/-! ### dicts, by their slots -/
def odAt (env : Nv) (i : Nat) : Option (Bool × List (Dt × Dt)) := match env[i]? with
  | some (some (.od io kvs)) => some (io, kvs)
  | _ => none
theorem odAt_eq {env : Nv} {i : Nat} {io : Bool} {kvs : List (Dt × Dt)} (h : odAt env i = some (io, kvs)) : env[i]? = some (some (.od io kvs)) := by
  unfold odAt at h
  split at h
  · rename_i io d he
    cases h
    exact he
  · cases h
def dictAt (env : Nv) (i : Nat) : Option (List (Dt × Dt)) := match env[i]? with
  | some (some (.od _ kvs)) => some kvs
  | some (some (.im (.dict kvs))) => some kvs
  | _ => none
def kysAt (env : Nv) (i : Nat) : Option (List Dt) := match env[i]? with
  | some (some (.od _ kvs)) => some (kvs.map (·.1))
  | some (some (.im (.dict kvs))) => some (kvs.map (·.1))
  | some (some (.og _ kvs)) => some (kvs.map (·.1))
  | _ => none
section
variable {K : Kx} {O : Ow} {H0 H H' : Hp} {σ τ : L2.St} {env env' ts : Nv}
theorem Sg.ownD (S : Sg K O H0 H σ env τ ts) {i : Nat} {io : Bool} {kvs : List (Dt × Dt)} (h : odAt env i = some (io, kvs)) : ∃ a es, σ[i]? = some (some (.ref a)) ∧ H a = some (dN K.w a es) ∧ RpD K H kvs es := by
  obtain ⟨v, h1, fp, a, es, rfl, _, h3, h4⟩ := S.slot (odAt_eq h)
  exact ⟨a, es, h1, h3, h4⟩
theorem Sg.dict (S : Sg K O H0 H σ env τ ts) {i : Nat} {kvs : List (Dt × Dt)} (h : dictAt env i = some kvs) : ∃ a es, σ[i]? = some (some (.ref a)) ∧ Rd H a (dN K.w a es) ∧ RpD K H kvs es := by
  unfold dictAt at h
  split at h
  · rename_i io kvs' he
    cases h
    obtain ⟨v, h1, fp, a, es, rfl, _, h3, h4⟩ := S.slot he
    exact ⟨a, es, h1, .inl h3, h4⟩
  · rename_i kvs' he
    cases h
    obtain ⟨v, h1, a, es, o, rfl, h3, h4⟩ := S.slotI he
    exact ⟨a, es, h1, .inr ⟨o, h3⟩, h4⟩
  · cases h
theorem Sg.kys (S : Sg K O H0 H σ env τ ts) {i : Nat} {ks : List Dt} (h : kysAt env i = some ks) : ∃ a es, σ[i]? = some (some (.ref a)) ∧ Rd H a (dN K.w a es) ∧ RpK K H ks es := by
  unfold kysAt at h
  split at h
  · rename_i io kvs' he
    cases h
    obtain ⟨v, h1, fp, a, es, rfl, _, h3, h4⟩ := S.slot he
    exact ⟨a, es, h1, .inl h3, h4.toK⟩
  · rename_i kvs' he
    cases h
    obtain ⟨v, h1, a, es, o, rfl, h3, h4⟩ := S.slotI he
    exact ⟨a, es, h1, .inr ⟨o, h3⟩, h4.toK⟩
  · rename_i io kvs' he
    cases h
    obtain ⟨v, h1, fp, a, es, as, rfl, _, _, h3, h4⟩ := S.slot he
    exact ⟨a, es, h1, .inl h3, h4.toK⟩
  · cases h
theorem Sg.step (S : Sg K O H0 H σ env τ ts) {i : Nat} {v : V} {s s' : Sl} (hi : env[i]? = some (some s)) (hw : σ[i]? = some (some v)) (k : Kp H H') (lv : ∀ b, H b ≠ none → H' b ≠ none)
    (new : ∀ fp, SlOk K H v s fp → (∀ b u, b ∉ fp → H b = some u → H' b = some u) ∧ ∃ fp', SlOk K H' v s' fp' ∧ ∀ b ∈ fp', b ∈ fp ∨ H b = none) (io : s'.io = true → s.io = true) : Sg K O H0 H' σ (env.set i (some s')) τ ts := by
  have h := S.st.step (get_left hi) (get_left hw) k lv new io
  rw [List.set_append_left _ _ (List.getElem?_eq_some_iff.mp hi).1] at h
  exact ⟨h, by simpa using S.le⟩
theorem Sg.stepT {v : V} {s s' : Sl} (S : Sg K O H0 H σ env (τ ++ [some v]) (ts ++ [some s])) (k : Kp H H') (lv : ∀ b, H b ≠ none → H' b ≠ none)
    (new : ∀ fp, SlOk K H v s fp → (∀ b u, b ∉ fp → H b = some u → H' b = some u) ∧ ∃ fp', SlOk K H' v s' fp' ∧ ∀ b ∈ fp', b ∈ fp ∨ H b = none) (io : s'.io = true → s.io = true) : Sg K O H0 H' σ env (τ ++ [some v]) (ts ++ [some s']) := by
  have l2 := S.len2
  simp only [List.length_append, List.length_cons, List.length_nil] at l2
  have e1 : (env ++ (ts ++ [some s]))[env.length + ts.length]? = some (some s) := by
    rw [List.getElem?_append_right (by omega), show env.length + ts.length - env.length = ts.length from by omega]
    exact get_last rfl
  have e2 : (σ ++ (τ ++ [some v]))[env.length + ts.length]? = some (some v) := by
    have := S.le
    rw [List.getElem?_append_right (by omega), show env.length + ts.length - σ.length = τ.length from by omega]
    exact get_last rfl
  have h := S.st.step e1 e2 k lv new io
  rw [List.set_append_right _ _ (by omega), show env.length + ts.length - env.length = ts.length from by omega, List.set_append_right _ _ (Nat.le_refl _), Nat.sub_self] at h
  exact ⟨h, S.le⟩
theorem Sg.writeD (S : Sg K O H0 H σ env τ ts) {i : Nat} {a : Addr} {io : Bool} {kvs kvs' : List (Dt × Dt)} {es es' : List Ent} (hi : env[i]? = some (some (.od io kvs))) (hw : σ[i]? = some (some (.ref a))) (hd : H a = some (dN K.w a es)) (r : RpD K H kvs' es') :
    Sg K O H0 (upd H a (dN K.w a es')) σ (env.set i (some (.od io kvs'))) τ ts := by
  refine S.step hi hw (.ext hd) (fun b hb => live_upd hb) (fun fp h => ?_) id
  obtain ⟨a2, es2, e, rfl, _⟩ := h
  cases e
  exact ⟨fun b u hb q => by rw [upd_ne (fun z => hb (by simp [z]))]; exact q, [a], ⟨a, es', rfl, rfl, upd_same, r.kp (.ext hd)⟩, fun b hb => .inl hb⟩
end
section
variable {X : Cx} {e a b c : Expr} {es rest : List Expr} {pos : Pos}
/-! ### a dict's name as data -/
def eVarD (i : Nat) : EF := fun env => match env[i]? with
  | some (some (.im d)) => some (d, env)
  | some (some (.od _ kvs)) => some (.dict kvs, env.set i (some (.im (.dict kvs))))
  | _ => none
def tVarD (w : World) (i : Nat) : TE := fun σ H Q => ∃ v, σ[i]? = some (some v) ∧ (Q v H ∨ ∃ p es, v = .ref p ∧ H p = some (dN w p es) ∧ ∀ o, Q v (upd H p (.frz o (dN w p es))))
theorem ei_varD (i : Nat) {x : Str} (hN : X.N[i]? = some x := by rfl) (hv : Vis X.env.scope x := by first | exact Or.inl rfl | exact Or.inr (Or.inl rfl) | exact Or.inr (Or.inr rfl)) (hd : (x == ("__debug__" : Str)) = false := by decide)
    (hcd : (x == ("__classdict__" : Str)) = false := by decide) : EI X (.Name x pos) (eVarD i) := by
  refine ⟨tVarD X.w i, ⟨fun pins s σ H Q I h => ?_⟩, ?_⟩
  · obtain ⟨v, e, h⟩ := h
    refine thn ((pe_var (pos := pos) hN hv hd hcd).run pins s σ H (fun u H' => u = v ∧ H' = H) I ⟨v, e, rfl, rfl⟩) fun u s' ⟨v', H', I', r, ev, eH⟩ => ?_
    subst ev; subst eH
    rcases h with h | ⟨p, xs, rfl, hp, h⟩
    · exact ⟨v', H', I', r, h⟩
    · obtain ⟨od, I2⟩ := I'.lock hp trivial
      exact ⟨_, _, I2, r, h od⟩
  · intro O H0 H σ env τ ts d env' Q S h k
    unfold eVarD at h
    split at h
    · rename_i d' he
      cases h
      obtain ⟨v, h1, h2⟩ := S.slotI he
      exact ⟨v, h1, .inl (k v H (S.push h2))⟩
    · rename_i io kvs he
      cases h
      obtain ⟨v, h1, fp, p, es, rfl, _, h3, h4⟩ := S.slot he
      refine ⟨_, h1, .inr ⟨p, es, rfl, h3, fun o => k _ _ ?_⟩⟩
      have S' : Sg X.kx O H0 (upd H p (.frz o (dN X.w p es))) σ (env.set i (some (.im (.dict kvs)))) τ ts := by
        refine S.step he h1 (.ext h3) (fun b hb => live_upd hb) (fun fp h => ?_) (fun z => by cases z)
        obtain ⟨a2, es2, e, rfl, h5, h6⟩ := h
        cases e
        exact ⟨fun b u hb q => by rw [upd_ne (fun z => hb (by simp [z]))]; exact q, [], ⟨⟨p, es, o, rfl, upd_same, h4.kp (.ext h3)⟩, rfl⟩, fun b hb => by cases hb⟩
      exact S'.push ⟨p, es, o, rfl, upd_same, h4.kp (.ext h3)⟩
    · cases h
/-! ### k in d, k not in d -/
def rNIn (K : Kx) (neg : Bool) : R2 := fun x y H Q => ∃ a es k, y = .ref a ∧ NDict K H a es ∧ IsK K H x k ∧ Q (.bl (if neg = true then !(valE es k).isSome else (valE es k).isSome)) H
theorem op_nin (hu : X.A.units + 64 < cLine) : OpR X (compareOp .In) (rNIn X.kx false) := by
  intro pins s σ H x y v u Q I rx ry h
  obtain ⟨a, es, k, rfl, hd, hk, q⟩ := h
  cases (show u = Value.ref a from ry)
  exact n_in hu I hd hk rx fun s' I' => ⟨.bl _, H, I', rfl, q⟩
theorem op_nni (hu : X.A.units + 64 < cLine) : OpR X (compareOp .NotIn) (rNIn X.kx true) := by
  intro pins s σ H x y v u Q I rx ry h
  obtain ⟨a, es, k, rfl, hd, hk, q⟩ := h
  cases (show u = Value.ref a from ry)
  exact n_notIn hu I hd hk rx fun s' I' => ⟨.bl _, H, I', rfl, q⟩
def eInV (neg : Bool) (f : EF) (i : Nat) : EF := fun env => match f env with
  | some (d, e1) => match keyOf d with
    | some k => match kysAt e1 i with
      | some ks => some (.bool (if neg = true then !hasD ks k else hasD ks k), e1)
      | none => none
    | none => none
  | none => none
theorem runs_inV {K : Kx} {neg : Bool} {i : Nat} {t : TE} {f : EF} (h2 : RunsI K t f) : RunsI K (tOp (rNIn K neg) t (tVar i)) (eInV neg f i) := by
  intro O H0 H σ env τ ts d env' Q S h k
  unfold eInV at h
  split at h
  · rename_i d0 e1 he
    split at h
    · rename_i nk hk
      split at h
      · rename_i ks hks
        cases h
        refine h2 O H0 H σ env τ ts d0 _ _ S he fun v H1 S1 => ?_
        obtain ⟨a, es, h3, h4, h5⟩ := S1.kys hks
        refine ⟨_, h3, a, es, nk, rfl, ⟨h4, h5.keysOk⟩, ⟨d0, hk, S1.rp⟩, ?_⟩
        rw [h5.has nk]
        exact k _ H1 (S1.pop.push rfl)
      · cases h
    · cases h
  · cases h
theorem ei_inV {i : Nat} {x : Str} {f : EF} {p : Pos} (hu : X.A.units + 64 < cLine) (h : EI X e f) (hN : X.N[i]? = some x := by rfl) (hv : Vis X.env.scope x := by first | exact Or.inl rfl | exact Or.inr (Or.inl rfl) | exact Or.inr (Or.inr rfl)) (hd : (x == ("__debug__" : Str)) = false := by decide) (hcd : (x == ("__classdict__" : Str)) = false := by decide) (hm : behindInMarks .In (.Name x p) = false := by rfl) :
    EI X (.Compare e [.In] [.Name x p] pos) (eInV false f i) := by
  obtain ⟨t, g1, g2⟩ := h
  exact ⟨_, pe_cmpR (op_nin hu) g1 (pe_var hN hv hd hcd) hm, runs_inV g2⟩
theorem et_inV {i : Nat} {x : Str} {f : EF} {p : Pos} (hu : X.A.units + 64 < cLine) (h : EI X e f) (hN : X.N[i]? = some x := by rfl) (hv : Vis X.env.scope x := by first | exact Or.inl rfl | exact Or.inr (Or.inl rfl) | exact Or.inr (Or.inr rfl)) (hd : (x == ("__debug__" : Str)) = false := by decide) (hcd : (x == ("__classdict__" : Str)) = false := by decide) (hm : behindInMarks .In (.Name x p) = false := by rfl) :
    ET X (.Compare e [.In] [.Name x p] pos) (tVal (eInV false f i)) := by
  obtain ⟨t, g1, g2⟩ := h
  exact ⟨_, pt_cmpR (op_nin hu) g1 (pe_var hN hv hd hcd) hm, runs_tst (runs_inV g2)⟩
theorem ei_niV {i : Nat} {x : Str} {f : EF} {p : Pos} (hu : X.A.units + 64 < cLine) (h : EI X e f) (hN : X.N[i]? = some x := by rfl) (hv : Vis X.env.scope x := by first | exact Or.inl rfl | exact Or.inr (Or.inl rfl) | exact Or.inr (Or.inr rfl)) (hd : (x == ("__debug__" : Str)) = false := by decide) (hcd : (x == ("__classdict__" : Str)) = false := by decide) (hm : behindInMarks .NotIn (.Name x p) = false := by rfl) :
    EI X (.Compare e [.NotIn] [.Name x p] pos) (eInV true f i) := by
  obtain ⟨t, g1, g2⟩ := h
  exact ⟨_, pe_cmpR (op_nni hu) g1 (pe_var hN hv hd hcd) hm, runs_inV g2⟩
theorem et_niV {i : Nat} {x : Str} {f : EF} {p : Pos} (hu : X.A.units + 64 < cLine) (h : EI X e f) (hN : X.N[i]? = some x := by rfl) (hv : Vis X.env.scope x := by first | exact Or.inl rfl | exact Or.inr (Or.inl rfl) | exact Or.inr (Or.inr rfl)) (hd : (x == ("__debug__" : Str)) = false := by decide) (hcd : (x == ("__classdict__" : Str)) = false := by decide) (hm : behindInMarks .NotIn (.Name x p) = false := by rfl) :
    ET X (.Compare e [.NotIn] [.Name x p] pos) (tVal (eInV true f i)) := by
  obtain ⟨t, g1, g2⟩ := h
  exact ⟨_, pt_cmpR (op_nni hu) g1 (pe_var hN hv hd hcd) hm, runs_tst (runs_inV g2)⟩
/-- .. of a dict that is data -/
def dInN (neg : Bool) : Dt → Dt → Option Dt
  | d, .dict kvs => match keyOf d with
    | some k => some (.bool (if neg = true then !hasD (kvs.map (·.1)) k else hasD (kvs.map (·.1)) k))
    | none => none
  | _, _ => none
theorem od_nin {K : Kx} {neg : Bool} : OpD K (rNIn K neg) (dInN neg) := by
  intro H x y a b d Q ra rb hg k
  unfold dInN at hg
  split at hg
  · rename_i kvs
    split at hg
    · rename_i nk hk
      cases hg
      obtain ⟨p, es, o, rfl, h1, h2⟩ := rb
      refine ⟨p, es, nk, rfl, ⟨.inr ⟨o, h1⟩, h2.toK.keysOk⟩, ⟨a, hk, ra⟩, ?_⟩
      rw [h2.toK.has nk]
      exact k _ H (Same.refl H) rfl
    · cases hg
  · cases hg
/-! ### d[k] -/
def rNGet (K : Kx) : R2 := fun x y H Q => ∃ a es k v, x = .ref a ∧ NDict K H a es ∧ IsK K H y k ∧ valE es k = some v ∧ Q v H
theorem pe_nget {ta tb : TE} (hu : X.A.units + 64 < cLine) (ho : PE X a ta) (hi : PE X b tb) (hs : NoSl b) : PE X (.Subscript a b pos) (tOp (rNGet X.kx) ta tb) := by
  refine ⟨fun pins s σ H Q I h => ?_⟩
  refine subD_of PySem.F.slot_dict_getitem.lookup hs (thn (ho.run pins s σ H _ I h) fun u s1 ⟨x, H1, I1, rx, q1⟩ => thn (hi.run pins s1 σ H1 _ I1 q1) fun iv s2 ⟨y, H2, I2, ry, a, es, k, v, ex, hd, hk, hv, q2⟩ => ?_)
  subst ex
  obtain rfl : u = Value.ref a := rx
  refine ⟨?_, n_getItem hu I2 hd hk hv ry fun w' s3 I3 rw' => ⟨v, H2, I3, rw', q2⟩⟩
  obtain ⟨_, _, xs, _, dd⟩ := dn_of I2 hd.1 hd.2
  exact dd.typeIs
def dGetN : Dt → Dt → Option Dt
  | .dict kvs, d => match keyOf d with
    | some k => lookD kvs k
    | none => none
  | _, _ => none
theorem od_nget {K : Kx} : OpD K (rNGet K) dGetN := by
  intro H x y a b d Q ra rb hg k
  unfold dGetN at hg
  split at hg
  · rename_i kvs
    split at hg
    · rename_i nk hk
      obtain ⟨p, es, o, rfl, h1, h2⟩ := ra
      obtain ⟨v, h3, h4⟩ := h2.look nk hg
      exact ⟨p, es, nk, v, rfl, ⟨.inr ⟨o, h1⟩, h2.toK.keysOk⟩, ⟨b, hk, rb⟩, h3, k v H (Same.refl H) h4⟩
    · cases hg
  · cases hg
theorem ei_getN {fa fb : EF} (hu : X.A.units + 64 < cLine) (ha : EI X a fa) (hb : EI X b fb) (hs : NoSl b) : EI X (.Subscript a b pos) (eOp dGetN fa fb) := by
  obtain ⟨ta, h1, h2⟩ := ha
  obtain ⟨tb, h3, h4⟩ := hb
  exact ⟨_, pe_nget hu h1 h3 hs, runs_op od_nget h2 h4⟩
def eGetV (i : Nat) (f : EF) : EF := fun env => match dictAt env i with
  | some _ => match f env with
    | some (d, e1) => match keyOf d with
      | some k => match dictAt e1 i with
        | some kvs => match lookD kvs k with
          | some z => some (z, e1)
          | none => none
        | none => none
      | none => none
    | none => none
  | none => none
theorem ei_getV {i : Nat} {x : Str} {f : EF} {p : Pos} (hu : X.A.units + 64 < cLine) (h : EI X e f) (hs : NoSl e) (hN : X.N[i]? = some x := by rfl) (hv : Vis X.env.scope x := by first | exact Or.inl rfl | exact Or.inr (Or.inl rfl) | exact Or.inr (Or.inr rfl)) (hd : (x == ("__debug__" : Str)) = false := by decide) (hcd : (x == ("__classdict__" : Str)) = false := by decide) :
    EI X (.Subscript (.Name x p) e pos) (eGetV i f) := by
  obtain ⟨t, g1, g2⟩ := h
  refine ⟨_, pe_nget hu (pe_var hN hv hd hcd) g1 hs, fun O H0 H σ env τ ts d env' Q S h k => ?_⟩
  unfold eGetV at h
  split at h
  · rename_i kv0 h0
    split at h
    · rename_i d0 e1 he
      split at h
      · rename_i nk hk
        split at h
        · rename_i kvs h1
          split at h
          · rename_i z hz
            cases h
            obtain ⟨a, es, hw, _⟩ := S.dict h0
            refine ⟨_, hw, g2 O H0 H σ env τ ts _ _ _ S he fun v H1 S1 => ?_⟩
            obtain ⟨a', es', hw', h3, h4⟩ := S1.dict h1
            rw [hw] at hw'; cases hw'
            obtain ⟨z', q1, q2⟩ := h4.look nk hz
            exact ⟨a, es', nk, z', rfl, ⟨h3, h4.toK.keysOk⟩, ⟨d0, hk, S1.rp⟩, q1, k z' H1 (S1.pop.push q2)⟩
          · cases h
        · cases h
      · cases h
    · cases h
  · cases h
/-! ### d[k] = v -/
def sNPut (K : Kx) (td ty tv : TE) : TS := fun D σ H => tv σ H fun v H1 => td σ H1 fun x H2 => ty σ H2 fun y H3 => ∃ a b es k, x = .ref a ∧ y = .ref b ∧ H3 a = some (dN K.w a es) ∧ KeysOk K H3 es ∧ es.length < sizeLine ∧ IsK K H3 y k ∧ D.nx σ (upd H3 a (dN K.w a (putE es k b v)))
theorem ps_nput {o i value : Expr} {td ty tv : TE} {pos' : Pos} (hu : X.A.units + 64 < cLine) (ho : PE X o td) (hi : PE X i ty) (hv : PE X value tv) (hs : swapsWith value (some (.Subscript o i pos')) pos.line X.env = pure false) :
    PS X (.Assign [.Subscript o i pos'] value pos) (sNPut X.kx td ty tv) := by
  refine ⟨fun pins s σ H D I h => ?_⟩
  refine wpAny_Assign_Subscript (thn (hv.run pins s σ H _ I h) fun r s1 ⟨v, H1, I1, rv, q1⟩ => thn (ho.run pins s1 σ H1 _ I1 q1) fun u s2 ⟨x, H2, I2, rx, q2⟩ => thn (hi.run pins s2 σ H2 _ I2 q2) fun iv s3 ⟨y, H3, I3, ry, a, b, es, k, ex, ey, hd, hk, hl, hy, q3⟩ => ?_) hs
  subst ex; subst ey
  obtain rfl : u = Value.ref a := rx
  obtain rfl : iv = Value.ref b := ry
  exact n_setItem hu I3 hd hk hl hy rv fun s4 I4 => ⟨σ, _, I4, q3⟩
def sPutV (i : Nat) (fk fv : EF) : SF := fun env => match fv env with
  | some (v, e1) => match odAt e1 i with
    | some _ => match fk e1 with
      | some (key, e2) => match keyOf key with
        | some k => match odAt e2 i with
          | some (io, kvs) => if kvs.length < 10000000 then some (.nx (e2.set i (some (.od io (putD kvs key k v))))) else none
          | none => none
        | none => none
      | none => none
    | none => none
  | none => none
theorem RpD.length {K : Kx} {H : Hp} {kvs : List (Dt × Dt)} {es : List Ent} (h : RpD K H kvs es) : es.length = kvs.length := by
  have := h.toK.length
  simpa using this
theorem sx_putV {i : Nat} {x : Str} {key value : Expr} {fk fv : EF} {p pos' : Pos} (hu : X.A.units + 64 < cLine) (hk : EI X key fk) (hv : EI X value fv) (hN : X.N[i]? = some x := by rfl) (hvis : Vis X.env.scope x := by first | exact Or.inl rfl | exact Or.inr (Or.inl rfl) | exact Or.inr (Or.inr rfl)) (hd : (x == ("__debug__" : Str)) = false := by decide) (hcd : (x == ("__classdict__" : Str)) = false := by decide)
    (hs : swapsWith value (some (.Subscript (.Name x p) key pos')) pos.line X.env = pure false := by rfl) : SX X (.Assign [.Subscript (.Name x p) key pos'] value pos) (sPutV i fk fv) := by
  obtain ⟨tk, k1, k2⟩ := hk
  obtain ⟨tv, v1, v2⟩ := hv
  refine ⟨_, ps_nput hu (pe_var hN hvis hd hcd) k1 v1 hs, fun O H0 H σ env τ ts out D S h k => ?_⟩
  unfold sPutV at h
  split at h
  · rename_i v e1 he1
    split at h
    · rename_i p0 h0
      split at h
      · rename_i ky e2 he2
        split at h
        · rename_i nk hnk
          split at h
          · rename_i io kvs hod
            split at h
            · rename_i hl
              cases h
              refine v2 O H0 H σ env τ ts v e1 _ S he1 fun vv H1 S1 => ?_
              obtain ⟨a, es0, hw, _⟩ := S1.ownD (io := p0.1) (kvs := p0.2) h0
              refine ⟨_, hw, k2 O H0 H1 σ e1 _ _ ky e2 _ S1 he2 fun yv H2 S2 => ?_⟩
              obtain ⟨a', es, hw', hH, hr⟩ := S2.ownD hod
              rw [hw] at hw'; cases hw'
              have ry := S2.rp
              obtain ⟨bb, rfl⟩ := IsK.ref (K := X.kx) (H := H2) (k := nk) ⟨ky, hnk, ry⟩
              have rv := S2.pop.rp
              refine ⟨a, bb, es, nk, rfl, rfl, hH, hr.toK.keysOk, Nat.lt_of_lt_of_le (by rw [hr.length]; exact hl) (by decide), ⟨ky, hnk, ry⟩, k σ _ ?_⟩
              exact S2.pop.pop.writeD (odAt_eq hod) hw hH (hr.put hnk ry rv)
            · cases h
          · cases h
        · cases h
      · cases h
    · cases h
  · cases h
end
/-! ### new dicts -/
theorem dn_empty {P : Program} {w : World} {H : Hp} (h : Heap) (hb : sysModules < h.objs.size) : ObjOk P w H (h.push { cls := .type "dict", data := .dict #[] }) h.objs.size (dN w h.objs.size []) :=
  dn_new (Nat.zero_le _) (beq_eq_false_iff_ne.mpr (Ne.symm (Nat.ne_of_lt hb))) .nil (Heap.DictOfH.new h)
abbrev DF := Nv → Option (List (Dt × Dt) × Nv)
def RunsD (K : Kx) (t : TE) (f : DF) : Prop := ∀ (O : Ow) (H0 H : Hp) (σ : L2.St) (env : Nv) (τ : L2.St) (ts : Nv) (kvs : List (Dt × Dt)) (env' : Nv) (Q : VK), Sg K O H0 H σ env τ ts → f env = some (kvs, env') →
  (∀ v H', Sg K O H0 H' σ env' (τ ++ [some v]) (ts ++ [some (.od false kvs)]) → Q v H') → t σ H Q
section
variable {X : Cx} {e a b c : Expr} {es rest : List Expr} {pos : Pos}
def ED (X : Cx) (e : Expr) (f : DF) : Prop := ∃ t, PE X e t ∧ RunsD X.kx t f
def tDNewN (w : World) : TE := fun _ H Q => ∀ p, H p = none → Q (.ref p) (upd H p (dN w p []))
theorem pe_dnewN : PE X (.Dict [] [] pos) (tDNewN X.w) := ⟨fun pins s σ H Q I h =>
  wpAny_Dict_empty ⟨.ref s.heap.objs.size, _, I.laid (a := s.heap.objs.size) (o := dN X.w s.heap.objs.size []) (t' := s.toks) (fun _ _ q => Heap.get?_push_of_some _ q) (Nat.le_refl _) (dn_empty s.heap I.big), rfl, h _ (I.hok.fresh (Nat.le_refl _))⟩⟩
theorem Sg.pushD {K : Kx} {O : Ow} {H0 H : Hp} {σ τ : L2.St} {env ts : Nv} (S : Sg K O H0 H σ env τ ts) {p : Addr} (hp : H p = none) : Sg K O H0 (upd H p (dN K.w p [])) σ env (τ ++ [some (.ref p)]) (ts ++ [some (.od false [])]) :=
  S.pushO (same_upd hp) (fp := [p]) ⟨p, [], rfl, rfl, upd_same, rfl⟩ (fun b hb => by cases List.mem_singleton.mp hb; exact hp) rfl
def dEmp : DF := fun env => some ([], env)
theorem ed_emp : ED X (.Dict [] [] pos) dEmp := ⟨_, pe_dnewN, fun O H0 H σ env τ ts kvs env' Q S h k => by
  cases h
  exact fun p hp => k _ _ (S.pushD hp)⟩
/-- {k: v} -/
def tDOne (K : Kx) (tk tv : TE) : TE := fun σ H Q => ∀ p, H p = none → tk σ (upd H p (dN K.w p [])) fun x H1 => tv σ H1 fun y H2 => H2 p = some (dN K.w p []) ∧ ∃ b k, x = .ref b ∧ IsK K H2 x k ∧ Q (.ref p) (upd H2 p (dN K.w p [(k, b, y)]))
theorem pe_done {tk tv : TE} (hu : X.A.units + 64 < cLine) (hk : PE X a tk) (hv : PE X b tv) : PE X (.Dict [some a] [b] pos) (tDOne X.kx tk tv) := by
  refine ⟨fun pins s σ H Q I q => ?_⟩
  have hn := I.hok.fresh (Nat.le_refl s.heap.objs.size)
  have I1 := I.laid (a := s.heap.objs.size) (o := dN X.w s.heap.objs.size []) (h' := s.heap.push { cls := .type "dict", data := .dict #[] }) (t' := s.toks) (fun _ _ q => Heap.get?_push_of_some _ q) (Nat.le_refl _) (dn_empty s.heap I.big)
  have hsh := zip_pairTrees [some a] [b] X.env pos rfl rfl
  rw [arm_eval_Dict, hsh, dictDisplay_pairs _ (by simp [pairTrees]) (by simp [pairTrees])]
  refine wpAny_bind (wpAny_standAt (wpAny_bind (wpAny_subDictH (knd := nestedKind X.prog X.w) (by show X.A.units + 8 < cLine; omega) (by simp [pairTrees]) ?_)))
  refine pairTrees_cons_walk (thn (hk.run pins _ σ _ _ I1 (q _ hn)) fun u s1 ⟨x, H1, I1, rx, q1⟩ => thn (hv.run pins s1 σ H1 _ I1 q1) fun w2 s2 ⟨y, H2, I2, ry, e2, b, k, ex, hk, q2⟩ => pairTrees_nil_walk ?_)
  subst ex
  obtain rfl : u = Value.ref b := rx
  obtain ⟨z, hd, xs0, r0, dd⟩ := dn_of (es := []) I2 (.inl e2) (fun p hp => by cases hp)
  cases r0
  refine ⟨[(k, b, w2)], ⟨rfl, rfl, IsK.is I2 hk, trivial⟩, dd, fun h' tk' dd' hs => wpAny_pure ⟨.ref s.heap.objs.size, _, ?_, rfl, q2⟩⟩
  obtain ⟨o, ar, ep, ho, _⟩ := id dd'
  exact d_write I2 (by rw [e2]; exact True.intro) hs ⟨o, ho⟩ (dn_new (by show 1 ≤ sizeLine; decide) hd (.cons ⟨rfl, rfl, ry⟩ .nil) dd')
def dOne (fk fv : EF) : DF := fun env => match fk env with
  | some (key, e1) => match fv e1 with
    | some (v, e2) => match keyOf key with
      | some _ => some ([(key, v)], e2)
      | none => none
    | none => none
  | none => none
theorem ed_one {fk fv : EF} (hu : X.A.units + 64 < cLine) (hk : EI X a fk) (hv : EI X b fv) : ED X (.Dict [some a] [b] pos) (dOne fk fv) := by
  obtain ⟨tk, k1, k2⟩ := hk
  obtain ⟨tv, v1, v2⟩ := hv
  refine ⟨_, pe_done hu k1 v1, fun O H0 H σ env τ ts kvs env' Q S h k => ?_⟩
  unfold dOne at h
  split at h
  · rename_i key e1 he1
    split at h
    · rename_i v e2 he2
      split at h
      · rename_i nk hnk
        cases h
        intro p hp
        refine k2 O H0 _ σ env _ _ key e1 _ (S.pushD hp) he1 fun x H1 S1 => ?_
        refine v2 O H0 H1 σ e1 _ _ v _ _ S1 he2 fun y H2 S2 => ?_
        have rv := S2.rp
        have rk := S2.pop.rp
        obtain ⟨bb, rfl⟩ := IsK.ref (K := X.kx) (H := H2) (k := nk) ⟨key, hnk, rk⟩
        obtain ⟨fp, p', es, e, _, h1, h2⟩ := S2.pop.pop.top
        cases e
        cases h2
        refine ⟨h1, bb, nk, rfl, ⟨key, hnk, rk⟩, k _ _ ?_⟩
        refine S2.pop.pop.stepT (.ext h1) (fun b hb => live_upd hb) (fun fp h => ?_) id
        obtain ⟨a2, es2, e, rfl, _⟩ := h
        cases e
        exact ⟨fun b u hb q => by rw [upd_ne (fun z => hb (by simp [z]))]; exact q, [p], ⟨p, _, rfl, rfl, upd_same, RpD.kp (.ext h1) _ _ ⟨_, _, rfl, ⟨hnk, rk, rv⟩, rfl⟩⟩, fun b hb => .inl hb⟩
      · cases h
    · cases h
  · cases h
/-- x = {..} -/
def sNewD (i : Nat) (f : DF) : SF := fun env => match f env with
  | some (d, e) => some (.nx (e.set i (some (.od false d))))
  | none => none
theorem sx_setD {i : Nat} {x : Str} {f : DF} {pos' : Pos} (hN : X.N.Nodup) (hi : X.N[i]? = some x) (hx : Loc X.env.scope x) (h : ED X e f) (hs : swapsWith e (some (.Name x pos')) pos.line X.env = pure false := by rfl)
    (hf : X.fn x = true ∨ X.env.scope.names.lookup x = some .local := by first | exact .inl rfl | exact .inr rfl | assumption) : SX X (.Assign [.Name x pos'] e pos) (sNewD i f) := by
  obtain ⟨t, h1, h2⟩ := h
  refine ⟨_, ps_set hN hi hx h1 hs hf, fun O H0 H σ env τ ts out D S h k => ?_⟩
  unfold sNewD at h
  split at h
  · rename_i d e1 he
    cases h
    exact h2 O H0 H σ env τ ts d e1 _ S he fun v H1 S1 => k _ H1 (S1.put i)
  · cases h
/-- in a row -/
def aDn (f : DF) (r : AF) : AF := fun env => match f env with
  | some (ds, e1) => match r e1 with
    | some (ss, e2) => some (.od false ds :: ss, e2)
    | none => none
  | none => none
theorem ea_d {f : DF} {r : AF} (h : ED X e f) (hr : EA X es r) (hs : starEach (e :: es) X.env = (false, eval e X.env) :: starEach es X.env := by rfl) : EA X (e :: es) (aDn f r) := by
  obtain ⟨_, h1, h2⟩ := h
  obtain ⟨_, h3, h4⟩ := hr
  refine ⟨_, pa_cons h1 h3 hs, fun O H0 H σ env τ ts ss env' Q S h k => ?_⟩
  unfold aDn at h
  split at h
  · rename_i d e1 he
    split at h
    · rename_i ss' e2 he2
      cases h
      refine h2 O H0 H σ env τ ts d e1 _ S he fun v H1 S1 => ?_
      refine h4 O H0 H1 σ e1 _ _ ss' env' _ S1 he2 fun vs H2 hl S2 => ?_
      exact k (v :: vs) H2 (by simp [hl]) (by simpa using S2)
    · cases h
  · cases h
/-- a new dict, to be one of own lists -/
def aGn (r : AF) : AF := fun env => match r env with
  | some (ss, e2) => some (.og false [] :: ss, e2)
  | none => none
theorem ea_g {r : AF} (hr : EA X es r) (hs : starEach (.Dict [] [] pos :: es) X.env = (false, eval (.Dict [] [] pos) X.env) :: starEach es X.env := by rfl) : EA X (.Dict [] [] pos :: es) (aGn r) := by
  obtain ⟨_, h3, h4⟩ := hr
  refine ⟨_, pa_cons pe_dnewN h3 hs, fun O H0 H σ env τ ts ss env' Q S h k => ?_⟩
  unfold aGn at h
  split at h
  · rename_i ss' e2 he2
    cases h
    intro p hp
    have S1 : Sg X.kx O H0 (upd H p (dN X.w p [])) σ env (τ ++ [some (.ref p)]) (ts ++ [some (.og false [])]) :=
      S.pushO (same_upd hp) (fp := [p]) ⟨p, [], [], rfl, rfl, by simp, upd_same, rfl, rfl⟩ (fun b hb => by cases List.mem_singleton.mp hb; exact hp) rfl
    refine h4 O H0 _ σ env _ _ ss' env' _ S1 he2 fun vs H2 hl S2 => ?_
    exact k (.ref p :: vs) H2 (by simp [hl]) (by simpa using S2)
  · cases h
/-- as data -/
def eNewD (f : DF) : EF := fun env => match f env with
  | some (kvs, e) => some (.dict kvs, e)
  | none => none
def tFrzD (w : World) (t : TE) : TE := fun σ H Q => t σ H fun v H1 => ∃ p es, v = .ref p ∧ H1 p = some (dN w p es) ∧ ∀ o, Q v (upd H1 p (.frz o (dN w p es)))
theorem pe_frzD {t : TE} (h : PE X e t) : PE X e (tFrzD X.w t) := ⟨fun pins s σ H Q I hw => by
  refine thn (h.run pins s σ H _ I hw) fun u s' ⟨v, H', I', r, p, xs, e, hp, q⟩ => ?_
  subst e
  obtain ⟨od, I2⟩ := I'.lock hp trivial
  exact ⟨_, _, I2, r, q od⟩⟩
theorem Sg.freezeD {K : Kx} {O : Ow} {H0 H : Hp} {σ τ : L2.St} {env ts : Nv} {p : Addr} {io : Bool} {kvs : List (Dt × Dt)} {ents : List Ent} (S : Sg K O H0 H σ env (τ ++ [some (.ref p)]) (ts ++ [some (.od io kvs)])) (o : Obj) (h1 : H p = some (dN K.w p ents)) (h2 : RpD K H kvs ents) :
    Sg K O H0 (upd H p (.frz o (dN K.w p ents))) σ env (τ ++ [some (.ref p)]) (ts ++ [some (.im (.dict kvs))]) := by
  refine S.stepT (.ext h1) (fun b hb => live_upd hb) (fun fp h => ?_) (fun z => by cases z)
  obtain ⟨a2, es2, e, rfl, _⟩ := h
  cases e
  exact ⟨fun b u hb q => by rw [upd_ne (fun z => hb (by simp [z]))]; exact q, [], ⟨⟨p, ents, o, rfl, upd_same, h2.kp (.ext h1)⟩, rfl⟩, fun b hb => by cases hb⟩
theorem ei_newD {f : DF} (h : ED X e f) : EI X e (eNewD f) := by
  obtain ⟨t, h1, h2⟩ := h
  refine ⟨_, pe_frzD h1, fun O H0 H σ env τ ts d env' Q S hf k => ?_⟩
  unfold eNewD at hf
  split at hf
  · rename_i kvs e' he
    cases hf
    refine h2 O H0 H σ env τ ts kvs _ _ S he fun v H1 S1 => ?_
    obtain ⟨fp, p, ents, rfl, _, h3, h4⟩ := S1.top
    exact ⟨p, ents, rfl, h3, fun o => k _ _ (S1.freezeD o h3 h4)⟩
  · cases hf
/-! ### for k in d -/
def Itn (w : World) (d : Addr) (o : Obj) (es : List Ent) : It :=
  ⟨fun i H => H d = some (.frz o (dN w d es)) ∧ i < es.length, fun i H x H' => H' = H ∧ ∃ e, es[i]? = some e ∧ x = .ref e.2.1, fun i H => H d = some (.frz o (dN w d es)) ∧ es.length ≤ i⟩
theorem frzN {pins : List (Addr × Obj)} {σ : L2.St} {H : Hp} {s : Shared} {d : Addr} {o : Obj} {ents : List Ent} (I : L2.Inv X pins σ H s) (h : H d = some (.frz o (dN X.w d ents))) :
    (d == sysModules) = false ∧ s.heap.get? d = some o ∧ o.ExactDict ∧ ∃ (ar : Array DictEntry) (ep : Nat), o.data = .dict ar ep ∧ ar.size = ents.length ∧ ∀ (i : Nat) (e : Ent), ents[i]? = some e → ∃ en : DictEntry, ar[i]? = some en ∧ en.key = .ref e.2.1 := by
  obtain ⟨hd, ⟨_, hs, _, o', ar, ep, ho, hx, hdt, pr⟩, _⟩ := I.hok d _ h
  rw [hd] at ho
  cases ho
  refine ⟨hs, hd, hx, ar, ep, hdt, ?_, fun i e q => ?_⟩
  · have := Paired.length pr
    rw [Array.length_toList] at this
    exact this.symm
  · obtain ⟨en, h1, h2⟩ := paired_get pr q
    exact ⟨en, by rw [← Array.getElem?_toList]; exact h1, h2.2.1⟩
theorem turn_keysN {P : Program} {w : World} {K : PySem.W.Frag} {tg : Expr} {d : Addr} {o : Obj} {ar : Array DictEntry} {ep : Nat} {ents : List Ent} (it : Addr) (hod : o.data = .dict ar ep) : Turn P w K tg (Itn w d o ents) [it] it (fun i h => h.IsKeyIter it d i ents.length ep) where
  mem := by simp
  obj := fun i h st b hb => by
    cases List.mem_singleton.mp hb
    obtain ⟨oi, e, c, dd⟩ := st
    exact ⟨oi, e, fun v z => by rw [dd] at z; cases z⟩
  keep := fun i h h' st k => st.at fun oi e => k it (by simp) oi e
  item := by
    intro X hP hw hK hc i pins s σ H E I hf st hg
    subst hP hw hK
    obtain ⟨hd, hi⟩ := hg
    obtain ⟨f0, f1, f2, f3, f4, f5⟩ := hf it (by simp)
    obtain ⟨hs, hgd, hx, ar', ep', hdt, hsz, ent⟩ := frzN I hd
    obtain ⟨rfl, rfl⟩ := dict_ep hod hdt
    obtain ⟨en, hen, hkey⟩ := ent i _ (List.getElem?_eq_getElem hi)
    refine next_key_item st hgd hdt hsz hen fun h' st' sb => ?_
    have I1 : L2.Inv X pins σ H { s with heap := h' } := I.turned (t' := s.toks) (fun b ob hb e => (sb.2 b hb).trans e) f0 f1 f3 f4 f5
    obtain ⟨oi, e, c, dd⟩ := id st'
    exact ⟨en.key, rfl, go_of (s := { s with heap := h' }) e c dd (by decide) ⟨.ref (ents[i]).2.1, H, I1, hkey, ⟨rfl, _, List.getElem?_eq_getElem hi, rfl⟩, st', fun b hb => (hf b hb).1⟩⟩
  done := by
    intro X hP hw hK hc i pins s σ H E I hf st hg
    subst hP hw hK
    obtain ⟨hd, hi⟩ := hg
    obtain ⟨f0, f1, f2, f3, f4, f5⟩ := hf it (by simp)
    obtain ⟨hs, hgd, hx, ar', ep', hdt, hsz, ent⟩ := frzN I hd
    obtain ⟨rfl, rfl⟩ := dict_ep hod hdt
    exact next_key_end (I.ok.hd hc) st hgd hdt hsz hi fun h' eb => ⟨rfl, I.turned (t' := s.toks) (fun b ob hb e => eb b ob hb e) f0 f1 f3 f4 f5⟩
  self := fun A i s Q E st h => wpAny_pyIter_keyiter st h
def iKeysN (w : World) (td : TE) : TI := fun σ H R => td σ H fun x H1 => ∃ d o ents, x = .ref d ∧ H1 d = some (.frz o (dN w d ents)) ∧ R (Itn w d o ents) H1
theorem pi_keysN {tg : Expr} {td : TE} (he : PE X e td) : PI X tg e (iKeysN X.w td) := by
  refine ⟨fun pins s σ H R I h => ?_⟩
  refine thn (he.run pins s σ H _ I h) fun u s1 ⟨x, H1, I1, rx, d, o, ents, ex, hd, q⟩ => ?_
  subst ex
  obtain rfl : u = Value.ref d := rx
  obtain ⟨hs, hgd, hx, ar, ep, hdt, hsz, ent⟩ := frzN I1 hd
  refine iter_keys hs hgd hx hdt (pi_one (tk := s1.toks) I1 _ (turn_keysN _ hdt) ⟨_, Heap.get?_push_size _ rfl, rfl, ?_⟩ q)
  rw [hsz] <;> rfl
def itK (f : EF) : NF := fun env => match f env with
  | some (.dict kvs, e) => some (kvs.map (·.1), e)
  | _ => none
theorem el_keys {tg : Expr} {f : EF} (h : EI X e f) : EL X tg e (itK f) := by
  obtain ⟨t, h1, h2⟩ := h
  refine ⟨_, pi_keysN h1, fun O H0 H σ env τ ts ds env' R S hf k => ?_⟩
  unfold itK at hf
  split at hf
  · rename_i kvs e1 he
    cases hf
    refine h2 O H0 H σ env τ ts _ _ _ S he fun v H' S' => ?_
    obtain ⟨p, ents, o, rfl, hp, hr⟩ := S'.rp
    refine ⟨p, o, ents, rfl, hp, k (Itn X.w p o ents) H' [.ref p] [.fd o ents kvs] (fun H => H p = some (.frz o (dN X.w p ents)) ∧ RpD X.kx H kvs ents) (YD X.kx (kvs.map (·.1))) ?_ ⟨.ref p, [], rfl, rfl, ⟨[], p, rfl, hp, hr, rfl⟩, rfl⟩ S'.pop ?_ fun i d x H H'' hd r y => y.use hd⟩
    · have hl : (kvs.map (·.1)).length = ents.length := hr.toK.length.symm
      refine ⟨fun i H hi q => ⟨q.1, by rw [← hl]; exact hi⟩, fun H q => ⟨q.1, by rw [hl]; exact Nat.le_refl _⟩, fun i H x H'' hi q y => ?_⟩
      obtain ⟨rfl, e, he, rfl⟩ := y
      obtain ⟨e', g1, g2⟩ := q.2.toK.get (List.getElem?_eq_getElem hi)
      rw [he] at g1; cases g1
      exact ⟨_, List.getElem?_eq_getElem hi, Same.refl _, g2⟩
    · intro H hp
      obtain ⟨v, r', e, _, ⟨fp, a, ev, h3, h4, _⟩, _⟩ := hp
      cases e
      cases ev
      exact ⟨h3, h4⟩
  · cases hf
end
/-! ### a step of what a slot holds, by what it held -/
theorem Sto.stepX {K : Kx} {O : Ow} {H0 H : Hp} {W : L2.St} {E : Nv} (S : Sto K O H0 H W E) {i : Nat} {v : V} {s : Sl} (hi : E[i]? = some (some s)) (hw : W[i]? = some (some v)) :
    ∃ fp, SlOk K H v s fp ∧ ∀ (H' : Hp) (s' : Sl), Kp H H' → (∀ b, H b ≠ none → H' b ≠ none) → (∀ b u, b ∉ fp → H b = some u → H' b = some u) → (∃ fp', SlOk K H' v s' fp' ∧ ∀ b ∈ fp', b ∈ fp ∨ H b = none) → (s'.io = true → s.io = true) → Sto K O H0 H' W (E.set i (some s')) := by
  obtain ⟨F, f⟩ := S.fps
  obtain ⟨v', h1, h2⟩ := f.ok i s hi
  rw [hw] at h1; cases h1
  refine ⟨F i, h2, fun H' s' k lv out ⟨fp', n1, n2⟩ io => ?_⟩
  have il := (List.getElem?_eq_some_iff.mp hi).1
  have mn : ∀ b ∈ fp', O b ∨ H0 b = none := fun b hb => by
    rcases n2 b hb with q | q
    · exact f.mine i s hi b q
    · by_cases ho : O b
      · exact .inl ho
      · cases q0 : H0 b with
        | none => exact .inr rfl
        | some u => have := S.frame b u q0 ho; rw [q] at this; cases this
  have ap : ∀ (j : Nat) (t : Sl), j ≠ i → E[j]? = some (some t) → ∀ b ∈ F j, b ∉ fp' := fun j t hj h b hb hb' => by
    rcases n2 b hb' with q | q
    · exact f.apart j i t s hj h hi b hb q
    · obtain ⟨x, _, h3⟩ := f.ok j t h
      exact h3.there b hb q
  refine ⟨by simp [S.len], ⟨fun j => if j = i then fp' else F j, fun j t h => ?_, fun j t h => ?_, fun j l t u ne h1 h2 => ?_⟩, fun j t a h o q => ?_, fun a u h1 h2 => ?_, fun a ha => lv a (S.live a ha)⟩
  · rcases get_set h with ⟨hj, h⟩ | ⟨rfl, _, e⟩
    · rw [if_neg hj]
      obtain ⟨x, e1, e2⟩ := f.ok j t h
      exact ⟨x, e1, e2.kp k fun b hb u e => out b u (f.apart j i t s hj h hi b hb) e⟩
    · cases e
      rw [if_pos rfl]
      exact ⟨v, hw, n1⟩
  · rcases get_set h with ⟨hj, h⟩ | ⟨rfl, _, e⟩
    · rw [if_neg hj]; exact f.mine j t h
    · rw [if_pos rfl]; exact mn
  · rcases get_set h1 with ⟨hj, h1⟩ | ⟨ej, _, e1⟩
    · rw [if_neg hj]
      rcases get_set h2 with ⟨hl, h2⟩ | ⟨el, _, e2⟩
      · rw [if_neg hl]; exact f.apart j l t u ne h1 h2
      · rw [if_pos el]; exact ap j t hj h1
    · rw [if_pos ej]
      rcases get_set h2 with ⟨hl, h2⟩ | ⟨el, _, e2⟩
      · rw [if_neg hl]; exact fun b hb hb' => ap l u hl h2 b hb' hb
      · exact absurd (ej.trans el.symm) ne
  · rcases get_set h with ⟨hj, h⟩ | ⟨rfl, _, e⟩
    · exact S.root j t a h o q
    · cases e
      exact S.root j s a hi (io o) q
  · refine out a u (fun hb => ?_) (S.frame a u h1 h2)
    rcases f.mine i s hi a hb with q | q
    · exact h2 q
    · rw [q] at h1; cases h1
theorem Sg.stepX {K : Kx} {O : Ow} {H0 H : Hp} {σ τ : L2.St} {env ts : Nv} (S : Sg K O H0 H σ env τ ts) {i : Nat} {s : Sl} (hi : env[i]? = some (some s)) :
    ∃ v fp, σ[i]? = some (some v) ∧ SlOk K H v s fp ∧ ∀ (H' : Hp) (s' : Sl), Kp H H' → (∀ b, H b ≠ none → H' b ≠ none) → (∀ b u, b ∉ fp → H b = some u → H' b = some u) → (∃ fp', SlOk K H' v s' fp' ∧ ∀ b ∈ fp', b ∈ fp ∨ H b = none) → (s'.io = true → s.io = true) → Sg K O H0 H' σ (env.set i (some s')) τ ts := by
  obtain ⟨v, hw, _⟩ := S.slot hi
  obtain ⟨fp, h1, h2⟩ := S.st.stepX (get_left hi) (get_left hw)
  refine ⟨v, fp, hw, h1, fun H' s' a b c d e => ?_⟩
  have h := h2 H' s' a b c d e
  rw [List.set_append_left _ _ (List.getElem?_eq_some_iff.mp hi).1] at h
  exact ⟨h, by simpa using S.le⟩
theorem same_live {H H' : Hp} (e : Same H H') : ∀ b, H b ≠ none → H' b ≠ none := fun b h => live_same e h
/-! ### quiet expressions: nothing is changed -/
abbrev QF := Nv → Option Dt
def RunsQ (K : Kx) (t : TE) (f : QF) : Prop := ∀ (O : Ow) (H0 H : Hp) (σ : L2.St) (env : Nv) (τ : L2.St) (ts : Nv) (d : Dt) (Q : VK), Sg K O H0 H σ env τ ts → f env = some d → (∀ v H', Same H H' → Rp K H' d v → Q v H') → t σ H Q
section
variable {X : Cx} {e a b c : Expr} {es rest : List Expr} {pos : Pos}
def EQ (X : Cx) (e : Expr) (f : QF) : Prop := ∃ t, PE X e t ∧ RunsQ X.kx t f
def qVar (i : Nat) : QF := fun env => match env[i]? with
  | some (some (.im d)) => some d
  | _ => none
theorem eq_var (i : Nat) {x : Str} (hN : X.N[i]? = some x := by rfl) (hv : Vis X.env.scope x := by first | exact Or.inl rfl | exact Or.inr (Or.inl rfl) | exact Or.inr (Or.inr rfl)) (hd : (x == ("__debug__" : Str)) = false := by decide)
    (hcd : (x == ("__classdict__" : Str)) = false := by decide) : EQ X (.Name x pos) (qVar i) := by
  refine ⟨_, pe_var hN hv hd hcd, fun O H0 H σ env τ ts d Q S h k => ?_⟩
  unfold qVar at h
  split at h
  · rename_i d' he
    cases h
    obtain ⟨v, h1, h2⟩ := S.slotI he
    exact ⟨v, h1, k v H (Same.refl H) h2⟩
  · cases h
def qC (d : Dt) : QF := fun _ => some d
theorem eq_int {i : Int} {j : Nat} : EQ X (.Constant (.int i) j pos) (qC (.int i)) := ⟨_, pe_int, fun O H0 H σ env τ ts d Q S h k => by cases h; exact k _ H (Same.refl H) rfl⟩
def qOp (g : Dt → Dt → Option Dt) (fa fb : QF) : QF := fun env => match fa env with
  | some x => match fb env with
    | some y => g x y
    | none => none
  | none => none
theorem runs_qop {K : Kx} {r : R2} {g : Dt → Dt → Option Dt} {ta tb : TE} {fa fb : QF} (hr : OpD K r g) (ha : RunsQ K ta fa) (hb : RunsQ K tb fb) : RunsQ K (tOp r ta tb) (qOp g fa fb) := by
  intro O H0 H σ env τ ts d Q S h k
  unfold qOp at h
  split at h
  · rename_i x h1
    split at h
    · rename_i y h2
      refine ha O H0 H σ env τ ts x _ S h1 fun v1 H1 e1 r1 => ?_
      refine hb O H0 H1 σ env τ ts y _ (S.same e1) h2 fun v2 H2 e2 r2 => ?_
      exact hr H2 v1 v2 x y d Q (Rp.kp (.of_same e2) _ _ r1) r2 h fun v H' e r => k v H' (fun b u q => e b u (e2 b u (e1 b u q))) r
    · cases h
  · cases h
theorem eq_ix {fa fb : QF} (ha : EQ X a fa) (hb : EQ X b fb) (hs : PlainIx b) : EQ X (.Subscript a b pos) (qOp dIx fa fb) := by
  obtain ⟨ta, h1, h2⟩ := ha
  obtain ⟨tb, h3, h4⟩ := hb
  exact ⟨_, pe_ix ix_seq h1 h3 hs, runs_qop od_ix h2 h4⟩
def qAll : List QF → Nv → Option (List Dt)
  | [], _ => some []
  | f :: r, env => match f env with
    | some d => match qAll r env with
      | some ds => some (d :: ds)
      | none => none
    | none => none
def EQs (X : Cx) (es : List Expr) (fs : List QF) : Prop := ∃ t, PA X es t ∧ ∀ (O : Ow) (H0 H : Hp) (σ : L2.St) (env : Nv) (τ : L2.St) (ts : Nv) (ds : List Dt) (Q : List V → Hp → Prop), Sg X.kx O H0 H σ env τ ts → qAll fs env = some ds →
  (∀ vs H', Same H H' → RpL X.kx H' ds vs → Q vs H') → t σ H Q
theorem eqs_nil : EQs X [] [] := ⟨_, pa_nil, fun O H0 H σ env τ ts ds Q S h k => by cases h; exact k [] H (Same.refl H) rfl⟩
theorem eqs_cons {f : QF} {fs : List QF} (h : EQ X e f) (hr : EQs X es fs) (hs : starEach (e :: es) X.env = (false, eval e X.env) :: starEach es X.env := by rfl) : EQs X (e :: es) (f :: fs) := by
  obtain ⟨_, h1, h2⟩ := h
  obtain ⟨_, h3, h4⟩ := hr
  refine ⟨_, pa_cons h1 h3 hs, fun O H0 H σ env τ ts ds Q S h k => ?_⟩
  unfold qAll at h
  split at h
  · rename_i d he
    split at h
    · rename_i ds' he2
      cases h
      refine h2 O H0 H σ env τ ts d _ S he fun v H1 e1 r1 => ?_
      refine h4 O H0 H1 σ env τ ts ds' _ (S.same e1) he2 fun vs H2 e2 r2 => ?_
      exact k (v :: vs) H2 (fun b u q => e2 b u (e1 b u q)) ⟨v, vs, rfl, Rp.kp (.of_same e2) _ _ r1, r2⟩
    · cases h
  · cases h
def qTup (fs : List QF) : QF := fun env => match qAll fs env with
  | some ds => if ds.length ≤ 1000 then some (.tuple ds) else none
  | none => none
theorem eq_tup {fs : List QF} {x1 : Nat} (h : EQs X es fs) : EQ X (.Tuple es x1 pos) (qTup fs) := by
  obtain ⟨_, h1, h2⟩ := h
  refine ⟨_, pe_tup h1, fun O H0 H σ env τ ts d Q S h k => ?_⟩
  unfold qTup at h
  split at h
  · rename_i ds he
    split at h
    · rename_i hl
      cases h
      refine h2 O H0 H σ env τ ts ds _ S he fun vs H1 e1 r => ⟨sz1000 (by rw [r.length]; exact hl), fun p hp => k _ _ (fun b u q => same_upd hp b u (e1 b u q)) ?_⟩
      exact ⟨p, vs, rfl, .inl (.inl upd_same), r.kp (.new hp)⟩
    · cases h
  · cases h

/-! ### dicts of own lists -/
def lookG : List (Dt × List Dt) → NestedKey → Option (List Dt)
  | [], _ => none
  | p :: r, k => if keyOf p.1 = some k then some p.2 else lookG r k
def setG : List (Dt × List Dt) → NestedKey → List Dt → List (Dt × List Dt)
  | [], _, _ => []
  | p :: r, k, ds => if keyOf p.1 = some k then (p.1, ds) :: r else p :: setG r k ds
def ogAt (env : Nv) (i : Nat) : Option (Bool × List (Dt × List Dt)) := match env[i]? with
  | some (some (.og io kvs)) => some (io, kvs)
  | _ => none
theorem ogAt_eq {env : Nv} {i : Nat} {io : Bool} {kvs : List (Dt × List Dt)} (h : ogAt env i = some (io, kvs)) : env[i]? = some (some (.og io kvs)) := by
  unfold ogAt at h
  split at h
  · rename_i io d he
    cases h
    exact he
  · cases h
theorem RowsD.at {K : Kx} {H : Hp} (k : NestedKey) : ∀ {kvs : List (Dt × List Dt)} {es : List Ent} {as : List Addr} {ds : List Dt}, as.Nodup → RowsD K H kvs es as → lookG kvs k = some ds →
    ∃ a ys, valE es k = some (.ref a) ∧ a ∈ as ∧ H a = some (.lst ys) ∧ RpL K H ds ys ∧ ∀ ds' ys', RpL K H ds' ys' → RowsD K (upd H a (.lst ys')) (setG kvs k ds') es as
  | [], _, _, _, _, _, h => by cases h
  | p :: r, _, _, ds, nd, h, hl => by
    obtain ⟨e, es', a, r', ys, rfl, rfl, h0, h1, h2, h3, h4, h5⟩ := h
    unfold lookG at hl
    unfold valE setG
    simp only [h0, Option.some.injEq] at hl ⊢
    by_cases q : e.1 = k
    · rw [if_pos q] at hl
      cases hl
      rw [if_pos q]
      refine ⟨a, ys, by rw [h2], List.mem_cons_self, h3, h4, fun ds' ys' hr => ?_⟩
      rw [if_pos q]
      have kp : Kp H (upd H a (.lst ys')) := .lst h3
      refine ⟨e, es', a, r', ys', rfl, rfl, h0, Rp.kp kp _ _ h1, h2, upd_same, hr.kp kp, h5.kp kp fun b hb u qb => ?_⟩
      rw [upd_ne (fun z => by subst z; exact (List.nodup_cons.mp nd).1 hb)]
      exact qb
    · rw [if_neg q] at hl
      rw [if_neg q]
      obtain ⟨a2, ys2, g1, g2, g3, g4, g5⟩ := RowsD.at k (List.nodup_cons.mp nd).2 h5 hl
      refine ⟨a2, ys2, g1, List.mem_cons_of_mem _ g2, g3, g4, fun ds' ys' hr => ?_⟩
      rw [if_neg q]
      have kp : Kp H (upd H a2 (.lst ys')) := .lst g3
      refine ⟨e, es', a, r', ys, rfl, rfl, h0, Rp.kp kp _ _ h1, h2, ?_, h4.kp kp, g5 ds' ys' hr⟩
      rw [upd_ne (fun z => by subst z; exact (List.nodup_cons.mp nd).1 g2)]
      exact h3
theorem RowsD.snoc {K : Kx} {H : Hp} {key : Dt} {k : NestedKey} {b p : Addr} {ys : List V} {ds : List Dt} (hk : keyOf key = some k) (rk : Rp K H key (.ref b)) (hp : H p = some (.lst ys)) (hr : RpL K H ds ys) : ∀ {kvs : List (Dt × List Dt)} {es : List Ent} {as : List Addr}, RowsD K H kvs es as →
    RowsD K H (kvs ++ [(key, ds)]) (es ++ [(k, b, .ref p)]) (as ++ [p])
  | [], _, _, h => by
    obtain ⟨rfl, rfl⟩ := h
    exact ⟨_, _, p, _, ys, rfl, rfl, hk, rk, rfl, hp, hr, rfl, rfl⟩
  | q :: r, _, _, h => by
    obtain ⟨e, es', a, r', ys', rfl, rfl, h0, h1, h2, h3, h4, h5⟩ := h
    exact ⟨e, _, a, _, ys', rfl, rfl, h0, h1, h2, h3, h4, RowsD.snoc hk rk hp hr h5⟩
/-- g[k].append(x) -/
def sAppG (i : Nat) (fk fx : QF) : SF := fun env => match ogAt env i with
  | some (io, kvs) => match fk env with
    | some key => match keyOf key with
      | some k => match fx env with
        | some x => match lookG kvs k with
          | some ds => if ds.length < 10000000 then some (.nx (env.set i (some (.og io (setG kvs k (ds ++ [x])))))) else none
          | none => none
        | none => none
      | none => none
    | none => none
  | none => none
theorem sx_appG {i : Nat} {x : Str} {fk fx : QF} {p apos cpos spos gpos : Pos} (hu : X.A.units + 64 < cLine) (hk : EQ X a fk) (hns : NoSl a) (h : EQ X e fx) (hN : X.N[i]? = some x := by rfl) (hv : Vis X.env.scope x := by first | exact Or.inl rfl | exact Or.inr (Or.inl rfl) | exact Or.inr (Or.inr rfl)) (hd : (x == ("__debug__" : Str)) = false := by decide) (hcd : (x == ("__classdict__" : Str)) = false := by decide)
    (h1 : attributeBase (.Subscript (.Name x p) a gpos) ("append" : Str) X.env (eval (.Subscript (.Name x p) a gpos) X.env) = eval (.Subscript (.Name x p) a gpos) X.env := by rfl)
    (h2 : (((((backTo cpos (starEach [e] X.env)).all fun x => !x.fst) && (backToKw cpos (keywordEach [] X.env)).all fun x => x.fst.isSome) && decide (([e].length + ([] : List Keyword).length + if ([] : List Keyword).isEmpty = true then 0 else 1) < 30)) = true) := by rfl)
    (h3 : (apos.endLine == cpos.line) = true := by rfl) (h4 : starEach [e] X.env = (false, eval e X.env) :: starEach [] X.env := by rfl) (h5 : ((backTo cpos (starEach [] X.env)).any fun x => x.fst) = false := by rfl)
    (h6 : swapsWith (.Call (.Attribute (.Subscript (.Name x p) a gpos) ("append" : Str) apos) [e] [] cpos) none spos.line X.env = pure false := by rfl) :
    SX X (.Expr (.Call (.Attribute (.Subscript (.Name x p) a gpos) ("append" : Str) apos) [e] [] cpos) spos) (sAppG i fk fx) := by
  obtain ⟨tk, k1, k2⟩ := hk
  obtain ⟨t, g1, g2⟩ := h
  refine ⟨_, ps_expr (pe_bm PySem.F.plainAttrs_list PySem.F.slot_list_append PySem.F.type_list_append mt_append (pe_nget hu (pe_var hN hv hd hcd) k1 hns) (pa_cons g1 pa_nil h4) h1 h2 h3 h4 h5) h6, fun O H0 H σ env τ ts out D S h k => ?_⟩
  unfold sAppG at h
  split at h
  · rename_i io kvs ho
    split at h
    · rename_i key hkey
      split at h
      · rename_i nk hnk
        split at h
        · rename_i xd hx
          split at h
          · rename_i ds hl
            split at h
            · rename_i hlen
              cases h
              obtain ⟨v, fp, hw, ⟨a0, ents, as, rfl, rfl, nd, hH, hr⟩, fin⟩ := S.stepX (ogAt_eq ho)
              refine ⟨_, hw, k2 O H0 H σ env τ ts key _ S hkey fun yv H1 e1 ry => ?_⟩
              have nd' := (List.nodup_cons.mp nd).2
              have hr1 := hr.kp (.of_same e1) fun b _ u q => e1 b u q
              obtain ⟨a1, ys, q1, q2, q3, q4, q5⟩ := hr1.at nk nd' hl
              refine ⟨a0, ents, nk, .ref a1, rfl, ⟨.inl (e1 _ _ hH), hr1.toK.keysOk⟩, ⟨key, hnk, ry⟩, q1, .inl ⟨rfl, ys, .inl (.inl q3)⟩, g2 O H0 H1 σ env τ ts xd _ (S.same e1) hx fun xv H2 e2 rx => ?_⟩
              have q3' := e2 _ _ q3
              refine ⟨a1, ys, xv, rfl, rfl, q3', Nat.lt_of_lt_of_le (by rw [q4.length]; exact hlen) (by decide), k σ _ ?_⟩
              have e12 : Same H H2 := fun b u q => e2 b u (e1 b u q)
              have hr2 := hr.kp (.of_same e12) fun b _ u q => e12 b u q
              obtain ⟨a1', ys', p1, p2, p3, p4, p5⟩ := hr2.at nk nd' hl
              rw [q1] at p1; cases p1
              rw [q3'] at p3; cases p3
              have ne0 : a0 ≠ a1 := fun z => by subst z; exact (List.nodup_cons.mp nd).1 q2
              refine fin _ _ ((Kp.of_same e12).trans (.lst q3')) (fun b hb => live_upd (same_live e12 b hb)) (fun b u hb q => ?_) ⟨a0 :: as, ⟨a0, ents, as, rfl, rfl, nd, ?_, p5 _ _ (p4.append (.one rx))⟩, fun b hb => .inl hb⟩ id
              · rw [upd_ne (fun z => hb (by subst z; exact List.mem_cons_of_mem _ q2))]
                exact e12 b u q
              · rw [upd_ne ne0]
                exact e12 _ _ hH
            · cases h
          · cases h
        · cases h
      · cases h
    · cases h
  · cases h
/-- g[k] = [], of a new key -/
def sPutG (i : Nat) (fk : QF) : SF := fun env => match ogAt env i with
  | some (io, kvs) => match fk env with
    | some key => match keyOf key with
      | some k => if hasD (kvs.map (·.1)) k = false ∧ kvs.length < 10000000 then some (.nx (env.set i (some (.og io (kvs ++ [(key, [])]))))) else none
      | none => none
    | none => none
  | none => none
theorem sx_putG {i : Nat} {x : Str} {fk : QF} {p pos' lpos : Pos} (hu : X.A.units + 64 < cLine) (hk : EQ X a fk) (hN : X.N[i]? = some x := by rfl) (hv : Vis X.env.scope x := by first | exact Or.inl rfl | exact Or.inr (Or.inl rfl) | exact Or.inr (Or.inr rfl)) (hd : (x == ("__debug__" : Str)) = false := by decide) (hcd : (x == ("__classdict__" : Str)) = false := by decide)
    (hs : swapsWith (.List [] lpos) (some (.Subscript (.Name x p) a pos')) pos.line X.env = pure false := by rfl) : SX X (.Assign [.Subscript (.Name x p) a pos'] (.List [] lpos) pos) (sPutG i fk) := by
  obtain ⟨tk, k1, k2⟩ := hk
  refine ⟨_, ps_nput hu (pe_var hN hv hd hcd) k1 (pe_lst pa_nil) hs, fun O H0 H σ env τ ts out D S h k => ?_⟩
  unfold sPutG at h
  split at h
  · rename_i io kvs ho
    split at h
    · rename_i key hkey
      split at h
      · rename_i nk hnk
        split at h
        · rename_i hc
          cases h
          obtain ⟨v, fp, hw, ⟨a0, ents, as, rfl, rfl, nd, hH, hr⟩, fin⟩ := S.stepX (ogAt_eq ho)
          refine ⟨Nat.zero_le _, fun q hq => ?_⟩
          have e0 := same_upd (o := .lst []) hq
          refine ⟨_, hw, k2 O H0 _ σ env τ ts key _ (S.same e0) hkey fun yv H1 e1 ry => ?_⟩
          have e01 : Same H H1 := fun b u z => e1 b u (e0 b u z)
          have hr1 := hr.kp (.of_same e01) fun b _ u z => e01 b u z
          have hl := hr1.toK.length
          obtain ⟨bb, rfl⟩ := IsK.ref (K := X.kx) (H := H1) (k := nk) ⟨key, hnk, ry⟩
          have hno : (valE ents nk).isSome = false := by rw [hr1.toK.has nk]; exact hc.1
          have hput : putE ents nk bb (.ref q) = ents ++ [(nk, bb, .ref q)] := by unfold putE; rw [hno]; rfl
          have hq1 : H1 q = some (.lst []) := e1 _ _ upd_same
          have hd1 := e01 _ _ hH
          have ne0 : q ≠ a0 := fun z => by subst z; rw [hq] at hH; cases hH
          have nas : q ∉ as := fun z => by
            obtain ⟨ys, e⟩ := hr.there q z
            rw [hq] at e; cases e
          refine ⟨a0, bb, ents, nk, rfl, rfl, hd1, hr1.toK.keysOk, Nat.lt_of_lt_of_le (by rw [hl]; simpa using hc.2) (by decide), ⟨key, hnk, ry⟩, k σ _ ?_⟩
          have kp2 : Kp H1 (upd H1 a0 (dN X.w a0 (putE ents nk bb (.ref q)))) := .ext hd1
          refine fin _ _ ((Kp.of_same e01).trans kp2) (fun b hb => live_upd (same_live e01 b hb)) (fun b u hb z => ?_) ⟨a0 :: (as ++ [q]), ⟨a0, ents ++ [(nk, bb, .ref q)], as ++ [q], rfl, rfl, ?_, by rw [hput]; exact upd_same, ?_⟩, fun b hb => ?_⟩ id
          · rw [upd_ne (fun z => hb (by subst z; exact List.mem_cons_self))]
            exact e01 b u z
          · have := List.nodup_cons.mp nd
            refine List.nodup_cons.mpr ⟨fun z => ?_, List.nodup_append.mpr ⟨this.2, by simp, fun x hx y hy z => ?_⟩⟩
            · rcases List.mem_append.mp z with z | z
              · exact this.1 z
              · exact ne0 (List.mem_singleton.mp z).symm
            · cases List.mem_singleton.mp hy
              exact nas (z ▸ hx)
          · have := RowsD.snoc (K := X.kx) (H := H1) hnk ry hq1 (ds := []) rfl hr1
            refine this.kp kp2 fun b hb u z => ?_
            rw [upd_ne (fun w => ?_)]
            · exact z
            · subst w
              rcases List.mem_append.mp hb with y | y
              · exact (List.nodup_cons.mp nd).1 y
              · exact ne0 (List.mem_singleton.mp y).symm
          · rcases List.mem_cons.mp hb with rfl | hb
            · exact .inl List.mem_cons_self
            · rcases List.mem_append.mp hb with hb | hb
              · exact .inl (List.mem_cons_of_mem _ hb)
              · cases List.mem_singleton.mp hb
                exact .inr hq
        · cases h
      · cases h
    · cases h
  · cases h
/-! ### all is locked -/
def LockAll (H H' : Hp) (fp : List Addr) : Prop := (∀ b, b ∉ fp → H' b = H b) ∧ ∀ b ∈ fp, ∃ o u, H b = some u ∧ H' b = some (.frz o u)
theorem lockAll {pins : List (Addr × Obj)} {σ : L2.St} {s : Shared} : ∀ {fp : List Addr} {H : Hp}, fp.Nodup → (∀ b ∈ fp, ∃ u, H b = some u ∧ Mut (some u)) → L2.Inv X pins σ H s → ∃ H', LockAll H H' fp ∧ L2.Inv X pins σ H' s
  | [], H, _, _, I => ⟨H, ⟨fun _ _ => rfl, fun b hb => by cases hb⟩, I⟩
  | a :: fp, H, nd, hm, I => by
    obtain ⟨u, h1, h2⟩ := hm a List.mem_cons_self
    obtain ⟨o, I1⟩ := I.lock h1 h2
    have nd' := List.nodup_cons.mp nd
    obtain ⟨H', ⟨g1, g2⟩, I2⟩ := lockAll (H := upd H a (.frz o u)) nd'.2 (fun b hb => by
      rw [upd_ne (fun z => by subst z; exact nd'.1 hb)]
      exact hm b (List.mem_cons_of_mem _ hb)) I1
    refine ⟨H', ⟨fun b hb => ?_, fun b hb => ?_⟩, I2⟩
    · rw [g1 b (fun z => hb (List.mem_cons_of_mem _ z)), upd_ne (fun z => hb (by subst z; exact List.mem_cons_self))]
    · rcases List.mem_cons.mp hb with rfl | hb'
      · exact ⟨o, u, h1, by rw [g1 b nd'.1, upd_same]⟩
      · obtain ⟨o', u', q1, q2⟩ := g2 b hb'
        rw [upd_ne (fun z => by subst z; exact nd'.1 hb')] at q1
        exact ⟨o', u', q1, q2⟩
theorem LockAll.kp {H H' : Hp} {fp : List Addr} (l : LockAll H H' fp) (hm : ∀ b ∈ fp, ∃ u, H b = some u ∧ Mut (some u)) : Kp H H' := by
  refine ⟨fun b xs e => ?_, fun b o u e => ?_⟩
  · by_cases hb : b ∈ fp
    · obtain ⟨u, q, m⟩ := hm b hb
      rw [e] at q; cases q; exact m.elim
    · rw [l.1 b hb]; exact e
  · by_cases hb : b ∈ fp
    · obtain ⟨u, q, m⟩ := hm b hb
      rw [e] at q; cases q; exact m.elim
    · rw [l.1 b hb]; exact e
theorem LockAll.live {H H' : Hp} {fp : List Addr} (l : LockAll H H' fp) : ∀ b, H b ≠ none → H' b ≠ none := fun b h => by
  by_cases hb : b ∈ fp
  · obtain ⟨o, u, _, q⟩ := l.2 b hb
    rw [q]; exact fun z => nomatch z
  · rw [l.1 b hb]; exact h
def asG (kvs : List (Dt × List Dt)) : List (Dt × Dt) := kvs.map fun p => (p.1, .list p.2)
theorem RowsD.frozen {K : Kx} {H H' : Hp} (kp : Kp H H') : ∀ {kvs : List (Dt × List Dt)} {es : List Ent} {as : List Addr}, (∀ b ∈ as, ∃ o u, H b = some u ∧ H' b = some (.frz o u)) → RowsD K H kvs es as → RpD K H' (asG kvs) es
  | [], _, _, _, h => h.1
  | p :: r, _, _, hl, h => by
    obtain ⟨e, es', a, r', ys, rfl, rfl, h0, h1, h2, h3, h4, h5⟩ := h
    obtain ⟨o, u, q1, q2⟩ := hl a List.mem_cons_self
    rw [h3] at q1; cases q1
    refine ⟨e, es', rfl, ⟨h0, Rp.kp kp _ _ h1, ?_⟩, RowsD.frozen kp (fun b hb => hl b (List.mem_cons_of_mem _ hb)) h5⟩
    rw [h2]
    exact ⟨a, ys, rfl, .inl ⟨o, q2⟩, h4.kp kp⟩
/-- a dict of own lists, read as data -/
def eVarG (i : Nat) : EF := fun env => match env[i]? with
  | some (some (.og _ kvs)) => some (.dict (asG kvs), env.set i (some (.im (.dict (asG kvs)))))
  | _ => none
def tVarG (i : Nat) : TE := fun σ H Q => ∃ v fp, σ[i]? = some (some v) ∧ fp.Nodup ∧ (∀ b ∈ fp, ∃ u, H b = some u ∧ Mut (some u)) ∧ ∀ H', LockAll H H' fp → Q v H'
theorem pe_varG {i : Nat} {x : Str} (hN : X.N[i]? = some x) (hv : Vis X.env.scope x) (hd : (x == ("__debug__" : Str)) = false) (hcd : (x == ("__classdict__" : Str)) = false) : PE X (.Name x pos) (tVarG i) := ⟨fun pins s σ H Q I h => by
  obtain ⟨v, fp, e, nd, hm, h⟩ := h
  refine thn ((pe_var (pos := pos) hN hv hd hcd).run pins s σ H (fun u H' => u = v ∧ H' = H) I ⟨v, e, rfl, rfl⟩) fun u s' ⟨v', H', I', r, ev, eH⟩ => ?_
  subst ev; subst eH
  obtain ⟨H2, l, I2⟩ := lockAll nd hm I'
  exact ⟨_, _, I2, r, h H2 l⟩⟩
theorem ei_varG (i : Nat) {x : Str} (hN : X.N[i]? = some x := by rfl) (hv : Vis X.env.scope x := by first | exact Or.inl rfl | exact Or.inr (Or.inl rfl) | exact Or.inr (Or.inr rfl)) (hd : (x == ("__debug__" : Str)) = false := by decide)
    (hcd : (x == ("__classdict__" : Str)) = false := by decide) : EI X (.Name x pos) (eVarG i) := by
  refine ⟨tVarG i, pe_varG hN hv hd hcd, fun O H0 H σ env τ ts d env' Q S h k => ?_⟩
  unfold eVarG at h
  split at h
  · rename_i io kvs he
    cases h
    obtain ⟨v, fp, hw, ⟨a0, ents, as, rfl, rfl, nd, hH, hr⟩, fin⟩ := S.stepX he
    have hm : ∀ b ∈ a0 :: as, ∃ u, H b = some u ∧ Mut (some u) := fun b hb => by
      rcases List.mem_cons.mp hb with rfl | hb
      · exact ⟨_, hH, trivial⟩
      · obtain ⟨ys, e⟩ := hr.there b hb
        exact ⟨_, e, trivial⟩
    refine ⟨_, a0 :: as, hw, nd, hm, fun H' l => k _ H' ?_⟩
    have kp := l.kp hm
    obtain ⟨o, u, q1, q2⟩ := l.2 a0 List.mem_cons_self
    rw [hH] at q1; cases q1
    have rd : Rp X.kx H' (.dict (asG kvs)) (.ref a0) := ⟨a0, ents, o, rfl, q2, hr.frozen kp fun b hb => l.2 b (List.mem_cons_of_mem _ hb)⟩
    have S' := fin H' (.im (.dict (asG kvs))) kp l.live (fun b u hb q => by rw [l.1 b hb]; exact q) ⟨[], ⟨rd, rfl⟩, fun b hb => by cases hb⟩ (fun z => by cases z)
    exact S'.push rd
  · cases h
/-! ### d.get(k, x), len(d) -/
def isN (K : Kx) (H : Hp) (a : Addr) : Prop := ∃ es, NDict K H a es
def tNGet2 (K : Kx) (td ty tx : TE) : TE := fun σ H Q => td σ H fun x H1 => ∃ a, x = .ref a ∧ isN K H1 a ∧ ty σ H1 fun y H2 => tx σ H2 fun z H3 => ∃ es k, NDict K H3 a es ∧ IsK K H3 y k ∧ Q ((valE es k).getD z) H3
theorem pe_nget2 {o e f : Expr} {td ty tx : TE} {apos cpos : Pos} (hu : X.A.units + 64 < cLine) (ho : PE X o td) (he : PE X e ty) (hf : PE X f tx) (m : M2 X o "get" apos e f cpos) : PE X (.Call (.Attribute o "get" apos) [e, f] [] cpos) (tNGet2 X.kx td ty tx) := by
  refine ⟨fun pins s σ H Q I h => ?_⟩
  refine wpAny_Call_method m.base m.few m.line PySem.F.plainAttrs_dict PySem.F.slot_dict_get PySem.F.type_dict_get (thn (ho.run pins s σ H _ I h) fun u s1 ⟨x, H1, I1, rx, a, ex, ⟨es1, d1⟩, q1⟩ => ?_)
  subst ex
  obtain rfl : u = Value.ref a := rx
  obtain ⟨_, _, xs, _, dd⟩ := dn_of I1 d1.1 d1.2
  refine ⟨dd.typeIs, fun b q => ?_, ?_⟩
  · cases q
    obtain ⟨ob, _, _, h1, h2, _⟩ := dd
    exact ⟨ob, h1, h2.2.1⟩
  rw [m.trees]
  refine Calls.callWith_builtin rfl (Calls.evalArgs_plain (Calls.spliced_cons (thn (he.run pins s1 σ H1 _ I1 q1) fun iv s2 ⟨y, H2, I2, ry, q2⟩ =>
    Calls.spliced_cons (thn (hf.run pins s2 σ H2 _ I2 q2) fun fv s3 ⟨z, H3, I3, rz, es, k, g, hk, q3⟩ => Calls.spliced_nil ?_))))
  obtain ⟨b, rfl⟩ := hk.ref
  obtain rfl : iv = Value.ref b := ry
  obtain ⟨_, hd, xs3, rel, dd3⟩ := dn_of I3 g.1 g.2
  refine getOr_keyed (room8 hu) (IsK.is I3 hk) hd ⟨xs3, dd3, rfl⟩ ⟨_, H3, I3.tok _, ?_, q3⟩
  rw [valueAt_pairsH]
  exact (rel.val k).getD rz
def eGet2 (i : Nat) (fk fx : EF) : EF := fun env => match dictAt env i with
  | some _ => match fk env with
    | some (key, e1) => match keyOf key with
      | some k => match fx e1 with
        | some (x, e2) => match dictAt e2 i with
          | some kvs => match lookD kvs k with
            | some z => some (z, e2)
            | none => some (x, e2)
          | none => none
        | none => none
      | none => none
    | none => none
  | none => none
theorem ei_get2 {i : Nat} {x : Str} {fk fx : EF} {p apos cpos : Pos} (hu : X.A.units + 64 < cLine) (hk : EI X a fk) (hx : EI X b fx) (m : M2 X (.Name x p) "get" apos a b cpos) (hN : X.N[i]? = some x := by rfl) (hv : Vis X.env.scope x := by first | exact Or.inl rfl | exact Or.inr (Or.inl rfl) | exact Or.inr (Or.inr rfl)) (hd : (x == ("__debug__" : Str)) = false := by decide) (hcd : (x == ("__classdict__" : Str)) = false := by decide) :
    EI X (.Call (.Attribute (.Name x p) "get" apos) [a, b] [] cpos) (eGet2 i fk fx) := by
  obtain ⟨tk, k1, k2⟩ := hk
  obtain ⟨tx, x1, x2⟩ := hx
  refine ⟨_, pe_nget2 hu (pe_var hN hv hd hcd) k1 x1 m, fun O H0 H σ env τ ts d env' Q S h k => ?_⟩
  unfold eGet2 at h
  split at h
  · rename_i kv0 h0
    split at h
    · rename_i key e1 he1
      split at h
      · rename_i nk hnk
        split at h
        · rename_i xd e2 he2
          split at h
          · rename_i kvs hkvs
            obtain ⟨a0, es0, hw, r0, rd0⟩ := S.dict h0
            refine ⟨_, hw, a0, rfl, ⟨es0, r0, rd0.toK.keysOk⟩, k2 O H0 H σ env τ ts key e1 _ S he1 fun yv H1 S1 => ?_⟩
            refine x2 O H0 H1 σ e1 _ _ xd e2 _ S1 he2 fun zv H2 S2 => ?_
            obtain ⟨a', es, hw', r2, rd2⟩ := S2.dict hkvs
            rw [hw] at hw'; cases hw'
            have rx := S2.rp
            have ry := S2.pop.rp
            have hs := rd2.toK.has nk
            rw [hasD_look] at hs
            refine ⟨es, nk, ⟨r2, rd2.toK.keysOk⟩, ⟨key, hnk, ry⟩, ?_⟩
            split at h
            · rename_i z hz
              cases h
              obtain ⟨v, q1, q2⟩ := rd2.look nk hz
              rw [q1]
              exact k _ H2 (S2.pop.pop.push q2)
            · rename_i hz
              cases h
              rw [hz] at hs
              cases hv : valE es nk with
              | some v => rw [hv] at hs; cases hs
              | none => exact k _ H2 (S2.pop.pop.push rx)
          · cases h
        · cases h
      · cases h
    · cases h
  · cases h
def rLenN (K : Kx) : List V → Hp → VK → Prop := fun xs H Q => ∃ p es, xs = [.ref p] ∧ NDict K H p es ∧ Q (.int ((es.length : Nat) : Int)) H
theorem call_len_dN : CallR X (.builtin "len") (rLenN X.kx) := by
  intro pins s σ H xs us Q I r h
  obtain ⟨p, es, rfl, hp, q⟩ := h
  rw [Vals.ref1 r]
  obtain ⟨z, hd, xs, rel, dd⟩ := dn_of I hp.1 hp.2
  have hl : es.length = xs.length := Paired.length rel
  refine PySem.call_len_dictH hd dd (by rw [← hl]; rw [sizeLine_eq] at z; omega) ?_
  rw [← hl]
  exact ⟨.int _, H, I.tok _, ⟨_, rfl⟩, q⟩
def dLenN : List Dt → Option Dt
  | [.dict kvs] => some (.int (kvs.length : Int))
  | _ => none
theorem cd_lenN {K : Kx} : CallD K (rLenN K) dLenN := by
  intro H xs ds d Q r hg k
  unfold dLenN at hg
  split at hg
  · rename_i kvs
    cases hg
    obtain ⟨v, rfl, p, es, o, rfl, h1, h2⟩ := r.one_inv
    refine ⟨p, es, rfl, ⟨.inr ⟨o, h1⟩, h2.toK.keysOk⟩, ?_⟩
    rw [h2.length]
    exact k _ H (Same.refl H) rfl
  · cases hg
end
def C_HANDED : EF := eC (.tuple [.str "fewer", .str "least", .str "sizes", .str "turns"])
def C_LONGEST : EF := eC (.int 40)
def B_is_int : SF := (sRet (eAnd (eIsi isInt (eVar 0)) (eAnd (eNot (eIsi isBool (eVar 0))) (eChain dLe dLe (eVar 1) (eVar 0) (eVar 2)))))
def F_is_int : List Dt → Option Dt := fnP 3 0 B_is_int
def B_is_room : SF := (sRet (eCall F_is_int (aI (eVar 0) (aI (eC (.int 3)) (aI (eC (.int 5)) aNil)))))
def F_is_room : List Dt → Option Dt := fnP 1 0 B_is_room
def B_is_rule : SF := (sSeq (sIf (tOrF (tNotF (tVal (eIsi isTup (eVar 0)))) (tOrF (tVal (eOp dNe (eCall dLen (aI (eVar 0) aNil)) (eC (.int 2)))) (tNotF (tVal (eIsi isStr (eOp dIx (eVar 0) (eC (.int 0)))))))) (sRet (eC (.bool false))) sSkip)
    (sSeq (sAsg (eVar 0) (gTp (gsCons (gNm 1) (gsCons (gNm 2) gsNil))))
    (sSeq (sIf (tVal (eOp dIn (eVar 1) C_HANDED)) (sRet (eCall F_is_int (aI (eVar 2) (aI (eC (.int 0)) (aI (eC (.int 1)) aNil))))) sSkip)
    (sRet (eAnd (eOp dIn (eVar 1) (eTup (aI (eC (.str "fill")) (aI (eC (.str "stay")) aNil)))) (eCall F_is_int (aI (eVar 2) (aI (eC (.int 1)) (aI (eC (.int 5)) aNil)))))))))
def F_is_rule : List Dt → Option Dt := fnP 1 2 B_is_rule
def B_are_jobs : SF := (sSeq (sIf (tOrF (tNotF (tVal (eIsi isList (eVar 0)))) (tVal (eOp dGt (eCall dLen (aI (eVar 0) aNil)) C_LONGEST))) (sRet (eC (.bool false))) sSkip)
    (sRet (eCall dAll (aI (eNew (nLc [1] (itD (eVar 0)) (gNm 1) tYesF (eCall F_is_int (aI (eVar 1) (aI (eC (.int 0)) (aI (eC (.int 3)) aNil)))))) aNil))))
def F_are_jobs : List Dt → Option Dt := fnP 1 1 B_are_jobs
def B_need_room : SF := (sIf (tNotF (tVal (eCall F_is_room (aI (eVar 0) aNil)))) sNever sSkip)
def F_need_room : List Dt → Option Dt := fnP 1 0 B_need_room
def B_need_rule : SF := (sIf (tNotF (tVal (eCall F_is_rule (aI (eVar 0) aNil)))) sNever sSkip)
def F_need_rule : List Dt → Option Dt := fnP 1 0 B_need_rule
def B_need_both : SF := (sSeq (sExpr (eCall F_need_room (aI (eVar 0) aNil)))
    (sExpr (eCall F_need_rule (aI (eVar 1) aNil))))
def F_need_both : List Dt → Option Dt := fnP 2 0 B_need_both
def B_need_jobs : SF := (sIf (tNotF (tVal (eCall F_are_jobs (aI (eVar 0) aNil)))) sNever sSkip)
def F_need_jobs : List Dt → Option Dt := fnP 1 0 B_need_jobs
def B_begun : SF := (sRet (eTup (aI (eTup aNil) (aI (eTup aNil) (aI (eC .none) aNil)))))
def F_begun : List Dt → Option Dt := fnP 0 0 B_begun
def B_named : SF := (sSeq (sAsg (eVar 0) (gTp (gsCons (gNm 3) (gsCons (gNm 4) gsNil))))
    (sSeq (sSet 5 (eOp dIx (eVar 1) (eC (.int 2))))
    (sSeq (sIf (tVal (eOp dEq (eVar 3) (eC (.str "turns")))) (sRet (eIf (tVal (eOp dIs (eVar 5) (eC .none))) (eVar 4) (eOp dSub (eC (.int 1)) (eVar 5)))) sSkip)
    (sSeq (sIf (tVal (eOp dEq (eVar 3) (eC (.str "sizes")))) (sRet (eIf (tVal (eOp dEq (eVar 2) (eC (.int 1)))) (eVar 4) (eOp dSub (eC (.int 1)) (eVar 4)))) sSkip)
    (sSeq (sIf (tVal (eOp dEq (eVar 3) (eC (.str "fill")))) (sRet (eIf (tVal (eOp dLe (eOp dAdd (eCall dSum (aI (eOp dIx (eVar 1) (eC (.int 0))) aNil)) (eVar 2)) (eVar 4))) (eC (.int 0)) (eC (.int 1)))) sSkip)
    (sSeq (sIf (tVal (eOp dEq (eVar 3) (eC (.str "stay")))) (sSeq (sSet 5 (eIf (tVal (eOp dIs (eVar 5) (eC .none))) (eC (.int 0)) (eVar 5)))
    (sRet (eIf (tVal (eOp dLe (eOp dAdd (eCall dSum (aI (eOp dIx (eVar 1) (eVar 5)) aNil)) (eVar 2)) (eVar 4))) (eVar 5) (eOp dSub (eC (.int 1)) (eVar 5))))) sSkip)
    (sSeq (sAsg (eIf (tVal (eOp dEq (eVar 3) (eC (.str "least")))) (eTup (aI (eCall dSum (aI (eOp dIx (eVar 1) (eC (.int 0))) aNil)) (aI (eCall dSum (aI (eOp dIx (eVar 1) (eC (.int 1))) aNil)) aNil))) (eTup (aI (eCall dLen (aI (eOp dIx (eVar 1) (eC (.int 0))) aNil)) (aI (eCall dLen (aI (eOp dIx (eVar 1) (eC (.int 1))) aNil)) aNil)))) (gTp (gsCons (gNm 6) (gsCons (gNm 7) gsNil))))
    (sSeq (sIf (tVal (eOp dEq (eVar 6) (eVar 7))) (sRet (eVar 4)) sSkip)
    (sRet (eIf (tVal (eOp dLt (eVar 6) (eVar 7))) (eC (.int 0)) (eC (.int 1))))))))))))
def F_named : List Dt → Option Dt := fnP 3 5 B_named
def B_worked : SF := (sSeq (sIf (tVal (eOp dEq (eVar 0) (eTup aNil))) (sRet (eVar 0)) sSkip)
    (sRet (eIf (tVal (eOp dEq (eOp dIx (eVar 0) (eC (.int 0))) (eC (.int 1)))) (eSl (eVar 0) (oAt (eC (.int 1))) oNo) (eOp dAdd (eTup (aI (eOp dSub (eOp dIx (eVar 0) (eC (.int 0))) (eC (.int 1))) aNil)) (eSl (eVar 0) (oAt (eC (.int 1))) oNo)))))
def F_worked : List Dt → Option Dt := fnP 1 0 B_worked
def B_tick : SF := (sSeq (sPar [4, 5, 6, 7] (aN (nLst (aI (eOp dIx (eVar 2) (eC (.int 0))) (aI (eOp dIx (eVar 2) (eC (.int 1))) aNil))) (aI (eOp dIx (eVar 2) (eC (.int 2))) (aI (eC .none) (aI (eTup (aI (eC (.int 0)) (aI (eC (.int 0)) aNil))) aNil)))))
    (sSeq (sIf (tVal (eOp dGt (eVar 3) (eC (.int 0)))) (sSeq (sSet 5 (eCall F_named (aI (eVar 1) (aI (eVar 2) (aI (eVar 3) aNil)))))
    (sSeq (sSet 8 (eCall dSum (aI (eOpV dIx 4 (eVar 5)) aNil)))
    (sSeq (sSet 9 (eOp dGt (eOp dAdd (eVar 8) (eVar 3)) (eVar 0)))
    (sSeq (sSet 6 (eTup (aI (eVar 5) (aI (eVar 9) aNil))))
    (sSeq (sSet 7 (eIf (tVal (eVar 9)) (eTup (aI (eVar 3) (aI (eC (.int 0)) aNil))) (eTup (aI (eC (.int 0)) (aI (eOp dSub (eVar 8) (eCall dMin (aI (eVar 8) (aI (eCall dSum (aI (eOpV dIx 4 (eOp dSub (eC (.int 1)) (eVar 5))) aNil)) aNil)))) aNil)))))
    (sIf (tNotF (tVal (eVar 9))) (sSetI 4 (eVar 5) (eOp dAdd (eOpV dIx 4 (eVar 5)) (eTup (aI (eVar 3) aNil)))) sSkip)))))) sSkip)
    (sSeq (sSet 10 (eIf (tVal (eOp dIn (eOp dIx (eVar 1) (eC (.int 0))) (eTup (aI (eC (.str "stay")) (aI (eC (.str "turns")) aNil))))) (eVar 5) (eC .none)))
    (sRet (eTup (aI (eTup (aI (eCall F_worked (aI (eOpV dIx 4 (eC (.int 0))) aNil)) (aI (eCall F_worked (aI (eOpV dIx 4 (eC (.int 1))) aNil)) (aI (eVar 10) aNil)))) (aI (eVar 6) (aI (eVar 7) aNil))))))))
def F_tick : List Dt → Option Dt := fnP 4 7 B_tick
def B_run_l1 : SF := (sSeq (sAsg (eCall F_tick (aI (eVar 0) (aI (eVar 1) (aI (eVar 3) (aI (eVar 5) aNil))))) (gTp (gsCons (gNm 3) (gsCons (gNm 6) (gsCons (gNm 7) gsNil)))))
    (sApp 4 (eTup (aI (eVar 3) (aI (eVar 6) (aI (eVar 7) aNil))))))
def B_run : SF := (sSeq (sPar [3, 4] (aI (eCall F_begun aNil) (aN (nLst aNil) aNil)))
    (sSeq (sFor (itD (eVar 2)) (gNm 5) B_run_l1)
    (sRet (eVar 4))))
def F_run : List Dt → Option Dt := fnP 3 5 B_run
def B_need_run : SF := (sSeq (sExpr (eCall F_need_both (aI (eVar 0) (aI (eVar 1) aNil))))
    (sExpr (eCall F_need_jobs (aI (eVar 2) aNil))))
def F_need_run : List Dt → Option Dt := fnP 3 0 B_need_run
def B_notes_of : SF := (sRet (eNew (nLc [3, 4, 5] (itD (eCall F_run (aI (eVar 0) (aI (eVar 1) (aI (eVar 2) aNil))))) (gTp (gsCons (gNm 3) (gsCons (gNm 4) (gsCons (gNm 5) gsNil)))) tYesF (eVar 4))))
def F_notes_of : List Dt → Option Dt := fnP 3 3 B_notes_of
def B_notes_along : SF := (sSeq (sExpr (eCall F_need_run (aI (eVar 0) (aI (eVar 1) (aI (eVar 2) aNil)))))
    (sRet (eCall F_notes_of (aI (eVar 0) (aI (eVar 1) (aI (eVar 2) aNil))))))
def F_notes_along : List Dt → Option Dt := fnP 3 0 B_notes_along
def B_works_of : SF := (sRet (eTup (aI (eCall dSum (aI (eOp dIx (eVar 0) (eC (.int 0))) aNil)) (aI (eCall dSum (aI (eOp dIx (eVar 0) (eC (.int 1))) aNil)) aNil))))
def F_works_of : List Dt → Option Dt := fnP 1 0 B_works_of
def B_works_along : SF := (sSeq (sExpr (eCall F_need_run (aI (eVar 0) (aI (eVar 1) (aI (eVar 2) aNil)))))
    (sRet (eNew (nLc [3, 4, 5] (itD (eCall F_run (aI (eVar 0) (aI (eVar 1) (aI (eVar 2) aNil))))) (gTp (gsCons (gNm 3) (gsCons (gNm 4) (gsCons (gNm 5) gsNil)))) tYesF (eCall F_works_of (aI (eVar 3) aNil))))))
def F_works_along : List Dt → Option Dt := fnP 3 3 B_works_along
def B_waits_along : SF := (sSeq (sExpr (eCall F_need_run (aI (eVar 0) (aI (eVar 1) (aI (eVar 2) aNil)))))
    (sRet (eNew (nLc [3, 4, 5] (itD (eCall F_run (aI (eVar 0) (aI (eVar 1) (aI (eVar 2) aNil))))) (gTp (gsCons (gNm 3) (gsCons (gNm 4) (gsCons (gNm 5) gsNil)))) tYesF (eVar 5)))))
def F_waits_along : List Dt → Option Dt := fnP 3 3 B_waits_along
def B__law_draw : SF := (sSeq (sIf (tVal (eOp dGt (eOpV dIx 1 (eC (.int 1))) (eC (.int 0)))) (sSeq (sSet 3 (eOp dMod (eOpV dIx 1 (eC (.int 1))) (eVar 2)))
    (sSeq (sSetI 1 (eC (.int 1)) (eOp dFdiv (eOpV dIx 1 (eC (.int 1))) (eVar 2)))
    (sRet (eVar 3)))) sSkip)
    (sSeq (sSet 4 (eOpV dIx 1 (eC (.int 0))))
    (sSeq (sAugI (fun i j => i + j) 1 (eC (.int 0)) (eC (.int 1)))
    (sSeq (sIf (tVal (eOp dEq (eVar 0) (eNew (nLst aNil)))) (sRet (eOp dMod (eVar 4) (eVar 2))) sSkip)
    (sSeq (sIf (tAndF (tVal (eOp dLt (eVar 4) (eCall dLen (aI (eVar 0) aNil)))) (tVal (eOp dGe (eOp dIx (eVar 0) (eVar 4)) (eOp dPow (eC (.int 10)) (eC (.int 18)))))) (sSeq (sSetI 1 (eC (.int 1)) (eOp dMod (eOp dFdiv (eOp dIx (eVar 0) (eVar 4)) (eVar 2)) (eOp dMul (eOp dPow (eC (.int 10)) (eC (.int 60))) (eOp dPow (eC (.int 10)) (eC (.int 60))))))
    (sRet (eOp dMod (eOp dIx (eVar 0) (eVar 4)) (eVar 2)))) sSkip)
    (sSeq (sSet 5 (eOp dMod (eOp dAdd (eOp dAdd (eOp dMul (eOp dIx (eVar 0) (eOp dMod (eVar 4) (eCall dLen (aI (eVar 0) aNil)))) (eC (.int 1103515245))) (eOp dMul (eC (.int 7919)) (eVar 4))) (eC (.int 12345))) (eC (.int 2147483647))))
    (sRet (eOp dMod (eOp dMod (eOp dMod (eOp dPow (eVar 5) (eC (.int 5))) (eC (.int 2147483647))) (eC (.int 999983))) (eVar 2)))))))))
def F__law_draw : List Dt → List Dt → Option (Dt × List Dt) := fnT 3 3 B__law_draw
def B__law_pick : SF := (sRet (eOp dIx (eVar 2) (eCallT 1 F__law_draw (eVar 0) (aI (eCall dLen (aI (eVar 2) aNil)) aNil))))
def F__law_pick : List Dt → List Dt → Option (Dt × List Dt) := fnT 3 0 B__law_pick
def B__law_room : SF := (sRet (eOp dAdd (eC (.int 3)) (eCallT 1 F__law_draw (eVar 0) (aI (eC (.int 3)) aNil))))
def F__law_room : List Dt → List Dt → Option (Dt × List Dt) := fnT 2 0 B__law_room
def B__law_rule : SF := (sSeq (sSet 2 (eCallT 1 F__law_pick (eVar 0) (aI (eNew (nLst (aI (eC (.str "turns")) (aI (eC (.str "least")) (aI (eC (.str "fewer")) (aI (eC (.str "sizes")) (aI (eC (.str "fill")) (aI (eC (.str "stay")) aNil)))))))) aNil)))
    (sRet (eTup (aI (eVar 2) (aI (eIf (tVal (eOp dIn (eVar 2) (eTup (aI (eC (.str "fill")) (aI (eC (.str "stay")) aNil))))) (eOp dAdd (eC (.int 1)) (eCallT 1 F__law_draw (eVar 0) (aI (eC (.int 5)) aNil))) (eCallT 1 F__law_draw (eVar 0) (aI (eC (.int 2)) aNil))) aNil)))))
def F__law_rule : List Dt → List Dt → Option (Dt × List Dt) := fnT 2 1 B__law_rule
def B__law_jobs_l1 : SF := (sSeq (sSet 6 (eCallT 1 F__law_draw (eVar 0) (aI (eC (.int 4)) aNil)))
    (sApp 4 (eIf (tOrF (tVal (eOp dLt (eVar 3) (eC (.int 2)))) (tVal (eOp dEq (eCallT 1 F__law_draw (eVar 0) (aI (eC (.int 2)) aNil)) (eC (.int 0))))) (eVar 6) (eC (.int 3)))))
def B__law_jobs : SF := (sSeq (sPar [3, 4] (aI (eCallT 1 F__law_draw (eVar 0) (aI (eC (.int 3)) aNil)) (aN (nLst aNil) aNil)))
    (sSeq (sFor (itR (aI (eCallT 1 F__law_draw (eVar 0) (aI (eOp dAdd (eVar 2) (eC (.int 1))) aNil)) aNil)) (gNm 5) B__law_jobs_l1)
    (sRet (eVar 4))))
def F__law_jobs : List Dt → List Dt → Option (Dt × List Dt) := fnT 3 4 B__law_jobs
/-! ### loops in data -/
theorem forD_inv {α : Type} {g : GF} {b : SF} (enc : α → Dt) (R : List α → Nv → Prop) (all : List α) (H : ∀ pre x post env, all = pre ++ x :: post → R pre env → ∃ e1 e2, g (enc x) env = some e1 ∧ (b e1 = some (.nx e2) ∨ b e1 = some (.ct e2)) ∧ R (pre ++ [x]) e2) :
    ∀ xs pre env, all = pre ++ xs → R pre env → ∃ e', forD g b (xs.map enc) env = some (.nx e') ∧ R all e' := by
  intro xs
  induction xs with
  | nil =>
    intro pre env e h
    rw [List.append_nil] at e
    subst e
    exact ⟨env, rfl, h⟩
  | cons x xs ih =>
    intro pre env e h
    obtain ⟨e1, e2, h1, h2, h3⟩ := H pre x xs env e h
    obtain ⟨e', h4, h5⟩ := ih (pre ++ [x]) e2 (by rw [e]; simp) h3
    refine ⟨e', ?_, h5⟩
    rw [List.map_cons]
    unfold forD
    rw [h1]
    rcases h2 with h2 | h2
    · simp only [h2]; exact h4
    · simp only [h2]; exact h4
theorem forD_all {α : Type} {g : GF} {b : SF} (enc : α → Dt) (R : List α → Nv → Prop) (xs : List α) (env : Nv) (h0 : R [] env) (H : ∀ pre x post env, xs = pre ++ x :: post → R pre env → ∃ e1 e2, g (enc x) env = some e1 ∧ (b e1 = some (.nx e2) ∨ b e1 = some (.ct e2)) ∧ R (pre ++ [x]) e2) :
    ∃ e', forD g b (xs.map enc) env = some (.nx e') ∧ R xs e' := forD_inv enc R xs H xs [] env rfl h0
theorem lcD_map {α : Type} {vs : List Nat} {g : GF} {f : EF} {env : Nv} (enc h : α → Dt) : ∀ (xs : List α), (∀ x ∈ xs, ∃ e1 e2, g (enc x) env = some e1 ∧ f e1 = some (h x, e2) ∧ wip e2 vs = env) → lcD vs g tYesF f (xs.map enc) env = some (xs.map h, env) := by
  intro xs
  induction xs with
  | nil => intro _; rfl
  | cons x xs ih =>
    intro H
    obtain ⟨e1, e2, h1, h2, h3⟩ := H x List.mem_cons_self
    rw [List.map_cons, List.map_cons]
    unfold lcD
    simp only [h1, tYesF, h2, h3, ih fun y hy => H y (List.mem_cons_of_mem _ hy)]
theorem lcD_filter {α : Type} {vs : List Nat} {g : GF} {c : TF} {f : EF} {env : Nv} (enc h : α → Dt) (p : α → Bool) : ∀ (xs : List α), (∀ x ∈ xs, ∃ e1 e2, g (enc x) env = some e1 ∧ c e1 = some (p x, e2) ∧ wip e2 vs = env ∧ (p x = true → ∃ e3, f e2 = some (h x, e3) ∧ wip e3 vs = env)) → lcD vs g c f (xs.map enc) env = some ((xs.filter p).map h, env) := by
  intro xs
  induction xs with
  | nil => intro _; rfl
  | cons x xs ih =>
    intro H
    obtain ⟨e1, e2, h1, h2, h3, h4⟩ := H x List.mem_cons_self
    have ih' := ih fun y hy => H y (List.mem_cons_of_mem _ hy)
    rw [List.map_cons]
    unfold lcD
    cases hp : p x with
    | true =>
      rw [hp] at h2
      obtain ⟨e3, h5, h6⟩ := h4 hp
      simp only [h1, h2, h5, h6, ih', List.filter_cons, hp, if_true, List.map_cons]
    | false =>
      rw [hp] at h2
      simp only [h1, h2, h3, ih', List.filter_cons, hp]
      rfl

/-! ### ints -/
theorem dLt_int (a b : Int) : dLt (.int a) (.int b) = some (.bool (decide (a < b))) := by
  simp only [dLt, dCmp, okD, PySem.W.alike, PySem.W.dataLt_int, Bool.and_self, if_true]
theorem dGt_int (a b : Int) : dGt (.int a) (.int b) = some (.bool (decide (b < a))) := by
  simp only [dGt, dCmp, okD, PySem.W.alike, PySem.W.dataLt_int, Bool.and_self, if_true]
theorem dLe_int (a b : Int) : dLe (.int a) (.int b) = some (.bool (decide (a ≤ b))) := by
  simp only [dLe, dCmp, okD, PySem.W.alike, PySem.W.dataLt_int, Bool.and_self, if_true]
  by_cases h : a ≤ b
  · rw [decide_eq_true h, decide_eq_false (by omega : ¬ b < a)]; rfl
  · rw [decide_eq_false h, decide_eq_true (by omega : b < a)]; rfl
theorem dGe_int (a b : Int) : dGe (.int a) (.int b) = some (.bool (decide (b ≤ a))) := by
  simp only [dGe, dCmp, okD, PySem.W.alike, PySem.W.dataLt_int, Bool.and_self, if_true]
  by_cases h : b ≤ a
  · rw [decide_eq_true h, decide_eq_false (by omega : ¬ a < b)]; rfl
  · rw [decide_eq_false h, decide_eq_true (by omega : a < b)]; rfl
theorem dEq_int (a b : Int) : dEq (.int a) (.int b) = some (.bool (decide (a = b))) := by
  simp only [dEq, okD, Bool.and_self, if_true, PyData.eqv, Bool.beq_eq_decide_eq]
theorem dNe_int (a b : Int) : dNe (.int a) (.int b) = some (.bool (!decide (a = b))) := by
  simp only [dNe, okD, Bool.and_self, if_true, PyData.eqv, Bool.beq_eq_decide_eq]
theorem dMod_int {a b : Int} (h : 0 < b) : dMod (.int a) (.int b) = some (.int (a % b)) := by
  simp only [dMod, if_pos (show b ≠ 0 by omega), Int.fmod_eq_emod_of_nonneg a (show 0 ≤ b by omega)]
theorem dFdiv_int {a b : Int} (h : 0 < b) (h' : b < 1073741824) : dFdiv (.int a) (.int b) = some (.int (a / b)) := by
  simp only [dFdiv, if_pos (show b ≠ 0 ∧ b.natAbs < 1073741824 by omega), Int.fdiv_eq_ediv_of_nonneg a (show 0 ≤ b by omega)]
theorem atI_0 {α : Type} (x : α) (r : List α) : atI (x :: r) 0 = some x := by simp [atI, ixN]
theorem atI_1 {α : Type} (x y : α) (r : List α) : atI (x :: y :: r) 1 = some y := by
  have : (1 : Int) < ((x :: y :: r).length : Int) := by simp; omega
  simp only [atI, ixN, if_pos (show (0 : Int) ≤ 1 by decide), if_pos this]; rfl
theorem atI_2 {α : Type} (x y z : α) (r : List α) : atI (x :: y :: z :: r) 2 = some z := by
  have : (2 : Int) < ((x :: y :: z :: r).length : Int) := by simp; omega
  simp only [atI, ixN, if_pos (show (0 : Int) ≤ 2 by decide), if_pos this]; rfl
theorem atI_ge {α : Type} {xs : List α} {i : Int} (h0 : 0 ≤ i) (h1 : i < xs.length) : ∃ x, atI xs i = some x ∧ xs[i.toNat]? = some x := by
  have : i.toNat < xs.length := by omega
  refine ⟨xs[i.toNat], ?_, List.getElem?_eq_getElem this⟩
  simp only [atI, ixN, if_pos h0, if_pos h1]
  exact List.getElem?_eq_getElem this

/-! ### the draws -/
def TownOk (t : List Dt) : Prop := ∃ a b : Int, t = [.int a, .int b] ∧ 0 ≤ a ∧ 0 ≤ b
abbrev scr (ns : List Int) : Dt := .list (ns.map PyData.int)
theorem ixN_0 {n : Nat} : ixN (n + 1) 0 = some 0 := by
  unfold ixN
  rw [if_pos (by decide), if_pos (by omega)]; rfl
theorem ixN_1 {n : Nat} : ixN (n + 1 + 1) 1 = some 1 := by
  unfold ixN
  rw [if_pos (by decide), if_pos (by omega)]; rfl
theorem gTp_tup (gs : GsF) (ds : List Dt) (env : Nv) : gTp gs (.tuple ds) env = gs ds env := rfl
theorem dIx_list (ds : List Dt) (i : Int) : dIx (.list ds) (.int i) = atI ds i := rfl
theorem dIx_tup (ds : List Dt) (i : Int) : dIx (.tuple ds) (.int i) = atI ds i := rfl
theorem dAdd_int (a b : Int) : dAdd (.int a) (.int b) = some (.int (a + b)) := rfl
theorem dSub_int (a b : Int) : dSub (.int a) (.int b) = some (.int (a - b)) := rfl
theorem dAdd_tup (a b : List Dt) : dAdd (.tuple a) (.tuple b) = if a.length + b.length ≤ 10000000 then some (.tuple (a ++ b)) else none := rfl
theorem dAdd_list (a b : List Dt) : dAdd (.list a) (.list b) = if a.length + b.length ≤ 10000000 then some (.list (a ++ b)) else none := rfl
local macro_rules | `(tactic| wp_walk using $ts:term,*) => `(tactic| simp only [fnP, fnT, startD, startT, retD, retT, sSeq, sSkip, sNever, sRet, sRetN, sIf, sSet, sNew, sPar, sAsg, sExpr, sApp, sExt, sSetI, sAugI, sAug, sFor, setAll, tVal, tAndF, tOrF, tNotF, tYesF, eVar, eC, eOp, eOpV, eLenV, eUn, eNew, eAnd, eOr, eNot, eIf, eTup, eCall, eCallT, eIsi, eChain, eSl, oNo, oAt, ePop, nLst, nCall, nOp, nRep, nLc, aNil, aI, aN, aD, ims, itD, itR, itZ, itE, gNm, gTp_tup, gsNil, gsCons, owAt, valAt, wip, isDict, isInt, isBool, isStr, isList, isTup, C_HANDED, C_LONGEST,
  List.map, List.replicate, List.append_nil, List.nil_append, List.cons_append, List.length_cons, List.length_nil, List.getElem?_cons_zero, List.getElem?_cons_succ, List.set_cons_zero, List.set_cons_succ, if_true, if_false, Nat.reduceAdd, Nat.reduceLeDiff, Nat.reduceEqDiff, Nat.zero_le, Bool.false_eq_true, decide_true, decide_false, Bool.not_true, Bool.not_false, Int.reduceNeg, Int.reduceLT, Int.reduceLE, Int.reduceEq, dIx_list, dIx_tup, dAdd_int, dSub_int, dLt_int, dGt_int, dLe_int, dGe_int, dEq_int, dNe_int, atI_0, atI_1, atI_2, ixN_0, ixN_1, $[$ts:term],*])
theorem okL_ints (k : Nat) : ∀ ns : List Int, okL k (ns.map PyData.int) = true
  | [] => rfl
  | n :: r => by simp [okL, okD, okL_ints k r]
theorem okD_ints {k : Nat} (ns : List Int) : okD (k + 1) (.list (ns.map PyData.int)) = true := by simp only [okD]; exact okL_ints k ns
theorem okD_tints {k : Nat} (ns : List Int) : okD (k + 1) (.tuple (ns.map PyData.int)) = true := by simp only [okD]; exact okL_ints k ns
theorem dEq_ok {a b : Dt} (ha : okD 40 a = true) (hb : okD 40 b = true) : dEq a b = some (.bool (a.eqv b)) := by simp only [dEq, ha, hb, Bool.and_self, if_true]
theorem dNe_ok {a b : Dt} (ha : okD 40 a = true) (hb : okD 40 b = true) : dNe a b = some (.bool (!a.eqv b)) := by simp only [dNe, ha, hb, Bool.and_self, if_true]
theorem scr_nil (ns : List Int) : dEq (.list (ns.map PyData.int)) (.list []) = some (.bool ns.isEmpty) := by
  rw [dEq_ok (okD_ints ns) rfl]
  cases ns <;> rfl
theorem pow18 : dPow (.int 10) (.int 18) = some (.int 1000000000000000000) := by rfl
theorem pow60 : dPow (.int 10) (.int 60) = some (.int (10 ^ 60)) := by rfl
theorem mul60 : dMul (.int (10 ^ 60)) (.int (10 ^ 60)) = some (.int (10 ^ 60 * 10 ^ 60)) := by
  have e : ∀ i j : Int, dMul (.int i) (.int j) = if (-(2 ^ 64) < i ∧ i < 2 ^ 64) ∨ (-(2 ^ 64) < j ∧ j < 2 ^ 64) ∨ (-(2 ^ 1000) < i ∧ i < 2 ^ 1000 ∧ -(2 ^ 1000) < j ∧ j < 2 ^ 1000) then some (.int (i * j)) else none := fun _ _ => rfl
  rw [e, if_pos (.inr (.inr ⟨by decide, by decide, by decide, by decide⟩))]
theorem mul_small {a b : Int} (h : (-(2 ^ 64) < a ∧ a < 2 ^ 64) ∨ (-(2 ^ 64) < b ∧ b < 2 ^ 64)) : dMul (.int a) (.int b) = some (.int (a * b)) := by
  refine if_pos ?_
  rcases h with h | h
  · exact .inl h
  · exact .inr (.inl h)
theorem pow5 {a : Int} (h0 : 0 ≤ a) (h1 : a < 2147483647) : dPow (.int a) (.int 5) = some (.int (a ^ 5)) := by
  exact if_pos ⟨by decide, by decide, by omega⟩
theorem ix_ints {ns : List Int} {i : Int} (h0 : 0 ≤ i) (h1 : i < ns.length) : ∃ n, atI (ns.map PyData.int) i = some (.int n) := by
  obtain ⟨x, h2, h3⟩ := atI_ge (xs := ns.map PyData.int) h0 (by simpa using h1)
  rw [List.getElem?_map] at h3
  cases hn : ns[i.toNat]? with
  | none => rw [hn] at h3; cases h3
  | some n =>
    rw [hn] at h3
    cases h3
    exact ⟨n, h2⟩
theorem dLen_list (ds : List Dt) : dLen [.list ds] = some (.int (ds.length : Int)) := rfl
theorem dLen_tup (ds : List Dt) : dLen [.tuple ds] = some (.int (ds.length : Int)) := rfl
theorem draw_spec {ns : List Int} {m : Int} {t : List Dt} (h0 : 0 < m) (h1 : m < 1073741824) (ht : TownOk t) : ∃ x t', F__law_draw [scr ns, .int m] t = some (.int x, t') ∧ 0 ≤ x ∧ x < m ∧ TownOk t' := by
  obtain ⟨a, b, rfl, ha, hb⟩ := ht
  unfold F__law_draw B__law_draw
  by_cases hb0 : 0 < b
  · refine ⟨b % m, [.int a, .int (b / m)], ?_, Int.emod_nonneg _ (by omega), Int.emod_lt_of_pos _ h0, a, b / m, rfl, ha, Int.ediv_nonneg hb (by omega)⟩
    wp_walk using hb0, dMod_int h0, dFdiv_int h0 h1
  · have hb1 : b = 0 := by omega
    subst hb1
    cases hn : ns.isEmpty with
    | true =>
      refine ⟨a % m, [.int (a + 1), .int 0], ?_, Int.emod_nonneg _ (by omega), Int.emod_lt_of_pos _ h0, a + 1, 0, rfl, by omega, by omega⟩
      wp_walk using dMod_int h0, scr_nil, hn, Int.lt_irrefl
    | false =>
      have hl : 0 < ns.length := by
        cases ns with
        | nil => cases hn
        | cons x r => simp
      have hml : 0 < ((ns.map PyData.int).length : Int) := by simpa using hl
      obtain ⟨n2, hn2⟩ := ix_ints (ns := ns) (i := a % ((ns.map PyData.int).length : Int)) (Int.emod_nonneg _ (by omega)) (by have := Int.emod_lt_of_pos a hml; simpa using this)
      have fin : ∀ (x : Int), 0 ≤ x % 2147483647 ∧ x % 2147483647 < 2147483647 := fun x => ⟨Int.emod_nonneg _ (by decide), Int.emod_lt_of_pos _ (by decide)⟩
      have f1 := fin (n2 * 1103515245 + 7919 * a + 12345)
      have last : ∀ y : Int, 0 ≤ y % m ∧ y % m < m := fun y => ⟨Int.emod_nonneg _ (by omega), Int.emod_lt_of_pos _ h0⟩
      by_cases hal : a < (ns.map PyData.int).length
      · obtain ⟨n1, hn1⟩ := ix_ints (ns := ns) (i := a) ha (by simpa using hal)
        by_cases hbig : 1000000000000000000 ≤ n1
        · refine ⟨n1 % m, [.int (a + 1), .int (n1 / m % (10 ^ 60 * 10 ^ 60))], ?_, (last _).1, (last _).2, a + 1, _, rfl, by omega, Int.emod_nonneg _ (by decide)⟩
          wp_walk using dMod_int h0, dFdiv_int h0 h1, scr_nil, hn, Int.lt_irrefl, scr, dLen_list, hal, hn1, pow18, hbig, pow60, mul60, dMod_int (show (0 : Int) < 10 ^ 60 * 10 ^ 60 by decide)
        · refine ⟨((n2 * 1103515245 + 7919 * a + 12345) % 2147483647) ^ 5 % 2147483647 % 999983 % m, [.int (a + 1), .int 0], ?_, (last _).1, (last _).2, a + 1, 0, rfl, by omega, by omega⟩
          wp_walk using dMod_int h0, scr_nil, hn, Int.lt_irrefl, scr, dLen_list, hal, hn1, pow18, hbig, dMod_int hml, hn2, mul_small (a := n2) (b := 1103515245) (.inr ⟨by decide, by decide⟩), mul_small (a := 7919) (b := a) (.inl ⟨by decide, by decide⟩), dMod_int (show (0 : Int) < 2147483647 by decide), pow5 f1.1 f1.2, dMod_int (show (0 : Int) < 999983 by decide)
      · refine ⟨((n2 * 1103515245 + 7919 * a + 12345) % 2147483647) ^ 5 % 2147483647 % 999983 % m, [.int (a + 1), .int 0], ?_, (last _).1, (last _).2, a + 1, 0, rfl, by omega, by omega⟩
        wp_walk using dMod_int h0, scr_nil, hn, Int.lt_irrefl, scr, dLen_list, hal, pow18, dMod_int hml, hn2, mul_small (a := n2) (b := 1103515245) (.inr ⟨by decide, by decide⟩), mul_small (a := 7919) (b := a) (.inl ⟨by decide, by decide⟩), dMod_int (show (0 : Int) < 2147483647 by decide), pow5 f1.1 f1.2, dMod_int (show (0 : Int) < 999983 by decide)
theorem pick_spec {ns : List Int} {ds : List Dt} {t : List Dt} (h0 : 0 < ds.length) (h1 : ds.length < 1073741824) (ht : TownOk t) : ∃ d t', F__law_pick [scr ns, .list ds] t = some (d, t') ∧ d ∈ ds ∧ TownOk t' := by
  obtain ⟨x, t', h2, h3, h4, h5⟩ := draw_spec (ns := ns) (m := (ds.length : Int)) (by omega) (by omega) ht
  obtain ⟨d, h6, h7⟩ := atI_ge (xs := ds) h3 h4
  refine ⟨d, t', ?_, List.mem_of_getElem? h7, h5⟩
  unfold F__law_pick B__law_pick
  wp_walk using dLen_list, h2, h6
theorem room_spec {ns : List Int} {t : List Dt} (ht : TownOk t) : ∃ r t', F__law_room [scr ns] t = some (.int r, t') ∧ 3 ≤ r ∧ r ≤ 5 ∧ TownOk t' := by
  obtain ⟨x, t', h2, h3, h4, h5⟩ := draw_spec (ns := ns) (m := 3) (by omega) (by omega) ht
  refine ⟨3 + x, t', ?_, by omega, by omega, h5⟩
  unfold F__law_room B__law_room
  wp_walk using h2

/-! ### rules -/
inductive W6 where
  | turns | least | fewer | sizes | fill | stay
  deriving DecidableEq
def wS : W6 → Str
  | .turns => "turns"
  | .least => "least"
  | .fewer => "fewer"
  | .sizes => "sizes"
  | .fill => "fill"
  | .stay => "stay"
abbrev Ru := W6 × Int
def eRu (r : Ru) : Dt := .tuple [.str (wS r.1), .int r.2]
def RuOk (r : Ru) : Prop := match r.1 with
  | .fill | .stay => 1 ≤ r.2 ∧ r.2 ≤ 5
  | _ => r.2 = 0 ∨ r.2 = 1
theorem str_eqv (a b : Str) : PyData.eqv (.str a) (.str b) = (a == b) := by simp only [PyData.eqv]
theorem dEq_str (a b : Str) : dEq (.str a) (.str b) = some (.bool (a == b)) := by
  rw [dEq_ok rfl rfl, str_eqv]
theorem dIn_strs (w : Str) (ss : List Str) : dIn (.str w) (.tuple (ss.map PyData.str)) = some (.bool (ss.any fun y => y == w)) := by
  have ok : okL 40 (ss.map PyData.str) = true := by
    rw [okL_all]
    simp [okD]
  have e : (if okD 40 (PyData.str w) && okL 40 (ss.map PyData.str) then some (PyData.bool ((ss.map PyData.str).any fun y => y.eqv (.str w))) else none) = some (.bool (ss.any fun y => y == w)) := by
    rw [ok, okD]
    simp only [Bool.and_self, if_true, List.any_map]
    congr 3
  exact e
theorem rule_spec {ns : List Int} {t : List Dt} (ht : TownOk t) : ∃ r t', F__law_rule [scr ns] t = some (eRu r, t') ∧ RuOk r ∧ TownOk t' := by
  obtain ⟨d, t1, h1, hd, ht1⟩ := pick_spec (ns := ns) (ds := [.str "turns", .str "least", .str "fewer", .str "sizes", .str "fill", .str "stay"]) (by simp) (by simp) ht
  obtain ⟨x5, t5, g1, g2, g3, g4⟩ := draw_spec (ns := ns) (m := 5) (by omega) (by omega) ht1
  obtain ⟨x2, t2, k1, k2, k3, k4⟩ := draw_spec (ns := ns) (m := 2) (by omega) (by omega) ht1
  have key : ∀ w : W6, d = .str (wS w) → ∃ r t', F__law_rule [scr ns] t = some (eRu r, t') ∧ RuOk r ∧ TownOk t' := by
    intro w e
    subst e
    have i1 := dIn_strs (wS w) ["fill", "stay"]
    simp only [List.map] at i1
    cases w with
    | fill =>
      refine ⟨(.fill, 1 + x5), t5, ?_, ⟨by omega, by omega⟩, g4⟩
      have i2 : (["fill", "stay"] : List Str).any (fun y => y == wS .fill) = true := by decide
      unfold F__law_rule B__law_rule
      wp_walk using h1, i1, i2, g1, eRu
    | stay =>
      refine ⟨(.stay, 1 + x5), t5, ?_, ⟨by omega, by omega⟩, g4⟩
      have i2 : (["fill", "stay"] : List Str).any (fun y => y == wS .stay) = true := by decide
      unfold F__law_rule B__law_rule
      wp_walk using h1, i1, i2, g1, eRu
    | turns =>
      refine ⟨(.turns, x2), t2, ?_, show x2 = 0 ∨ x2 = 1 by omega, k4⟩
      have i2 : (["fill", "stay"] : List Str).any (fun y => y == wS .turns) = false := by decide
      unfold F__law_rule B__law_rule
      wp_walk using h1, i1, i2, k1, eRu
    | least =>
      refine ⟨(.least, x2), t2, ?_, show x2 = 0 ∨ x2 = 1 by omega, k4⟩
      have i2 : (["fill", "stay"] : List Str).any (fun y => y == wS .least) = false := by decide
      unfold F__law_rule B__law_rule
      wp_walk using h1, i1, i2, k1, eRu
    | fewer =>
      refine ⟨(.fewer, x2), t2, ?_, show x2 = 0 ∨ x2 = 1 by omega, k4⟩
      have i2 : (["fill", "stay"] : List Str).any (fun y => y == wS .fewer) = false := by decide
      unfold F__law_rule B__law_rule
      wp_walk using h1, i1, i2, k1, eRu
    | sizes =>
      refine ⟨(.sizes, x2), t2, ?_, show x2 = 0 ∨ x2 = 1 by omega, k4⟩
      have i2 : (["fill", "stay"] : List Str).any (fun y => y == wS .sizes) = false := by decide
      unfold F__law_rule B__law_rule
      wp_walk using h1, i1, i2, k1, eRu
  simp only [List.mem_cons, List.not_mem_nil, or_false] at hd
  rcases hd with h | h | h | h | h | h
  · exact key .turns h
  · exact key .least h
  · exact key .fewer h
  · exact key .sizes h
  · exact key .fill h
  · exact key .stay h
def JobsOk (js : List Int) : Prop := ∀ j ∈ js, 0 ≤ j ∧ j ≤ 3
theorem jobs_spec {ns : List Int} {most : Int} {t : List Dt} (h0 : 0 ≤ most) (h1 : most ≤ 1000) (ht : TownOk t) : ∃ js t', F__law_jobs [scr ns, .int most] t = some (.list (js.map PyData.int), t') ∧ JobsOk js ∧ (js.length : Int) ≤ most ∧ TownOk t' := by
  obtain ⟨hv, t1, h2, h3, h4, ht1⟩ := draw_spec (ns := ns) (m := 3) (by omega) (by omega) ht
  obtain ⟨n, t2, g2, g3, g4, ht2⟩ := draw_spec (ns := ns) (m := most + 1) (by omega) (by omega) ht1
  have hb : -(2 ^ 62) ≤ n ∧ n < 2 ^ 62 := by omega
  have key : ∃ e', forD (gNm 5) B__law_jobs_l1 ((List.range n.toNat).map fun (i : Nat) => PyData.int (i : Int))
      [some (.im (scr ns)), some (.ow true t2), some (.im (.int most)), some (.im (.int hv)), some (.ow false []), none, none] = some (.nx e') ∧
      ∃ (js : List Int) (t : List Dt), JobsOk js ∧ js.length = (List.range n.toNat).length ∧ TownOk t ∧ ∃ x5 x6, e' = [some (.im (scr ns)), some (.ow true t), some (.im (.int most)), some (.im (.int hv)), some (.ow false (js.map PyData.int)), x5, x6] := by
    refine forD_all (fun (i : Nat) => PyData.int (i : Int))
      (fun (pre : List Nat) env => ∃ (js : List Int) (t : List Dt), JobsOk js ∧ js.length = pre.length ∧ TownOk t ∧ ∃ x5 x6, env = [some (.im (scr ns)), some (.ow true t), some (.im (.int most)), some (.im (.int hv)), some (.ow false (js.map PyData.int)), x5, x6]) (List.range n.toNat) _
      ⟨[], t2, fun _ h => by simp at h, rfl, ht2, none, none, rfl⟩ ?_
    rintro pre x post env hsplit ⟨js, t, hj, hl, ht, x5, x6, rfl⟩
    obtain ⟨j, ta, a1, a2, a3, hta⟩ := draw_spec (ns := ns) (m := 4) (by omega) (by omega) ht
    obtain ⟨c, tb, b1, b2, b3, htb⟩ := draw_spec (ns := ns) (m := 2) (by omega) (by omega) hta
    have hlen : js.length < 10000000 := by
      have := congrArg List.length hsplit
      simp at this
      omega
    have ok : ∀ y, 0 ≤ y ∧ y ≤ 3 → JobsOk (js ++ [y]) := fun y hy z hz => by
      rcases List.mem_append.mp hz with h | h
      · exact hj z h
      · simp at h; subst h; exact hy
    by_cases hlight : hv < 2
    · refine ⟨_, [some (.im (scr ns)), some (.ow true ta), some (.im (.int most)), some (.im (.int hv)), some (.ow false ((js ++ [j]).map PyData.int)), some (.im (.int x)), some (.im (.int j))], rfl, .inl ?_, js ++ [j], ta, ok j (by omega), by simp [hl], hta, _, _, rfl⟩
      unfold B__law_jobs_l1
      wp_walk using a1, hlight, List.length_map, hlen, List.map_append
    · by_cases hc : c = 0
      · refine ⟨_, [some (.im (scr ns)), some (.ow true tb), some (.im (.int most)), some (.im (.int hv)), some (.ow false ((js ++ [j]).map PyData.int)), some (.im (.int x)), some (.im (.int j))], rfl, .inl ?_, js ++ [j], tb, ok j (by omega), by simp [hl], htb, _, _, rfl⟩
        unfold B__law_jobs_l1
        wp_walk using a1, hlight, List.length_map, hlen, List.map_append, b1, hc
      · refine ⟨_, [some (.im (scr ns)), some (.ow true tb), some (.im (.int most)), some (.im (.int hv)), some (.ow false ((js ++ [3]).map PyData.int)), some (.im (.int x)), some (.im (.int j))], rfl, .inl ?_, js ++ [3], tb, ok 3 (by omega), by simp [hl], htb, _, _, rfl⟩
        unfold B__law_jobs_l1
        wp_walk using a1, hlight, List.length_map, hlen, List.map_append, b1, hc
  obtain ⟨e', l1, js, t3, hj, hl, ht3, x5, x6, he'⟩ := key
  refine ⟨js, t3, ?_, hj, by rw [hl]; simp; omega, ht3⟩
  unfold F__law_jobs B__law_jobs
  wp_walk using h2, g2, hb, and_self, rangeD, l1, he'
/-! ### checks -/
theorem is_int_int (v a b : Int) : F_is_int [.int v, .int a, .int b] = some (.bool (decide (a ≤ v ∧ v ≤ b))) := by
  unfold F_is_int B_is_int
  by_cases h : a ≤ v
  · wp_walk using h, true_and
  · wp_walk using h, false_and
theorem is_room_int (r : Int) : F_is_room [.int r] = some (.bool (decide (3 ≤ r ∧ r ≤ 5))) := by
  unfold F_is_room B_is_room
  wp_walk using is_int_int
theorem weq (w v : W6) : (wS w == wS v) = decide (w = v) := by cases w <;> cases v <;> decide
def isHanded : W6 → Bool
  | .fill | .stay => false
  | _ => true
theorem in_handed (w : W6) : dIn (.str (wS w)) (.tuple [.str "fewer", .str "least", .str "sizes", .str "turns"]) = some (.bool (isHanded w)) := by
  have := dIn_strs (wS w) ["fewer", "least", "sizes", "turns"]
  simp only [List.map] at this
  rw [this]
  refine congrArg (fun b => some (PyData.bool b)) ?_
  cases w <;> decide
theorem in_fs (w : W6) : dIn (.str (wS w)) (.tuple [.str "fill", .str "stay"]) = some (.bool (!isHanded w)) := by
  have := dIn_strs (wS w) ["fill", "stay"]
  simp only [List.map] at this
  rw [this]
  refine congrArg (fun b => some (PyData.bool b)) ?_
  cases w <;> decide
def keepsW : W6 → Bool
  | .stay | .turns => true
  | _ => false
theorem in_kept (w : W6) : dIn (.str (wS w)) (.tuple [.str "stay", .str "turns"]) = some (.bool (keepsW w)) := by
  have := dIn_strs (wS w) ["stay", "turns"]
  simp only [List.map] at this
  rw [this]
  refine congrArg (fun b => some (PyData.bool b)) ?_
  cases w <;> decide
theorem RuOk.handed {r : Ru} (h : RuOk r) (hh : isHanded r.1 = true) : r.2 = 0 ∨ r.2 = 1 := by
  obtain ⟨w, n⟩ := r
  cases w <;> first | exact h | cases hh
theorem RuOk.most {r : Ru} (h : RuOk r) (hh : isHanded r.1 = false) : 1 ≤ r.2 ∧ r.2 ≤ 5 := by
  obtain ⟨w, n⟩ := r
  cases w <;> first | exact h | cases hh
theorem is_rule_ok {r : Ru} (h : RuOk r) : F_is_rule [eRu r] = some (.bool true) := by
  unfold F_is_rule B_is_rule eRu
  cases hh : isHanded r.1 with
  | true =>
    have h' := h.handed hh
    wp_walk using dLen_tup, in_handed, hh, is_int_int, show (((2 : Nat) : Int) = 2) from rfl, show (0 ≤ r.2 ∧ r.2 ≤ 1) = True from eq_true (by omega)
  | false =>
    have h' := h.most hh
    wp_walk using dLen_tup, in_handed, in_fs, hh, is_int_int, show (((2 : Nat) : Int) = 2) from rfl, show (1 ≤ r.2 ∧ r.2 ≤ 5) = True from eq_true (by omega)
theorem are_jobs_ok {js : List Int} (h : JobsOk js) (hl : js.length ≤ 40) : F_are_jobs [.list (js.map PyData.int)] = some (.bool true) := by
  have l1 : lcD [1] (gNm 1) tYesF (eCall F_is_int (aI (eVar 1) (aI (eC (.int 0)) (aI (eC (.int 3)) aNil)))) (js.map PyData.int) [some (.im (.list (js.map PyData.int))), none] = some (js.map (fun _ => PyData.bool true), [some (.im (.list (js.map PyData.int))), none]) := by
    refine lcD_map PyData.int (fun _ => PyData.bool true) js fun x hx => ?_
    have := h x hx
    refine ⟨_, [some (.im (.list (js.map PyData.int))), some (.im (.int x))], rfl, ?_, rfl⟩
    wp_walk using is_int_int, show (0 ≤ x ∧ x ≤ 3) = True from eq_true (by omega)
  have hlen : (js.map PyData.int).length < 10000000 := by simp; omega
  have hb : dAll [.list (js.map fun _ => PyData.bool true)] = some (.bool true) := by
    have e : js.map (fun _ => PyData.bool true) = (js.map fun _ => true).map PyData.bool := by simp
    rw [e]
    simp only [dAll, boolsOf_map]
    congr 2
    simp
  unfold F_are_jobs B_are_jobs
  wp_walk using dLen_list, List.length_map, show ((40 : Int) < (js.length : Int)) = False from eq_false (by omega), show ((js.map PyData.int).length < 10000000) = True from eq_true hlen, show (js.length < 10000000) = True from eq_true (by omega), l1, hb
theorem need_run_ok {room : Int} {r : Ru} {js : List Int} (h1 : 3 ≤ room) (h2 : room ≤ 5) (hr : RuOk r) (hj : JobsOk js) (hl : js.length ≤ 40) : F_need_run [.int room, eRu r, .list (js.map PyData.int)] = some .none := by
  have e1 : F_need_room [.int room] = some .none := by
    unfold F_need_room B_need_room
    wp_walk using is_room_int, show (3 ≤ room ∧ room ≤ 5) = True from eq_true (by omega)
  have e2 : F_need_rule [eRu r] = some .none := by
    unfold F_need_rule B_need_rule
    wp_walk using is_rule_ok hr
  have e3 : F_need_both [.int room, eRu r] = some .none := by
    unfold F_need_both B_need_both
    wp_walk using e1, e2
  have e4 : F_need_jobs [.list (js.map PyData.int)] = some .none := by
    unfold F_need_jobs B_need_jobs
    wp_walk using are_jobs_ok hj hl
  unfold F_need_run B_need_run
  wp_walk using e3, e4

/-! ### places -/
abbrev Pl := List Int × List Int × Option Int
def eL (l : List Int) : Dt := .tuple (l.map PyData.int)
def eO : Option Int → Dt
  | none => .none
  | some h => .int h
def ePl (p : Pl) : Dt := .tuple [eL p.1, eL p.2.1, eO p.2.2]
abbrev No := Option (Int × Bool)
def eNo : No → Dt
  | none => .none
  | some (h, b) => .tuple [.int h, .bool b]
abbrev Cn := Int × Int
def eCn (c : Cn) : Dt := .tuple [.int c.1, .int c.2]
theorem dSum_L (l : List Int) : dSum [eL l] = some (.int l.sum) := by simp only [dSum, eL, intsOf_map]
theorem dLen_L (l : List Int) : dLen [eL l] = some (.int (l.length : Int)) := by simp only [dLen, eL, List.length_map]
def HandOk (h : Int) : Prop := h = 0 ∨ h = 1
def LastOk (l : Option Int) : Prop := l = none ∨ l = some 0 ∨ l = some 1
def lineOf (p : Pl) (h : Int) : List Int := if h = 0 then p.1 else p.2.1
def lessM (n a b : Int) : Int := if a = b then n else if a < b then 0 else 1
def namedM (r : Ru) (p : Pl) (job : Int) : Int := match r.1 with
  | .turns => match p.2.2 with
    | none => r.2
    | some l => 1 - l
  | .sizes => if job = 1 then r.2 else 1 - r.2
  | .fill => if p.1.sum + job ≤ r.2 then 0 else 1
  | .stay => match p.2.2 with
    | none => if p.1.sum + job ≤ r.2 then 0 else 1
    | some l => if (lineOf p l).sum + job ≤ r.2 then l else 1 - l
  | .least => lessM r.2 p.1.sum p.2.1.sum
  | .fewer => lessM r.2 (p.1.length : Int) (p.2.1.length : Int)
theorem namedM_ok {r : Ru} {p : Pl} {job : Int} (hr : RuOk r) (hp : LastOk p.2.2) : HandOk (namedM r p job) := by
  obtain ⟨w, n⟩ := r
  obtain ⟨l0, l1, last⟩ := p
  have e1 : isHanded w = true → n = 0 ∨ n = 1 := hr.handed
  unfold HandOk namedM lessM
  cases w with
  | turns =>
    have e := e1 rfl
    rcases hp with h | h | h <;> simp only at h <;> subst h <;> simp only <;> omega
  | least =>
    have e := e1 rfl
    simp only
    split
    · exact e
    · split <;> omega
  | fewer =>
    have e := e1 rfl
    simp only
    split
    · exact e
    · split <;> omega
  | sizes =>
    have e := e1 rfl
    simp only
    split <;> omega
  | fill =>
    simp only
    split <;> omega
  | stay =>
    rcases hp with h | h | h <;> simp only at h <;> subst h <;> simp only <;> split <;> omega
set_option maxHeartbeats 2000000 in
theorem named_ok {r : Ru} {p : Pl} {job : Int} (hp : LastOk p.2.2) : F_named [eRu r, ePl p, .int job] = some (.int (namedM r p job)) := by
  obtain ⟨w, n⟩ := r
  obtain ⟨l0, l1, last⟩ := p
  unfold F_named B_named eRu ePl namedM lessM lineOf
  have q1 : (Str.ofString "turns") = wS .turns := rfl
  have q2 : (Str.ofString "sizes") = wS .sizes := rfl
  have q3 : (Str.ofString "fill") = wS .fill := rfl
  have q4 : (Str.ofString "stay") = wS .stay := rfl
  have q5 : (Str.ofString "least") = wS .least := rfl
  cases w with
  | turns => rcases hp with h | h | h <;> simp only at h <;> subst h <;> simp only [eO] <;> wp_walk using dEq_str, weq, q1, reduceCtorEq, dIs
  | sizes =>
    by_cases hj : job = 1
    · wp_walk using dEq_str, weq, q1, q2, reduceCtorEq, dIs, hj
    · wp_walk using dEq_str, weq, q1, q2, reduceCtorEq, dIs, hj
  | fill =>
    by_cases hj : l0.sum + job ≤ n
    · wp_walk using dEq_str, weq, q1, q2, q3, reduceCtorEq, dSum_L, hj
    · wp_walk using dEq_str, weq, q1, q2, q3, reduceCtorEq, dSum_L, hj
  | stay =>
    rcases hp with h | h | h <;> simp only at h <;> subst h <;> simp only [eO]
    · by_cases hj : l0.sum + job ≤ n
      · wp_walk using dEq_str, weq, q1, q2, q3, q4, reduceCtorEq, dIs, dSum_L, hj
      · wp_walk using dEq_str, weq, q1, q2, q3, q4, reduceCtorEq, dIs, dSum_L, hj, Int.sub_zero
    · by_cases hj : l0.sum + job ≤ n
      · wp_walk using dEq_str, weq, q1, q2, q3, q4, reduceCtorEq, dIs, dSum_L, hj
      · wp_walk using dEq_str, weq, q1, q2, q3, q4, reduceCtorEq, dIs, dSum_L, hj
    · have z1 : ((1 : Int) = 0) = False := eq_false (by decide)
      by_cases hj : l1.sum + job ≤ n
      · wp_walk using dEq_str, weq, q1, q2, q3, q4, reduceCtorEq, dIs, dSum_L, z1, hj
      · wp_walk using dEq_str, weq, q1, q2, q3, q4, reduceCtorEq, dIs, dSum_L, z1, hj
  | least =>
    by_cases hj : l0.sum = l1.sum
    · wp_walk using dEq_str, weq, q1, q2, q3, q4, q5, reduceCtorEq, dSum_L, hj
    · by_cases hk : l0.sum < l1.sum
      · wp_walk using dEq_str, weq, q1, q2, q3, q4, q5, reduceCtorEq, dSum_L, hj, hk
      · wp_walk using dEq_str, weq, q1, q2, q3, q4, q5, reduceCtorEq, dSum_L, hj, hk
  | fewer =>
    by_cases hj : (l0.length : Int) = (l1.length : Int)
    · wp_walk using dEq_str, weq, q1, q2, q3, q4, q5, reduceCtorEq, dLen_L, hj
    · by_cases hk : (l0.length : Int) < (l1.length : Int)
      · wp_walk using dEq_str, weq, q1, q2, q3, q4, q5, reduceCtorEq, dLen_L, hj, hk
      · wp_walk using dEq_str, weq, q1, q2, q3, q4, q5, reduceCtorEq, dLen_L, hj, hk

/-! ### ticks -/
def workedM : List Int → List Int
  | [] => []
  | x :: r => if x = 1 then r else (x - 1) :: r
theorem sl_tail (x : Dt) (r : List Dt) : dSl (.tuple (x :: r)) (some 1) none = some (.tuple r) := by
  have e : cutD (x :: r) (some 1) none = r := by
    unfold cutD
    rw [show HT.sIx (x :: r).length 0 (some 1) = min 1 (x :: r).length from HT.sIx_nat _ 0 1, HT.sIx_none, show min 1 (x :: r).length = 1 by rw [List.length_cons]; omega]
    show List.take ((x :: r).length - 1) r = r
    rw [List.length_cons, Nat.add_sub_cancel]
    exact List.take_length
  show some (PyData.tuple (cutD (x :: r) (some 1) none)) = _
  rw [e]
theorem eq_nil_tup (ds : List Dt) (h : okL 39 ds = true) : dEq (.tuple ds) (.tuple []) = some (.bool ds.isEmpty) := by
  rw [dEq_ok (by simpa only [okD] using h) rfl]
  cases ds <;> rfl
theorem worked_ok {l : List Int} (hl : l.length ≤ 1000) : F_worked [eL l] = some (eL (workedM l)) := by
  unfold F_worked B_worked
  cases l with
  | nil =>
    have e : dEq (.tuple []) (.tuple []) = some (.bool true) := by rfl
    wp_walk using eL, e, workedM
  | cons x r =>
    have e : ∀ x : Int, dEq (.tuple (PyData.int x :: r.map PyData.int)) (.tuple []) = some (.bool false) := fun x => eq_nil_tup ((x :: r).map PyData.int) (okL_ints 39 (x :: r))
    have hl' : 1 + r.length ≤ 10000000 := by simp at hl; omega
    by_cases hx : x = 1
    · wp_walk using eL, e, workedM, hx, sl_tail
    · wp_walk using eL, e, workedM, hx, sl_tail, dAdd_tup, List.length_map, hl'
def LnOk (l : List Int) : Prop := ∀ x ∈ l, 1 ≤ x
structure PlOk (room : Int) (p : Pl) : Prop where
  a : LnOk p.1
  b : LnOk p.2.1
  sa : p.1.sum ≤ room
  sb : p.2.1.sum ≤ room
  la : LastOk p.2.2
theorem LnOk.len {l : List Int} (h : LnOk l) : (l.length : Int) ≤ l.sum := by
  induction l with
  | nil => simp
  | cons x r ih =>
    have h1 := h x List.mem_cons_self
    have h2 := ih fun y hy => h y (List.mem_cons_of_mem _ hy)
    simp; omega
theorem LnOk.nonneg {l : List Int} (h : LnOk l) : 0 ≤ l.sum := by
  have := h.len
  omega
theorem LnOk.snoc {l : List Int} {j : Int} (h : LnOk l) (hj : 1 ≤ j) : LnOk (l ++ [j]) := fun x hx => by
  rcases List.mem_append.mp hx with q | q
  · exact h x q
  · simp at q; subst q; exact hj
theorem LnOk.worked {l : List Int} (h : LnOk l) : LnOk (workedM l) := by
  cases l with
  | nil => exact h
  | cons x r =>
    have h1 := h x List.mem_cons_self
    by_cases hx : x = 1
    · rw [show workedM (x :: r) = r from if_pos hx]
      exact fun y hy => h y (List.mem_cons_of_mem _ hy)
    · rw [show workedM (x :: r) = (x - 1) :: r from if_neg hx]
      intro y hy
      rcases List.mem_cons.mp hy with e | e
      · subst e; omega
      · exact h y (List.mem_cons_of_mem _ e)
theorem worked_sum {l : List Int} (h : LnOk l) : (workedM l).sum = max 0 (l.sum - 1) := by
  cases l with
  | nil => rfl
  | cons x r =>
    have h1 := h x List.mem_cons_self
    have h2 : LnOk r := fun y hy => h y (List.mem_cons_of_mem _ hy)
    have h3 := h2.nonneg
    have e : ∀ z : Int, (z :: r).sum = z + r.sum := fun z => List.sum_cons
    by_cases hx : x = 1
    · rw [show workedM (x :: r) = r from if_pos hx, e]; omega
    · rw [show workedM (x :: r) = (x - 1) :: r from if_neg hx, e, e]; omega
def keptM (r : Ru) (l : Option Int) : Option Int := if keepsW r.1 then l else none
/-- the lines with the job at hand h -/
def joinM (p : Pl) (h job : Int) : List Int × List Int := if h = 0 then (p.1 ++ [job], p.2.1) else (p.1, p.2.1 ++ [job])
def isLost (room : Int) (r : Ru) (p : Pl) (job : Int) : Bool := decide (room < (lineOf p (namedM r p job)).sum + job)
def linesM (room : Int) (r : Ru) (p : Pl) (job : Int) : List Int × List Int := if 0 < job then (if isLost room r p job then (p.1, p.2.1) else joinM p (namedM r p job) job) else (p.1, p.2.1)
def lastM (r : Ru) (p : Pl) (job : Int) : Option Int := if 0 < job then some (namedM r p job) else p.2.2
def noteM (room : Int) (r : Ru) (p : Pl) (job : Int) : No := if 0 < job then some (namedM r p job, isLost room r p job) else none
def cntM (room : Int) (r : Ru) (p : Pl) (job : Int) : Cn := if 0 < job then (if isLost room r p job then (job, 0) else
  (0, (lineOf p (namedM r p job)).sum - (if (lineOf p (1 - namedM r p job)).sum < (lineOf p (namedM r p job)).sum then (lineOf p (1 - namedM r p job)).sum else (lineOf p (namedM r p job)).sum))) else (0, 0)
def placeM (room : Int) (r : Ru) (p : Pl) (job : Int) : Pl := (workedM (linesM room r p job).1, workedM (linesM room r p job).2, keptM r (lastM r p job))
abbrev Tk := Pl × No × Cn
def tickM (room : Int) (r : Ru) (p : Pl) (job : Int) : Tk := (placeM room r p job, noteM room r p job, cntM room r p job)
def eTk (t : Tk) : Dt := .tuple [ePl t.1, eNo t.2.1, eCn t.2.2]
theorem dMin_two (a b : Int) : dMin [.int a, .int b] = some (.int (if b < a then b else a)) := rfl
theorem ePl_0 (p : Pl) : dIx (ePl p) (.int 0) = some (eL p.1) := atI_0 _ _
theorem ePl_1 (p : Pl) : dIx (ePl p) (.int 1) = some (eL p.2.1) := atI_1 _ _ _
theorem ePl_2 (p : Pl) : dIx (ePl p) (.int 2) = some (eO p.2.2) := atI_2 _ _ _ _
theorem eRu_0 (r : Ru) : dIx (eRu r) (.int 0) = some (.str (wS r.1)) := atI_0 _ _
theorem eRu_1 (r : Ru) : dIx (eRu r) (.int 1) = some (.int r.2) := atI_1 _ _ _
set_option maxHeartbeats 4000000 in
theorem tick_ok {room : Int} {r : Ru} {p : Pl} {job : Int} (h5 : room ≤ 5) (hr : RuOk r) (hp : PlOk room p) (hj : job ≤ 3) : F_tick [.int room, eRu r, ePl p, .int job] = some (eTk (tickM room r p job)) := by
  have la := hp.a.len
  have lb := hp.b.len
  have sa := hp.sa
  have sb := hp.sb
  have wa := worked_ok (l := p.1) (by omega)
  have wb := worked_ok (l := p.2.1) (by omega)
  have wa' := worked_ok (l := p.1 ++ [job]) (by simp; omega)
  have wb' := worked_ok (l := p.2.1 ++ [job]) (by simp; omega)
  have hn := named_ok (r := r) (p := p) (job := job) hp.la
  have ho := namedM_ok (r := r) (p := p) (job := job) hr hp.la
  have ea : ∀ (l : List Int), l.length ≤ 1000 → dAdd (eL l) (.tuple [.int job]) = some (eL (l ++ [job])) := fun l hl => by
    unfold eL
    show (if (l.map PyData.int).length + 1 ≤ 10000000 then some (PyData.tuple (l.map PyData.int ++ [PyData.int job])) else none) = _
    rw [if_pos (by simp; omega)]
    simp
  have ea1 := ea p.1 (by omega)
  have eb1 := ea p.2.1 (by omega)
  unfold F_tick B_tick
  by_cases h0 : 0 < job
  · have z1 : ((1 : Int) = 0) = False := eq_false (by decide)
    have z2 : (1 : Int) - 1 = 0 := rfl
    have z3 : (1 : Int) - 0 = 1 := rfl
    rcases ho with h | h <;> rw [h] at hn
    · by_cases hl : room < p.1.sum + job
      · have hl' : isLost room r p job = true := by unfold isLost; rw [h]; exact decide_eq_true hl
        simp only [eTk, tickM, placeM, linesM, noteM, cntM, keptM, lastM, h0, hl', h, if_true]
        cases hk : keepsW r.1 <;> wp_walk using h0, hn, ePl_0, ePl_1, ePl_2, eRu_0, dSum_L, hl, in_kept, hk, wa, wb <;> rfl
      · have hl' : isLost room r p job = false := by unfold isLost; rw [h]; exact decide_eq_false hl
        simp only [eTk, tickM, placeM, linesM, noteM, cntM, keptM, lastM, h0, hl', h, if_true, joinM, lineOf, z3, z1, if_false, Bool.false_eq_true]
        cases hk : keepsW r.1 <;> wp_walk using h0, hn, ePl_0, ePl_1, ePl_2, eRu_0, dSum_L, hl, in_kept, hk, wa', wb, z3, dMin_two, ea1 <;> rfl
    · by_cases hl : room < p.2.1.sum + job
      · have hl' : isLost room r p job = true := by unfold isLost lineOf; rw [h, if_neg (by decide)]; exact decide_eq_true hl
        simp only [eTk, tickM, placeM, linesM, noteM, cntM, keptM, lastM, h0, hl', h, if_true]
        cases hk : keepsW r.1 <;> wp_walk using h0, hn, ePl_0, ePl_1, ePl_2, eRu_0, dSum_L, hl, in_kept, hk, wa, wb <;> rfl
      · have hl' : isLost room r p job = false := by unfold isLost lineOf; rw [h, if_neg (by decide)]; exact decide_eq_false hl
        simp only [eTk, tickM, placeM, linesM, noteM, cntM, keptM, lastM, h0, hl', h, if_true, joinM, lineOf, z2, z1, if_false, Bool.false_eq_true]
        cases hk : keepsW r.1 <;> wp_walk using h0, hn, ePl_0, ePl_1, ePl_2, eRu_0, dSum_L, hl, in_kept, hk, wa, wb', z2, dMin_two, eb1 <;> rfl
  · simp only [eTk, tickM, placeM, linesM, noteM, cntM, keptM, lastM, h0, if_false]
    cases hk : keepsW r.1 <;> wp_walk using h0, ePl_0, ePl_1, ePl_2, eRu_0, in_kept, hk, wa, wb <;> rfl
theorem linesM_ok {room : Int} {r : Ru} {p : Pl} {job : Int} (hp : PlOk room p) (hj : 0 ≤ job) : LnOk (linesM room r p job).1 ∧ LnOk (linesM room r p job).2 ∧ (linesM room r p job).1.sum ≤ room ∧ (linesM room r p job).2.sum ≤ room := by
  unfold linesM
  by_cases h0 : 0 < job
  · rw [if_pos h0]
    cases hl : isLost room r p job with
    | true => exact ⟨hp.a, hp.b, hp.sa, hp.sb⟩
    | false =>
      have hl' : (lineOf p (namedM r p job)).sum + job ≤ room := by
        unfold isLost at hl
        have := of_decide_eq_false hl
        omega
      simp only [Bool.false_eq_true, if_false]
      unfold joinM
      unfold lineOf at hl'
      split
      · rename_i hh
        rw [if_pos hh] at hl'
        exact ⟨hp.a.snoc (by omega), hp.b, by simp only [List.sum_append, List.sum_cons, List.sum_nil]; omega, hp.sb⟩
      · rename_i hh
        rw [if_neg hh] at hl'
        exact ⟨hp.a, hp.b.snoc (by omega), hp.sa, by simp only [List.sum_append, List.sum_cons, List.sum_nil]; omega⟩
  · rw [if_neg h0]
    exact ⟨hp.a, hp.b, hp.sa, hp.sb⟩
theorem placeM_ok {room : Int} {r : Ru} {p : Pl} {job : Int} (h3 : 0 ≤ room) (hr : RuOk r) (hp : PlOk room p) (hj : 0 ≤ job) : PlOk room (placeM room r p job) := by
  obtain ⟨a, b, sa, sb⟩ := linesM_ok (r := r) hp hj
  refine ⟨a.worked, b.worked, ?_, ?_, ?_⟩
  · show (workedM _).sum ≤ room
    rw [worked_sum a]; omega
  · show (workedM _).sum ≤ room
    rw [worked_sum b]; omega
  · show LastOk (keptM r (lastM r p job))
    unfold keptM lastM
    split
    · split
      · rcases namedM_ok (r := r) (p := p) (job := job) hr hp.la with h | h <;> rw [h]
        · exact .inr (.inl rfl)
        · exact .inr (.inr rfl)
      · exact hp.la
    · exact .inl rfl
def p0 : Pl := ([], [], none)
theorem p0_ok {room : Int} (h : 0 ≤ room) : PlOk room p0 := ⟨fun _ h => (by simp [p0] at h), fun _ h => (by simp [p0] at h), h, h, .inl rfl⟩
theorem begun_ok : F_begun [] = some (ePl p0) := by rfl
/-- the place behind some jobs -/
def goM (room : Int) (r : Ru) (p : Pl) (js : List Int) : Pl := js.foldl (placeM room r) p
def runM (room : Int) (r : Ru) : Pl → List Int → List Tk
  | _, [] => []
  | p, j :: js => tickM room r p j :: runM room r (placeM room r p j) js
theorem runM_length (room : Int) (r : Ru) : ∀ (js : List Int) (p : Pl), (runM room r p js).length = js.length
  | [], _ => rfl
  | j :: js, p => by simp [runM, runM_length room r js]
theorem runM_snoc (room : Int) (r : Ru) (x : Int) : ∀ (js : List Int) (p : Pl), runM room r p (js ++ [x]) = runM room r p js ++ [tickM room r (goM room r p js) x]
  | [], _ => rfl
  | j :: js, p => by
    simp only [List.cons_append, runM, runM_snoc room r x js]
    rfl
theorem goM_snoc (room : Int) (r : Ru) (x : Int) (js : List Int) (p : Pl) : goM room r p (js ++ [x]) = placeM room r (goM room r p js) x := by
  simp [goM, List.foldl_append]
theorem goM_ok {room : Int} {r : Ru} (h3 : 0 ≤ room) (hr : RuOk r) : ∀ {js : List Int} {p : Pl}, JobsOk js → PlOk room p → PlOk room (goM room r p js)
  | [], _, _, hp => hp
  | j :: js, p, hj, hp => goM_ok h3 hr (js := js) (fun x hx => hj x (List.mem_cons_of_mem _ hx)) (placeM_ok h3 hr hp (hj j List.mem_cons_self).1)
theorem JobsOk.left {a b : List Int} (h : JobsOk (a ++ b)) : JobsOk a := fun x hx => h x (List.mem_append_left _ hx)
theorem JobsOk.right {a b : List Int} (h : JobsOk (a ++ b)) : JobsOk b := fun x hx => h x (List.mem_append_right _ hx)
theorem gTk (t : Tk) {i j k : Nat} {env : Nv} : gTp (gsCons (gNm i) (gsCons (gNm j) (gsCons (gNm k) gsNil))) (eTk t) env = some (((env.set i (some (.im (ePl t.1)))).set j (some (.im (eNo t.2.1)))).set k (some (.im (eCn t.2.2)))) := rfl
theorem run_ok {room : Int} {r : Ru} {js : List Int} (h3 : 0 ≤ room) (h5 : room ≤ 5) (hr : RuOk r) (hj : JobsOk js) (hl : js.length ≤ 1000) : F_run [.int room, eRu r, .list (js.map PyData.int)] = some (.list ((runM room r p0 js).map eTk)) := by
  have key : ∃ e', forD (gNm 5) B_run_l1 (js.map PyData.int)
      [some (.im (.int room)), some (.im (eRu r)), some (.im (.list (js.map PyData.int))), some (.im (ePl p0)), some (.ow false []), none, none, none] = some (.nx e') ∧
      ∃ x5 x6 x7, e' = [some (.im (.int room)), some (.im (eRu r)), some (.im (.list (js.map PyData.int))), some (.im (ePl (goM room r p0 js))), some (.ow false ((runM room r p0 js).map eTk)), x5, x6, x7] := by
    refine forD_all PyData.int (fun pre env => ∃ x5 x6 x7, env = [some (.im (.int room)), some (.im (eRu r)), some (.im (.list (js.map PyData.int))), some (.im (ePl (goM room r p0 pre))), some (.ow false ((runM room r p0 pre).map eTk)), x5, x6, x7]) js _ ⟨none, none, none, rfl⟩ ?_
    rintro pre x post env hsplit ⟨x5, x6, x7, rfl⟩
    have hx : JobsOk (pre ++ x :: post) := hsplit ▸ hj
    have hpre : JobsOk pre := hx.left
    have hxx := hx x (by simp)
    have hp := goM_ok h3 hr hpre (p0_ok h3)
    have ht := tick_ok (job := x) h5 hr hp hxx.2
    have hlen : (runM room r p0 pre).length < 10000000 := by
      have := congrArg List.length hsplit
      simp at this
      rw [runM_length]; omega
    refine ⟨_, _, rfl, .inl ?_, some (.im (.int x)), some (.im (eNo (tickM room r (goM room r p0 pre) x).2.1)), some (.im (eCn (tickM room r (goM room r p0 pre) x).2.2)), rfl⟩
    unfold B_run_l1
    wp_walk using ht, gTk, List.length_map, hlen, runM_snoc, goM_snoc, List.map_append
    rfl
  obtain ⟨e', l1, x5, x6, x7, he'⟩ := key
  unfold F_run B_run
  wp_walk using begun_ok, l1, he'
theorem notes_of_ok {room : Int} {r : Ru} {js : List Int} (h3 : 0 ≤ room) (h5 : room ≤ 5) (hr : RuOk r) (hj : JobsOk js) (hl : js.length ≤ 1000) : F_notes_of [.int room, eRu r, .list (js.map PyData.int)] = some (.list ((runM room r p0 js).map fun t => eNo t.2.1)) := by
  have l1 := lcD_map (vs := [3, 4, 5]) (g := gTp (gsCons (gNm 3) (gsCons (gNm 4) (gsCons (gNm 5) gsNil)))) (f := eVar 4) (env := [some (.im (.int room)), some (.im (eRu r)), some (.im (.list (js.map PyData.int))), none, none, none]) eTk (fun t => eNo t.2.1) (runM room r p0 js) fun t _ => ⟨_, _, gTk t, rfl, rfl⟩
  have hlen : (runM room r p0 js).length < 10000000 := by rw [runM_length]; omega
  unfold F_notes_of B_notes_of
  wp_walk using run_ok h3 h5 hr hj hl, List.length_map, hlen, l1
theorem notes_along_ok {room : Int} {r : Ru} {js : List Int} (h3 : 3 ≤ room) (h5 : room ≤ 5) (hr : RuOk r) (hj : JobsOk js) (hl : js.length ≤ 40) : F_notes_along [.int room, eRu r, .list (js.map PyData.int)] = some (.list ((runM room r p0 js).map fun t => eNo t.2.1)) := by
  unfold F_notes_along B_notes_along
  wp_walk using need_run_ok h3 h5 hr hj hl, notes_of_ok (by omega : 0 ≤ room) h5 hr hj (by omega : js.length ≤ 1000)
def worksM (p : Pl) : Cn := (p.1.sum, p.2.1.sum)
theorem works_of_ok (p : Pl) : F_works_of [ePl p] = some (eCn (worksM p)) := by
  unfold F_works_of B_works_of
  wp_walk using ePl_0, ePl_1, dSum_L
  rfl
theorem works_along_ok {room : Int} {r : Ru} {js : List Int} (h3 : 3 ≤ room) (h5 : room ≤ 5) (hr : RuOk r) (hj : JobsOk js) (hl : js.length ≤ 40) : F_works_along [.int room, eRu r, .list (js.map PyData.int)] = some (.list ((runM room r p0 js).map fun t => eCn (worksM t.1))) := by
  have l1 := lcD_map (vs := [3, 4, 5]) (g := gTp (gsCons (gNm 3) (gsCons (gNm 4) (gsCons (gNm 5) gsNil)))) (f := eCall F_works_of (aI (eVar 3) aNil)) (env := [some (.im (.int room)), some (.im (eRu r)), some (.im (.list (js.map PyData.int))), none, none, none]) eTk (fun t => eCn (worksM t.1)) (runM room r p0 js) fun t _ => by
    refine ⟨_, [some (.im (.int room)), some (.im (eRu r)), some (.im (.list (js.map PyData.int))), some (.im (ePl t.1)), some (.im (eNo t.2.1)), some (.im (eCn t.2.2))], gTk t, ?_, rfl⟩
    wp_walk using works_of_ok
  have hlen : (runM room r p0 js).length < 10000000 := by rw [runM_length]; omega
  unfold F_works_along B_works_along
  wp_walk using need_run_ok h3 h5 hr hj hl, run_ok (by omega : 0 ≤ room) h5 hr hj (by omega : js.length ≤ 1000), List.length_map, hlen, l1
theorem waits_along_ok {room : Int} {r : Ru} {js : List Int} (h3 : 3 ≤ room) (h5 : room ≤ 5) (hr : RuOk r) (hj : JobsOk js) (hl : js.length ≤ 40) : F_waits_along [.int room, eRu r, .list (js.map PyData.int)] = some (.list ((runM room r p0 js).map fun t => eCn t.2.2)) := by
  have l1 := lcD_map (vs := [3, 4, 5]) (g := gTp (gsCons (gNm 3) (gsCons (gNm 4) (gsCons (gNm 5) gsNil)))) (f := eVar 5) (env := [some (.im (.int room)), some (.im (eRu r)), some (.im (.list (js.map PyData.int))), none, none, none]) eTk (fun t => eCn t.2.2) (runM room r p0 js) fun t _ => ⟨_, _, gTk t, rfl, rfl⟩
  have hlen : (runM room r p0 js).length < 10000000 := by rw [runM_length]; omega
  unfold F_waits_along B_waits_along
  wp_walk using need_run_ok h3 h5 hr hj hl, run_ok (by omega : 0 ≤ room) h5 hr hj (by omega : js.length ≤ 1000), List.length_map, hlen, l1
theorem zipD_map {α β : Type} (f : α → Dt) (g : β → Dt) : ∀ (xs : List α) (ys : List β), zipD (xs.map f) (ys.map g) = (xs.zip ys).map fun p => PyData.tuple [f p.1, g p.2]
  | [], _ => by simp [zipD]
  | _ :: _, [] => by simp [zipD]
  | x :: xs, y :: ys => by
    have := zipD_map f g xs ys
    simp only [zipD, List.map_cons, List.zipWith_cons_cons, List.zip_cons_cons] at this ⊢
    rw [this]
/-- the jobs with their ticks: each tick is that behind the jobs before -/
theorem zip_run {room : Int} {r : Ru} : ∀ {js : List Int} {p : Pl} {pre post : List (Int × Tk)} {j : Int} {t : Tk}, js.zip (runM room r p js) = pre ++ (j, t) :: post → t = tickM room r (goM room r p (pre.map Prod.fst)) j ∧ js = pre.map Prod.fst ++ j :: post.map Prod.fst
  | [], _, pre, post, j, t, h => by
    simp [runM] at h
  | k :: js, p, [], post, j, t, h => by
    simp only [runM, List.zip_cons_cons, List.nil_append, List.cons.injEq, Prod.mk.injEq] at h
    obtain ⟨⟨rfl, rfl⟩, rfl⟩ := h
    refine ⟨rfl, ?_⟩
    rw [List.map_fst_zip (by rw [runM_length]; exact Nat.le_refl _)]
    rfl
  | k :: js, p, q :: pre, post, j, t, h => by
    simp only [runM, List.zip_cons_cons, List.cons_append, List.cons.injEq] at h
    obtain ⟨rfl, h⟩ := h
    obtain ⟨h1, h2⟩ := zip_run (js := js) h
    refine ⟨h1, ?_⟩
    rw [List.map_cons, List.cons_append, ← h2]
theorem town0 : TownOk [.int 0, .int 0] := ⟨0, 0, rfl, Int.le_refl _, Int.le_refl _⟩
theorem dIs_eNo (n : No) : dIs (eNo n) .none = some (.bool n.isNone) := by
  rcases n with _ | ⟨h, b⟩ <;> rfl
theorem dIsn_eNo (n : No) : dIsn (eNo n) .none = some (.bool n.isSome) := by
  rcases n with _ | ⟨h, b⟩ <;> rfl

theorem enumD_map {α : Type} (f : α → Dt) (xs : List α) : enumD (xs.map f) = ((List.range xs.length).zip xs).map fun p => PyData.tuple [.int (p.1 : Int), f p.2] := by
  unfold enumD rangeD
  rw [List.length_map, show (((xs.length : Nat) : Int).toNat) = xs.length from Int.toNat_natCast _]
  exact zipD_map (fun (i : Nat) => PyData.int (i : Int)) f _ _
theorem range_zip {α : Type} : ∀ (xs : List α) (a : Nat) {pre post : List (Nat × α)} {i : Nat} {x : α}, (List.range' a xs.length).zip xs = pre ++ (i, x) :: post → i = a + pre.length ∧ xs = pre.map Prod.snd ++ x :: post.map Prod.snd
  | [], a, pre, post, i, x, h => by simp at h
  | y :: ys, a, [], post, i, x, h => by
    simp only [List.length_cons, List.range'_succ, List.zip_cons_cons, List.nil_append, List.cons.injEq, Prod.mk.injEq] at h
    obtain ⟨⟨rfl, rfl⟩, rfl⟩ := h
    refine ⟨rfl, ?_⟩
    rw [List.map_snd_zip (by simp)]
    rfl
  | y :: ys, a, q :: pre, post, i, x, h => by
    simp only [List.length_cons, List.range'_succ, List.zip_cons_cons, List.cons_append, List.cons.injEq] at h
    obtain ⟨rfl, h⟩ := h
    obtain ⟨h1, h2⟩ := range_zip ys (a + 1) h
    refine ⟨by simp; omega, ?_⟩
    rw [List.map_cons, List.cons_append, ← h2]
theorem enum_split {α : Type} {xs : List α} {pre post : List (Nat × α)} {i : Nat} {x : α} (h : (List.range xs.length).zip xs = pre ++ (i, x) :: post) : i = (pre.map Prod.snd).length ∧ xs = pre.map Prod.snd ++ x :: post.map Prod.snd := by
  rw [List.range_eq_range'] at h
  obtain ⟨h1, h2⟩ := range_zip xs 0 h
  exact ⟨by simp; omega, h2⟩
theorem run_get {room : Int} {r : Ru} {x : Int} {b : List Int} : ∀ {a : List Int} {p : Pl}, (runM room r p (a ++ x :: b))[a.length]? = some (tickM room r (goM room r p a) x)
  | [], p => rfl
  | y :: a, p => by
    simp only [List.cons_append, runM, List.length_cons, List.getElem?_cons_succ]
    exact run_get
theorem ix_map {α : Type} {f : α → Dt} {ts : List α} {i : Nat} {t : α} (h : ts[i]? = some t) : dIx (.list (ts.map f)) (.int (i : Int)) = some (f t) := by
  show atI (ts.map f) (i : Int) = _
  exact atI_nat (by rw [List.getElem?_map, h]; rfl)
theorem ix_job {a b : List Int} {x : Int} : dIx (.list ((a ++ x :: b).map PyData.int)) (.int (a.length : Int)) = some (.int x) := ix_map (by simp)
theorem eCn_0 (c : Cn) : dIx (eCn c) (.int 0) = some (.int c.1) := atI_0 _ _
theorem eCn_1 (c : Cn) : dIx (eCn c) (.int 1) = some (.int c.2) := atI_1 _ _ _
theorem eNo_0 (h : Int) (b : Bool) : dIx (eNo (some (h, b))) (.int 0) = some (.int h) := atI_0 _ _
theorem eNo_1 (h : Int) (b : Bool) : dIx (eNo (some (h, b))) (.int 1) = some (.bool b) := atI_1 _ _ _
theorem dMax_two (a b : Int) : dMax [.int a, .int b] = some (.int (max a b)) := by
  show some (PyData.int (if b > a then b else a)) = _
  congr 2
  split <;> omega
theorem dMin_cn (c : Cn) : dMin [eCn c] = some (.int (min c.1 c.2)) := rfl
theorem dMax_cn (c : Cn) : dMax [eCn c] = some (.int (max c.1 c.2)) := rfl
theorem dMax_l2 (a b : Int) : dMax [.list [.int a, .int b]] = some (.int (max a b)) := rfl
theorem dMin_l2 (a b : Int) : dMin [.list [.int a, .int b]] = some (.int (min a b)) := rfl
theorem dEq_bool (a b : Bool) : dEq (.bool a) (.bool b) = some (.bool (a == b)) := by
  rw [dEq_ok rfl rfl]
  cases a <;> cases b <;> rfl
theorem dNe_bool (a b : Bool) : dNe (.bool a) (.bool b) = some (.bool (a != b)) := by
  rw [dNe_ok rfl rfl]
  cases a <;> cases b <;> rfl
theorem eqv_cn (a b : Cn) : PyData.eqv (eCn a) (eCn b) = decide (a = b) := by
  obtain ⟨a1, a2⟩ := a
  obtain ⟨b1, b2⟩ := b
  simp only [eCn, PyData.eqv, PyData.eqvAll, Bool.and_true, Prod.mk.injEq, Bool.beq_eq_decide_eq, Bool.decide_and]
theorem okD_cn (a : Cn) : okD 40 (eCn a) = true := rfl
theorem dNe_cn (a b : Cn) : dNe (eCn a) (eCn b) = some (.bool (!decide (a = b))) := by rw [dNe_ok (okD_cn a) (okD_cn b), eqv_cn]
theorem dEq_cn (a b : Cn) : dEq (eCn a) (eCn b) = some (.bool (decide (a = b))) := by rw [dEq_ok (okD_cn a) (okD_cn b), eqv_cn]
theorem cn_fold (a b : Int) : (.tuple [.int a, .int b] : Dt) = eCn (a, b) := rfl
theorem works_place {room : Int} {r : Ru} {p : Pl} {job : Int} (hp : PlOk room p) (hj : 0 ≤ job) : worksM (placeM room r p job) = (max 0 ((linesM room r p job).1.sum - 1), max 0 ((linesM room r p job).2.sum - 1)) := by
  obtain ⟨a, b, sa, sb⟩ := linesM_ok (r := r) hp hj
  unfold worksM placeM
  rw [worked_sum a, worked_sum b]
/-- the three kinds of ticks, by numbers -/
structure Tick (room : Int) (b : Cn) (j : Int) (n : No) (c w : Cn) : Prop where
  none : j = 0 → n = none ∧ c = (0, 0) ∧ w = (max 0 (b.1 - 1), max 0 (b.2 - 1))
  some : 0 < j → ∃ h, HandOk h ∧ ((∃ l, n = some (h, true) ∧ c = (j, 0) ∧ w = (max 0 (b.1 - 1), max 0 (b.2 - 1)) ∧ l = (if h = 0 then b.1 else b.2) ∧ room < l + j) ∨
    (∃ l, n = some (h, false) ∧ c = (0, l - min b.1 b.2) ∧ w = (max 0 ((if h = 0 then b.1 + j else b.1) - 1), max 0 ((if h = 0 then b.2 else b.2 + j) - 1)) ∧ l = (if h = 0 then b.1 else b.2) ∧ l + j ≤ room))
theorem lineOf_sum (p : Pl) (h : Int) : (lineOf p h).sum = if h = 0 then (worksM p).1 else (worksM p).2 := by
  unfold lineOf worksM
  split <;> rfl
theorem tick_kinds {room : Int} {r : Ru} {p : Pl} {job : Int} (hr : RuOk r) (hp : PlOk room p) (hj : 0 ≤ job) : Tick room (worksM p) job (noteM room r p job) (cntM room r p job) (worksM (placeM room r p job)) := by
  refine ⟨fun h0 => ?_, fun h0 => ⟨namedM r p job, namedM_ok hr hp.la, ?_⟩⟩
  · subst h0
    refine ⟨rfl, rfl, ?_⟩
    rw [works_place hp (by omega)]
    rfl
  · rw [works_place hp hj]
    have ho := namedM_ok (r := r) (p := p) (job := job) hr hp.la
    cases hl : isLost room r p job with
    | true =>
      refine .inl ⟨_, ?_, ?_, ?_, (lineOf_sum p _), ?_⟩
      · simp only [noteM, h0, hl, if_true]
      · simp only [cntM, h0, hl, if_true]
      · simp only [linesM, h0, hl, if_true]; rfl
      · exact of_decide_eq_true hl
    | false =>
      refine .inr ⟨_, ?_, ?_, ?_, (lineOf_sum p _), ?_⟩
      · simp only [noteM, h0, hl, if_true]
      · simp only [cntM, h0, hl, if_true, if_false, Bool.false_eq_true, lineOf_sum]
        congr 2
        rcases ho with e | e <;> rw [e]
        · simp only [show ((1 : Int) - 0 = 0) = False from eq_false (by decide), if_true, if_false]
          split <;> omega
        · simp only [show ((1 : Int) - 1 = 0) = True from eq_true (by decide), show ((1 : Int) = 0) = False from eq_false (by decide), if_true, if_false]
          split <;> omega
      · simp only [linesM, h0, hl, if_true, if_false, Bool.false_eq_true, joinM]
        rcases ho with e | e <;> rw [e]
        · simp only [if_true, List.sum_append, List.sum_cons, List.sum_nil, worksM, Int.add_zero]
        · simp only [show ((1 : Int) = 0) = False from eq_false (by decide), if_false, List.sum_append, List.sum_cons, List.sum_nil, worksM, Int.add_zero]
      · have := of_decide_eq_false hl
        omega
theorem okD_refl {d : Dt} (h : okD 40 d = true) : d.eqv d = true := SeqAt.eqv_refl_plain d (okD_plain d 40 h).1
theorem dNe_self {d : Dt} (h : okD 40 d = true) : dNe d d = some (.bool false) := by rw [dNe_ok h h, okD_refl h]; rfl
theorem dEq_self {d : Dt} (h : okD 40 d = true) : dEq d d = some (.bool true) := by rw [dEq_ok h h, okD_refl h]
theorem okL_map {α : Type} {k : Nat} (f : α → Dt) : ∀ xs : List α, (∀ x ∈ xs, okD k (f x) = true) → okL k (xs.map f) = true
  | [], _ => rfl
  | x :: xs, h => by
    rw [List.map_cons]
    simp only [okL, h x List.mem_cons_self, okL_map f xs fun y hy => h y (List.mem_cons_of_mem _ hy), Bool.and_self]
theorem okD_list {k : Nat} {ds : List Dt} (h : okL k ds = true) : okD (k + 1) (.list ds) = true := by simpa only [okD] using h
theorem okD_tuple {k : Nat} {ds : List Dt} (h : okL k ds = true) : okD (k + 1) (.tuple ds) = true := by simpa only [okD] using h
theorem okD_no {k : Nat} (n : No) : okD (k + 1) (eNo n) = true := by
  cases n with
  | none => rfl
  | some p => rfl
theorem okD_cnk {k : Nat} (c : Cn) : okD (k + 1) (eCn c) = true := rfl
theorem cut_take {α : Type} (xs : List α) (n : Nat) : cutD xs none (some (n : Int)) = xs.take n := by
  unfold cutD
  rw [HT.sIx_none, HT.sIx_nat, List.drop_zero, Nat.sub_zero]
  rcases Nat.le_total n xs.length with h | h
  · rw [Nat.min_eq_left h]
  · rw [Nat.min_eq_right h, List.take_length, List.take_of_length_le h]
theorem sl_take (xs : List Dt) (n : Nat) : dSl (.list xs) none (some (n : Int)) = some (.list (xs.take n)) := by
  show some (PyData.list (cutD xs none (some (n : Int)))) = _
  rw [cut_take]
theorem cut_drop {α : Type} (xs : List α) (n : Nat) : cutD xs (some (n : Int)) none = xs.drop n := by
  unfold cutD
  rw [HT.sIx_none, HT.sIx_nat]
  rcases Nat.le_total n xs.length with h | h
  · rw [Nat.min_eq_left h]
    exact List.take_of_length_le (by simp)
  · rw [Nat.min_eq_right h, List.drop_length, List.drop_of_length_le h, List.take_nil]
theorem sl_drop (xs : List Dt) (n : Nat) : dSl (.list xs) (some (n : Int)) none = some (.list (xs.drop n)) := by
  show some (PyData.list (cutD xs (some (n : Int)) none)) = _
  rw [cut_drop]
theorem runM_take (room : Int) (r : Ru) : ∀ (js : List Int) (p : Pl) (n : Nat), runM room r p (js.take n) = (runM room r p js).take n
  | [], p, n => by simp [runM]
  | j :: js, p, 0 => by simp [runM]
  | j :: js, p, n + 1 => by
    rw [List.take_succ_cons]
    unfold runM
    rw [List.take_succ_cons, runM_take room r js _ n]
theorem JobsOk.take {js : List Int} (h : JobsOk js) (n : Nat) : JobsOk (js.take n) := fun x hx => h x (List.mem_of_mem_take hx)
theorem dAll_bools {α : Type} (f : α → Bool) (xs : List α) : dAll [.list (xs.map fun x => PyData.bool (f x))] = some (.bool (xs.all f)) := by
  have := boolsOf_map (xs.map f)
  rw [List.map_map] at this
  show (match boolsOf (xs.map fun x => PyData.bool (f x)) with
    | some bs => some (PyData.bool (bs.all id))
    | none => none) = _
  rw [show (xs.map fun x => PyData.bool (f x)) = xs.map (PyData.bool ∘ f) from rfl, this]
  simp
theorem dAny_bools {α : Type} (f : α → Bool) (xs : List α) : dAny [.list (xs.map fun x => PyData.bool (f x))] = some (.bool (xs.any f)) := by
  have := boolsOf_map (xs.map f)
  rw [List.map_map] at this
  show (match boolsOf (xs.map fun x => PyData.bool (f x)) with
    | some bs => some (PyData.bool (bs.any id))
    | none => none) = _
  rw [show (xs.map fun x => PyData.bool (f x)) = xs.map (PyData.bool ∘ f) from rfl, this]
  simp
theorem take_len {α β : Type} (f : α → β) (xs : List α) (n : Nat) : (xs.map f).take n = (xs.take n).map f := by rw [List.map_take]
theorem lcD_filt {α : Type} {vs : List Nat} {g : GF} {c : TF} {f : EF} {env : Nv} (enc h : α → Dt) (p : α → Bool) (xs : List α) (H : ∀ x ∈ xs, ∃ e1, g (enc x) env = some e1 ∧ wip e1 vs = env ∧ c e1 = some (p x, e1) ∧ (p x = true → f e1 = some (h x, e1))) : lcD vs g c f (xs.map enc) env = some ((xs.filter p).map h, env) := by
  refine lcD_filter enc h p xs fun x hx => ?_
  obtain ⟨e1, a, b, c, d⟩ := H x hx
  exact ⟨e1, e1, a, c, b, fun hp => ⟨e1, d hp, b⟩⟩
theorem lcD_mp {α : Type} {vs : List Nat} {g : GF} {f : EF} {env : Nv} (enc h : α → Dt) (xs : List α) (H : ∀ x ∈ xs, ∃ e1, g (enc x) env = some e1 ∧ wip e1 vs = env ∧ f e1 = some (h x, e1)) : lcD vs g tYesF f (xs.map enc) env = some (xs.map h, env) := by
  refine lcD_map enc h xs fun x hx => ?_
  obtain ⟨e1, a, b, c⟩ := H x hx
  exact ⟨e1, e1, a, c, b⟩
def B_folded : SF := (sSeq (sIf (tVal (eOp dEq (eOp dIx (eVar 0) (eC (.int 0))) (eC (.str "fewer")))) (sRet (eVar 1)) sSkip)
    (sSeq (sAsg (eCall F_works_of (aI (eVar 1) aNil)) (gTp (gsCons (gNm 2) (gsCons (gNm 3) gsNil))))
    (sRet (eTup (aI (eIf (tVal (eOp dGt (eVar 2) (eC (.int 0)))) (eTup (aI (eVar 2) aNil)) (eTup aNil)) (aI (eIf (tVal (eOp dGt (eVar 3) (eC (.int 0)))) (eTup (aI (eVar 3) aNil)) (eTup aNil)) (aI (eOp dIx (eVar 1) (eC (.int 2))) aNil)))))))
def F_folded : List Dt → Option Dt := fnP 2 2 B_folded
def B_step : SF := (sSeq (sAsg (eCall F_tick (aI (eVar 0) (aI (eVar 1) (aI (eVar 2) (aI (eVar 3) aNil))))) (gTp (gsCons (gNm 4) (gsCons (gNm 5) (gsCons (gNm 6) gsNil)))))
    (sRet (eTup (aI (eCall F_folded (aI (eVar 1) (aI (eVar 4) aNil))) (aI (eVar 5) (aI (eVar 6) aNil))))))
def F_step : List Dt → Option Dt := fnP 4 3 B_step
def B_graph_of_l1 : SF := (sSeq (sAsg (eCall F_step (aI (eVar 0) (aI (eVar 1) (aI (eVar 4) (aI (eVar 5) aNil))))) (gTp (gsCons (gNm 6) (gsCons (gNm 7) (gsCons (gNm 8) gsNil)))))
    (sSeq (sAppG 2 (qVar 4) (qTup [(qVar 5), (qVar 6), (qOp dIx (qVar 8) (qC (.int 0))), (qOp dIx (qVar 8) (qC (.int 1)))]))
    (sApp 3 (eVar 6))))
def B_graph_of_l2 : SF := (sSeq (sSet 4 (ePop 3))
    (sSeq (sIf (tVal (eInV false (eVar 4) 2)) sCnt sSkip)
    (sSeq (sPutG 2 (qVar 4))
    (sFor (itD (eTup (aI (eC (.int 0)) (aI (eC (.int 1)) (aI (eC (.int 2)) (aI (eC (.int 3)) aNil)))))) (gNm 5) B_graph_of_l1))))
def B_graph_of : SF := (sSeq (sPar [2, 3] (aGn (aN (nLst (aI (eCall F_begun aNil) aNil)) aNil)))
    (sSeq (whileD (tVal (eOpV dNe 3 (eNew (nLst aNil)))) B_graph_of_l2 1000000)
    (sRet (eVarG 2))))
def F_graph_of : List Dt → Option Dt := fnP 2 7 B_graph_of
def B_first_lost_l1 : SF := (sSeq (sIf (tAndF (tVal (eOp dGt (eVar 11) (eC (.int 0)))) (tOrF (tNotF (tVal (eVar 2))) (tVal (eOp dLe (eOp dAdd (eCall dMin (aI (eCall F_works_of (aI (eVar 8) aNil)) aNil)) (eVar 9)) (eVar 0))))) (sRet (eOp dAdd (eVar 7) (eNew (nLst (aI (eVar 9) aNil))))) sSkip)
    (sIf (tVal (eInV true (eVar 10) 5)) (sSeq (sPutV 5 (eVar 10) (eC (.bool true)))
    (sApp 6 (eTup (aI (eOp dAdd (eVar 7) (eNew (nLst (aI (eVar 9) aNil)))) (aI (eVar 10) aNil))))) sSkip))
def B_first_lost_l2 : SF := (sFor (itD (eGetV 3 (eVar 8))) (gTp (gsCons (gNm 9) (gsCons (gNm 10) (gsCons (gNm 11) (gsCons (gNm 12) gsNil))))) B_first_lost_l1)
def B_first_lost_l3 : SF := (sSeq (sNew 6 (nLst aNil))
    (sSeq (sFor (itD (eVar 4)) (gTp (gsCons (gNm 7) (gsCons (gNm 8) gsNil))) B_first_lost_l2)
    (sSet 4 (eVar 6))))
def B_first_lost : SF := (sSeq (sPar [3, 4, 5] (aI (eCall F_graph_of (aI (eVar 0) (aI (eVar 1) aNil))) (aI (eNew (nLst (aI (eTup (aI (eNew (nLst aNil)) (aI (eCall F_begun aNil) aNil))) aNil))) (aDn (dOne (eCall F_begun aNil) (eC (.bool true))) aNil))))
    (sSeq (whileD (tVal (eOp dNe (eVar 4) (eNew (nLst aNil)))) B_first_lost_l3 1000000)
    (sRet (eC .none))))
def F_first_lost : List Dt → Option Dt := fnP 3 10 B_first_lost
def B_first_loss : SF := (sSeq (sExpr (eCall F_need_both (aI (eVar 0) (aI (eVar 1) aNil))))
    (sRet (eCall F_first_lost (aI (eVar 0) (aI (eVar 1) (aI (eC (.bool false)) aNil))))))
def F_first_loss : List Dt → Option Dt := fnP 2 0 B_first_loss
def B_first_waste : SF := (sSeq (sExpr (eCall F_need_both (aI (eVar 0) (aI (eVar 1) aNil))))
    (sRet (eCall F_first_lost (aI (eVar 0) (aI (eVar 1) (aI (eC (.bool true)) aNil))))))
def F_first_waste : List Dt → Option Dt := fnP 2 0 B_first_waste
def B_greatest_gap : SF := (sSeq (sExpr (eCall F_need_both (aI (eVar 0) (aI (eVar 1) aNil))))
    (sSeq (sNew 2 (nLc [3] (itK (eCall F_graph_of (aI (eVar 0) (aI (eVar 1) aNil)))) (gNm 3) tYesF (eCall F_works_of (aI (eVar 3) aNil))))
    (sRet (eCall dMax (aI (eNew (nLc [4, 5] (itD (eVar 2)) (gTp (gsCons (gNm 4) (gsCons (gNm 5) gsNil))) tYesF (eCall dAbs (aI (eOp dSub (eVar 4) (eVar 5)) aNil)))) aNil)))))
def F_greatest_gap : List Dt → Option Dt := fnP 2 4 B_greatest_gap
def B_worths_l1 : SF := (sPutV 4 (eVar 5) (eNew (nLc [6, 7, 8, 9] (itD (eGetV 3 (eVar 5))) (gTp (gsCons (gNm 6) (gsCons (gNm 7) (gsCons (gNm 8) (gsCons (gNm 9) gsNil))))) tYesF (eTup (aI (eVar 6) (aI (eVar 7) (aI (eIf (tVal (eVar 2)) (eVar 9) (eVar 8)) aNil)))))))
def B_worths : SF := (sSeq (sPar [3, 4] (aI (eCall F_graph_of (aI (eVar 0) (aI (eVar 1) aNil))) (aDn dEmp aNil)))
    (sSeq (sFor (itK (eVarD 3)) (gNm 5) B_worths_l1)
    (sRet (eVarD 4))))
def F_worths : List Dt → Option Dt := fnP 3 7 B_worths
/-! ### what the kernel computes -/
mutual
def eqD : Dt → Dt → Bool
  | .none, .none => true
  | .bool a, .bool b => a == b
  | .int a, .int b => decide (a = b)
  | .str a, .str b => decide (a = b)
  | .list a, .list b => eqDs a b
  | .tuple a, .tuple b => eqDs a b
  | _, _ => false
def eqDs : List Dt → List Dt → Bool
  | [], [] => true
  | a :: as, b :: bs => eqD a b && eqDs as bs
  | _, _ => false
end
mutual
theorem eqD_eq : ∀ (a b : Dt), eqD a b = true → a = b
  | .none, b, h => by cases b <;> simp only [eqD] at h <;> first | rfl | cases h
  | .bool x, b, h => by
    cases b <;> simp only [eqD] at h <;> first | (cases h; done) | skip
    rename_i y
    rw [beq_iff_eq.mp h]
  | .int x, b, h => by
    cases b <;> simp only [eqD] at h <;> first | (cases h; done) | skip
    rename_i y
    rw [of_decide_eq_true h]
  | .str x, b, h => by
    cases b <;> simp only [eqD] at h <;> first | (cases h; done) | skip
    rename_i y
    rw [of_decide_eq_true h]
  | .list xs, b, h => by
    cases b <;> simp only [eqD] at h <;> first | (cases h; done) | skip
    rename_i ys
    rw [eqDs_eq xs ys h]
  | .tuple xs, b, h => by
    cases b <;> simp only [eqD] at h <;> first | (cases h; done) | skip
    rename_i ys
    rw [eqDs_eq xs ys h]
  | .dict _, b, h => by cases b <;> simp only [eqD] at h <;> cases h
theorem eqDs_eq : ∀ (a b : List Dt), eqDs a b = true → a = b
  | [], b, h => by cases b with
    | nil => rfl
    | cons _ _ => simp only [eqDs] at h; cases h
  | x :: xs, b, h => by cases b with
    | nil => simp only [eqDs] at h; cases h
    | cons y ys =>
      simp only [eqDs, Bool.and_eq_true] at h
      rw [eqD_eq x y h.1, eqDs_eq xs ys h.2]
end
def isD (o : Option Dt) (d : Dt) : Bool := match o with
  | some x => eqD x d
  | none => false
theorem isD_eq {o : Option Dt} {d : Dt} (h : isD o d = true) : o = some d := by
  cases o with
  | none => cases h
  | some x => rw [eqD_eq x d h]
def rooms : List Int := [3, 4, 5]
theorem mem_rooms {r : Int} (h1 : 3 ≤ r) (h2 : r ≤ 5) : r ∈ rooms := by
  have : r = 3 ∨ r = 4 ∨ r = 5 := by omega
  simp [rooms, this]
def hands : List Int := [0, 1]
theorem mem_hands {h : Int} (h1 : 0 ≤ h) (h2 : h < 2) : h ∈ hands := by
  have : h = 0 ∨ h = 1 := by omega
  simp [hands, this]
def ruHand : List Ru := [(.sizes, 0), (.sizes, 1), (.least, 0), (.least, 1), (.turns, 0), (.turns, 1), (.fewer, 0), (.fewer, 1)]
def ruMost : List Ru := [(.fill, 1), (.fill, 2), (.fill, 3), (.fill, 4), (.fill, 5), (.stay, 1), (.stay, 2), (.stay, 3), (.stay, 4), (.stay, 5)]
theorem mem_rules {r : Ru} (h : RuOk r) : r ∈ ruHand ++ ruMost := by
  obtain ⟨w, n⟩ := r
  cases w <;> (simp only [RuOk] at h) <;> first
    | (have e : n = 0 ∨ n = 1 := h; rcases e with rfl | rfl <;> simp [ruHand, ruMost])
    | (have e : n = 1 ∨ n = 2 ∨ n = 3 ∨ n = 4 ∨ n = 5 := by omega
       rcases e with rfl | rfl | rfl | rfl | rfl <;> simp [ruHand, ruMost])
theorem all_of {α : Type} {p : α → Bool} {l : List α} (h : l.all p = true) {x : α} (hx : x ∈ l) : p x = true := List.all_eq_true.mp h x hx
/-! ### folded places -/
def lnM (s : Int) : List Int := if 0 < s then [s] else []
def foldM (r : Ru) (p : Pl) : Pl := if r.1 = .fewer then p else (lnM p.1.sum, lnM p.2.1.sum, p.2.2)
theorem folded_ok (r : Ru) (p : Pl) : F_folded [eRu r, ePl p] = some (ePl (foldM r p)) := by
  obtain ⟨w, n⟩ := r
  obtain ⟨a, b, l⟩ := p
  have hw : dEq (.str (wS w)) (.str "fewer") = some (.bool (decide (w = .fewer))) := by
    rw [show ((.str "fewer" : Dt)) = .str (wS .fewer) from rfl, dEq_str, weq]
  unfold F_folded B_folded
  by_cases h : w = .fewer
  · subst h
    simp only [decide_true] at hw
    wp_walk using eRu_0, hw, foldM
  · simp only [h, decide_false] at hw
    by_cases ha : 0 < a.sum <;> by_cases hb : 0 < b.sum <;> wp_walk using eRu_0, hw, h, foldM, works_of_ok, worksM, eCn, ha, hb, lnM, ePl_2 <;> rfl
def stepM (room : Int) (r : Ru) (p : Pl) (job : Int) : Tk := (foldM r (placeM room r p job), noteM room r p job, cntM room r p job)
theorem step_ok {room : Int} {r : Ru} {p : Pl} {job : Int} (h5 : room ≤ 5) (hr : RuOk r) (hp : PlOk room p) (hj : job ≤ 3) : F_step [.int room, eRu r, ePl p, .int job] = some (eTk (stepM room r p job)) := by
  have h1 := tick_ok h5 hr hp hj
  unfold F_step B_step
  wp_walk using h1, sAsg, eTk, tickM, folded_ok, stepM
theorem lnM_sum {s : Int} (h : 0 ≤ s) : (lnM s).sum = s := by
  unfold lnM
  split
  · simp
  · simp; omega
theorem lnM_ok {s : Int} : LnOk (lnM s) := fun x hx => by
  unfold lnM at hx
  split at hx
  · simp at hx; omega
  · cases hx
theorem foldM_ok {room : Int} {r : Ru} {p : Pl} (hp : PlOk room p) : PlOk room (foldM r p) := by
  unfold foldM
  split
  · exact hp
  · exact ⟨lnM_ok, lnM_ok, by show (lnM _).sum ≤ room; rw [lnM_sum hp.a.nonneg]; exact hp.sa, by show (lnM _).sum ≤ room; rw [lnM_sum hp.b.nonneg]; exact hp.sb, hp.la⟩
theorem works_fold {room : Int} {r : Ru} {p : Pl} (hp : PlOk room p) : worksM (foldM r p) = worksM p := by
  unfold foldM
  split
  · rfl
  · show ((lnM p.1.sum).sum, (lnM p.2.1.sum).sum) = (p.1.sum, p.2.1.sum)
    rw [lnM_sum hp.a.nonneg, lnM_sum hp.b.nonneg]
/-- what a rule but fewer looks at -/
theorem named_like {r : Ru} {p q : Pl} {j : Int} (hw : r.1 ≠ .fewer) (h : worksM p = worksM q) (hl : p.2.2 = q.2.2) : namedM r p j = namedM r q j := by
  obtain ⟨w, n⟩ := r
  simp only [worksM, Prod.mk.injEq] at h
  have hs : ∀ x : Int, (lineOf p x).sum = (lineOf q x).sum := fun x => by unfold lineOf; split <;> simp [h.1, h.2]
  cases w <;> simp only [namedM, lineOf, hl, h.1, h.2] at * <;> first | rfl | exact absurd rfl hw | skip
  all_goals first | rfl | (simp only [hs]; rfl) | (simp only [hs])
theorem tick_like {room : Int} {r : Ru} {p q : Pl} {j : Int} (hw : r.1 ≠ .fewer) (hp : PlOk room p) (hq : PlOk room q) (hj : 0 ≤ j) (hr : RuOk r) (h : worksM p = worksM q) (hl : p.2.2 = q.2.2) :
    noteM room r p j = noteM room r q j ∧ cntM room r p j = cntM room r q j ∧ worksM (placeM room r p j) = worksM (placeM room r q j) ∧ (placeM room r p j).2.2 = (placeM room r q j).2.2 := by
  have hn := named_like (j := j) hw h hl
  have h1 := h
  simp only [worksM, Prod.mk.injEq] at h1
  have hs : ∀ x : Int, (lineOf p x).sum = (lineOf q x).sum := fun x => by unfold lineOf; split <;> simp [h1.1, h1.2]
  have hlo : isLost room r p j = isLost room r q j := by unfold isLost; rw [hn, hs]
  have hli : (linesM room r p j).1.sum = (linesM room r q j).1.sum ∧ (linesM room r p j).2.sum = (linesM room r q j).2.sum := by
    unfold linesM joinM
    rw [hn, hlo]
    split
    · split
      · exact h1
      · split
        · simp [h1.1, h1.2]
        · simp [h1.1, h1.2]
    · exact h1
  refine ⟨by unfold noteM; rw [hn, hlo], ?_, ?_, ?_⟩
  · unfold cntM
    rw [hlo]
    simp only [hn, hs]
  · rw [works_place hp hj, works_place hq hj, hli.1, hli.2]
  · show keptM r (lastM r p j) = keptM r (lastM r q j)
    unfold lastM
    rw [hn, hl]
theorem fold_eq {room : Int} {r : Ru} {p q : Pl} (hw : r.1 ≠ .fewer) (h : worksM p = worksM q) (hl : p.2.2 = q.2.2) : foldM r p = foldM r q := by
  simp only [worksM, Prod.mk.injEq] at h
  simp only [foldM, hw, if_false, h.1, h.2, hl]
/-- a tick from the folded place -/
theorem fold_tick {room : Int} {r : Ru} {p : Pl} {j : Int} (hp : PlOk room p) (hj : 0 ≤ j) (hr : RuOk r) :
    noteM room r (foldM r p) j = noteM room r p j ∧ cntM room r (foldM r p) j = cntM room r p j ∧ foldM r (placeM room r (foldM r p) j) = foldM r (placeM room r p j) := by
  by_cases hw : r.1 = .fewer
  · have e : foldM r p = p := by simp only [foldM, hw, if_true]
    rw [e]
    exact ⟨rfl, rfl, rfl⟩
  · obtain ⟨h1, h2, h3, h4⟩ := tick_like (j := j) hw (foldM_ok (r := r) hp) hp hj hr (works_fold hp) (by simp only [foldM, hw, if_false])
    exact ⟨h1, h2, fold_eq (room := room) hw h3 h4⟩
/-- folded, along jobs -/
theorem fold_go {room : Int} {r : Ru} (h3 : 0 ≤ room) (hr : RuOk r) : ∀ {js : List Int} {p : Pl}, JobsOk js → PlOk room p → foldM r (goM room r p js) = js.foldl (fun q j => (stepM room r q j).1) (foldM r p)
  | [], p, _, _ => rfl
  | j :: js, p, hj, hp => by
    have hj0 := hj j List.mem_cons_self
    have hp' := placeM_ok (job := j) h3 hr hp hj0.1
    have ih := fold_go h3 hr (js := js) (fun x hx => hj x (List.mem_cons_of_mem _ hx)) hp'
    show foldM r (goM room r (placeM room r p j) js) = _
    rw [ih, List.foldl_cons]
    congr 1
    exact (fold_tick hp hj0.1 hr).2.2.symm
/-! ### a place takes over what another has -/
theorem Sto.merge {K : Kx} {O : Ow} {H0 H : Hp} {W : L2.St} {E : Nv} (S : Sto K O H0 H W E) {i j : Nat} {v : V} {s t : Sl} (hij : i ≠ j) (hi : E[i]? = some (some s)) (hj : E[j]? = some (some t)) (hw : W[i]? = some (some v)) :
    ∃ fi fj u, SlOk K H v s fi ∧ W[j]? = some (some u) ∧ SlOk K H u t fj ∧ (∀ b ∈ fi, b ∉ fj) ∧ ∀ (H' : Hp) (s' : Sl), Kp H H' → (∀ b, H b ≠ none → H' b ≠ none) → (∀ b u, b ∉ fi → b ∉ fj → H b = some u → H' b = some u) →
      (∃ fp', SlOk K H' v s' fp' ∧ ∀ b ∈ fp', b ∈ fi ∨ b ∈ fj ∨ H b = none) → (s'.io = true → s.io = true) → Sto K O H0 H' W ((E.set j none).set i (some s')) := by
  obtain ⟨F, f⟩ := S.fps
  obtain ⟨v', h1, h2⟩ := f.ok i s hi
  rw [hw] at h1; cases h1
  obtain ⟨u, h3, h4⟩ := f.ok j t hj
  refine ⟨F i, F j, u, h2, h3, h4, f.apart i j s t hij hi hj, fun H' s' k lv out ⟨fp', n1, n2⟩ io => ?_⟩
  have mn : ∀ b ∈ fp', O b ∨ H0 b = none := fun b hb => by
    rcases n2 b hb with q | q | q
    · exact f.mine i s hi b q
    · exact f.mine j t hj b q
    · by_cases ho : O b
      · exact .inl ho
      · cases q0 : H0 b with
        | none => exact .inr rfl
        | some u => have := S.frame b u q0 ho; rw [q] at this; cases this
  have ap : ∀ (l : Nat) (r : Sl), l ≠ i → l ≠ j → E[l]? = some (some r) → ∀ b ∈ F l, b ∉ fp' := fun l r hl hl2 h b hb hb' => by
    rcases n2 b hb' with q | q | q
    · exact f.apart l i r s hl h hi b hb q
    · exact f.apart l j r t hl2 h hj b hb q
    · obtain ⟨x, _, h3⟩ := f.ok l r h
      exact h3.there b hb q
  have g : ∀ {l : Nat} {r : Sl}, ((E.set j none).set i (some s'))[l]? = some (some r) → (l = i ∧ r = s') ∨ (l ≠ i ∧ l ≠ j ∧ E[l]? = some (some r)) := fun {l r} h => by
    rcases get_set h with ⟨hk, h⟩ | ⟨rfl, hi, e⟩
    · rcases get_set h with ⟨hk2, h⟩ | ⟨_, _, e⟩
      · exact .inr ⟨hk, hk2, h⟩
      · cases e
    · cases e
      exact .inl ⟨rfl, rfl⟩
  refine ⟨by simp [S.len], ⟨fun l => if l = i then fp' else F l, fun l r h => ?_, fun l r h => ?_, fun l m r q ne h1 h2 => ?_⟩, fun l r a h o q => ?_, fun a u h1 h2 => ?_, fun a ha => lv a (S.live a ha)⟩
  · rcases g h with ⟨rfl, rfl⟩ | ⟨hl, hl2, h⟩
    · rw [if_pos rfl]; exact ⟨v, hw, n1⟩
    · rw [if_neg hl]
      obtain ⟨x, e1, e2⟩ := f.ok l r h
      exact ⟨x, e1, e2.kp k fun b hb u e => out b u (f.apart l i r s hl h hi b hb) (f.apart l j r t hl2 h hj b hb) e⟩
  · rcases g h with ⟨rfl, rfl⟩ | ⟨hl, hl2, h⟩
    · rw [if_pos rfl]; exact mn
    · rw [if_neg hl]; exact f.mine l r h
  · rcases g h1 with ⟨rfl, rfl⟩ | ⟨hl, hl2, h1⟩
    · rw [if_pos rfl]
      rcases g h2 with ⟨rfl, rfl⟩ | ⟨hm, hm2, h2⟩
      · exact absurd rfl ne
      · rw [if_neg hm]; exact fun b hb hb' => ap m q hm hm2 ‹E[m]? = some (some q)› b hb' hb
    · rw [if_neg hl]
      rcases g h2 with ⟨rfl, rfl⟩ | ⟨hm, hm2, h2⟩
      · rw [if_pos rfl]; exact ap l r hl hl2 ‹E[l]? = some (some r)›
      · rw [if_neg hm]; exact f.apart l m r q ne ‹E[l]? = some (some r)› ‹E[m]? = some (some q)›
  · rcases g h with ⟨rfl, rfl⟩ | ⟨hl, hl2, h⟩
    · exact S.root l s a hi (io o) q
    · exact S.root l r a h o q
  · refine out a u (fun hb => ?_) (fun hb => ?_) (S.frame a u h1 h2)
    · rcases f.mine i s hi a hb with q | q
      · exact h2 q
      · rw [q] at h1; cases h1
    · rcases f.mine j t hj a hb with q | q
      · exact h2 q
      · rw [q] at h1; cases h1
theorem set_two {α : Type} (A : List α) (s t x y : α) : (((A ++ [s]) ++ [t]).set (A.length + 1) x).set A.length y = (A ++ [y]) ++ [x] := by
  induction A with
  | nil => rfl
  | cons a A ih => simpa using ih
theorem Rows.length {K : Kx} {H : Hp} : ∀ {dss : List (List Dt)} {as : List Addr}, Rows K H dss as → as.length = dss.length
  | [], _, h => by cases h; rfl
  | ds :: r, _, h => by
    obtain ⟨a, r', ys, rfl, h1, h2, h3⟩ := h
    simp [Rows.length h3]
theorem Rows.snoc {K : Kx} {H : Hp} {b : Addr} {ys : List V} {ds : List Dt} (hb : H b = some (.lst ys)) (hr : RpL K H ds ys) : ∀ {dss : List (List Dt)} {as : List Addr}, Rows K H dss as → Rows K H (dss ++ [ds]) (as ++ [b])
  | [], _, h => by
    cases h
    exact ⟨b, [], ys, rfl, hb, hr, rfl⟩
  | q :: r, _, h => by
    obtain ⟨a, r', ys', rfl, h1, h2, h3⟩ := h
    exact ⟨a, _, ys', rfl, h1, h2, Rows.snoc hb hr h3⟩
theorem Rows.at {K : Kx} {H : Hp} : ∀ {dss : List (List Dt)} {as : List Addr} {m : Nat} {ds : List Dt}, as.Nodup → Rows K H dss as → dss[m]? = some ds →
    ∃ a ys, as[m]? = some a ∧ H a = some (.lst ys) ∧ RpL K H ds ys ∧ ∀ (H' : Hp) (ds' : List Dt) (ys' : List V), Kp H H' → (∀ b ∈ as, b ≠ a → ∀ u, H b = some u → H' b = some u) → H' a = some (.lst ys') → RpL K H' ds' ys' → Rows K H' (dss.set m ds') as
  | [], _, _, _, _, _, h => by simp at h
  | q :: r, _, 0, ds, nd, h, hl => by
    obtain ⟨a, r', ys, rfl, h1, h2, h3⟩ := h
    simp at hl; subst hl
    refine ⟨a, ys, rfl, h1, h2, fun H' ds' ys' k hk ha hr => ⟨a, r', ys', rfl, ha, hr, h3.kp k fun b hb u e => hk b (List.mem_cons_of_mem _ hb) (fun z => by subst z; exact (List.nodup_cons.mp nd).1 hb) u e⟩⟩
  | q :: r, _, m + 1, ds, nd, h, hl => by
    obtain ⟨a, r', ys, rfl, h1, h2, h3⟩ := h
    obtain ⟨a2, ys2, g1, g2, g3, g4⟩ := Rows.at (List.nodup_cons.mp nd).2 h3 (m := m) (by simpa using hl)
    have ha2 : a2 ∈ r' := List.mem_of_getElem? g1
    refine ⟨a2, ys2, by simpa using g1, g2, g3, fun H' ds' ys' k hk ha hr => ⟨a, r', ys, rfl, ?_, RpL.kp k _ _ h2, g4 H' ds' ys' k (fun b hb => hk b (List.mem_cons_of_mem _ hb)) ha hr⟩⟩
    exact hk a List.mem_cons_self (fun z => by subst z; exact (List.nodup_cons.mp nd).1 ha2) _ h1
def lls (dss : List (List Dt)) : List Dt := dss.map PyData.list
theorem Rows.frozen {K : Kx} {H H' : Hp} (kp : Kp H H') : ∀ {dss : List (List Dt)} {as : List Addr}, (∀ b ∈ as, ∃ o u, H b = some u ∧ H' b = some (.frz o u)) → Rows K H dss as → RpL K H' (lls dss) (as.map V.ref)
  | [], _, _, h => by cases h; rfl
  | p :: r, _, hl, h => by
    obtain ⟨a, r', ys, rfl, h1, h2, h3⟩ := h
    obtain ⟨o, u, q1, q2⟩ := hl a List.mem_cons_self
    rw [h1] at q1; cases q1
    exact ⟨_, _, rfl, ⟨a, ys, rfl, .inl ⟨o, q2⟩, h2.kp kp⟩, Rows.frozen kp (fun b hb => hl b (List.mem_cons_of_mem _ hb)) h3⟩
/-- the last on the way, a list of one's own, goes behind the rows ahead of it -/
theorem Sg.appRow {K : Kx} {O : Ow} {H0 H : Hp} {σ τ : L2.St} {env ts : Nv} {D : Addr} {v : V} {acc : List (List Dt)} {y : List Dt} (S : Sg K O H0 H σ env ((τ ++ [some (.ref D)]) ++ [some v]) ((ts ++ [some (.ol false acc)]) ++ [some (.ow false y)])) :
    ∃ as : List Addr, as.length = acc.length ∧ H D = some (.lst (as.map V.ref)) ∧ Sg K O H0 (upd H D (.lst (as.map V.ref ++ [v]))) σ env (τ ++ [some (.ref D)]) (ts ++ [some (.ol false (acc ++ [y]))]) := by
  have l2 := S.len2
  simp only [List.length_append, List.length_cons, List.length_nil] at l2
  have le := S.le
  have h : Sto K O H0 H (((σ ++ τ) ++ [some (.ref D)]) ++ [some v]) (((env ++ ts) ++ [some (.ol false acc)]) ++ [some (.ow false y)]) := by
    have := S.st
    simpa only [List.append_assoc] using this
  have hl : (σ ++ τ).length = (env ++ ts).length := by simp; omega
  obtain ⟨fi, fj, u, h1, h2, h3, h4, h5⟩ := h.merge (i := (env ++ ts).length) (j := (env ++ ts).length + 1) (v := .ref D) (s := .ol false acc) (t := .ow false y) (by omega) (by rw [List.append_assoc, List.getElem?_append_right (Nat.le_refl _), Nat.sub_self]; rfl)
    (get_last (by simp; omega)) (by rw [← hl, List.append_assoc, List.getElem?_append_right (Nat.le_refl _), Nat.sub_self]; rfl)
  rw [get_last (by simp; omega : (env ++ ts).length + 1 = ((σ ++ τ) ++ [some (V.ref D)]).length)] at h2
  cases h2
  obtain ⟨a, as, e, rfl, nd, hD, hr⟩ := h1
  cases e
  obtain ⟨b, ys, rfl, rfl, hb, hy⟩ := h3
  have kp : Kp H (upd H D (.lst (as.map V.ref ++ [.ref b]))) := .lst hD
  have hbD : b ≠ D := fun z => h4 D List.mem_cons_self (by simp [z])
  have hba : b ∉ as := fun z => h4 b (List.mem_cons_of_mem _ z) (by simp)
  refine ⟨as, hr.length, hD, ?_⟩
  have hS := h5 (upd H D (.lst (as.map V.ref ++ [.ref b]))) (.ol false (acc ++ [y])) kp (fun c hc => live_upd hc) (fun c u hc _ q => by rw [upd_ne (fun z => hc (by subst z; exact List.mem_cons_self))]; exact q)
    ⟨D :: (as ++ [b]), ⟨D, as ++ [b], rfl, rfl, ?_, by rw [upd_same]; simp, ?_⟩, fun c hc => ?_⟩ id
  · rw [set_two] at hS
    have hS := hS.pop
    refine ⟨?_, le⟩
    simpa only [List.append_assoc] using hS
  · have n1 := List.nodup_cons.mp nd
    refine List.nodup_cons.mpr ⟨fun z => ?_, List.nodup_append.mpr ⟨n1.2, by simp, fun x hx y hy z => ?_⟩⟩
    · rcases List.mem_append.mp z with z | z
      · exact n1.1 z
      · exact hbD (List.mem_singleton.mp z).symm
    · cases List.mem_singleton.mp hy
      exact hba (z ▸ hx)
  · refine Rows.snoc (ys := ys) (by rw [upd_ne hbD]; exact hb) (hy.kp kp) (hr.kp kp fun c hc u q => ?_)
    rw [upd_ne (fun z => by subst z; exact (List.nodup_cons.mp nd).1 hc)]
    exact q
  · rcases List.mem_cons.mp hc with rfl | hc
    · exact .inl List.mem_cons_self
    · rcases List.mem_append.mp hc with hc | hc
      · exact .inl (List.mem_cons_of_mem _ hc)
      · exact .inr (.inl hc)

/-! ### a comprehension of new lists -/
abbrev LF := Nv → Option (List (List Dt) × Nv)
def RunsLL (K : Kx) (t : TE) (f : LF) : Prop := ∀ (O : Ow) (H0 H : Hp) (σ : L2.St) (env : Nv) (τ : L2.St) (ts : Nv) (ds : List (List Dt)) (env' : Nv) (Q : VK), Sg K O H0 H σ env τ ts → f env = some (ds, env') →
  (∀ v H', Sg K O H0 H' σ env' (τ ++ [some v]) (ts ++ [some (.ol false ds)]) → Q v H') → t σ H Q
def ELL (X : Cx) (e : Expr) (f : LF) : Prop := ∃ t, PE X e t ∧ RunsLL X.kx t f
def cN (K : Kx) (f : NF) : TE := fun σ H Q => ∃ (O : Ow) (H0 : Hp) (env : Nv) (τ : L2.St) (ts : Nv) (d : List Dt) (env' : Nv), Sg K O H0 H σ env τ ts ∧ f env = some (d, env') ∧ ∀ v H', Sg K O H0 H' σ env' (τ ++ [some v]) (ts ++ [some (.ow false d)]) → Q v H'
section
variable {X : Cx} {e a b c elt tg iter : Expr} {es rest : List Expr} {pos : Pos} {scope : Scope} {ol : List (Str × Nat)}
theorem EN.can {f : NF} (h : EN X e f) : PE X e (cN X.kx f) := by
  obtain ⟨t, h1, h2⟩ := h
  refine ⟨fun pins s σ H Q I q => ?_⟩
  obtain ⟨O, H0, env, τ, ts, d, env', S, hf, k⟩ := q
  exact h1.run pins s σ H Q I (h2 O H0 H σ env τ ts d env' Q S hf k)
def lcL (vs : List Nat) (g : GF) (f : NF) : List Dt → Nv → Option (List (List Dt) × Nv)
  | [], env => some ([], env)
  | d :: ds, env => match g d env with
    | some e1 => match f e1 with
      | some (y, e3) => match lcL vs g f ds (wip e3 vs) with
        | some (ys, e4) => some (y :: ys, e4)
        | none => none
      | none => none
    | none => none
def nLcL (vs : List Nat) (it : NF) (g : GF) (f : NF) : LF := fun env => match it env with
  | some (ds, e) => if ds.length < 10000000 then lcL vs g f ds (wip e vs) else none
  | none => none
theorem runs_lcL {K : Kx} {wi : TI} {it : NF} {g : GF} {f : NF} {vs gs : List Nat} (h2 : RunsL K wi it) (hgs : ∀ j ∈ gs, j ∈ vs) : RunsLL K (tLc wi (cG K gs g) (cT K tYesF) (cN K f) vs) (nLcL vs it g f) := by
  intro O H0 H σ env τ ts out env' Q S h k
  unfold nLcL at h
  split at h
  · rename_i ds e0 he0
    split at h
    · rename_i hlen
      refine h2 O H0 H σ env τ ts ds e0 _ S he0 fun J H1 vs1 ss1 G Y w r1 S1 hG hY => ?_
      intro D hD
      have hl1 : vs1.length = ss1.length := r1.length
      have fx1 := r1.fix
      let τ1 := τ ++ (vs1.map some).reverse
      let ts1 := ts ++ (ss1.map some).reverse
      have S1a := (S1.pushPin r1).wipe vs
      have S2 := S1a.pushO (same_upd (o := .lst []) hD) (s := .ol false []) (v := .ref D) (fp := [D]) ⟨D, [], rfl, rfl, by simp, upd_same, rfl⟩ (fun b hb => by cases List.mem_singleton.mp hb; exact hD) rfl
      refine lc_it w (fun i H => ∃ acc e ys, Sg K O H0 H (L2.wipe σ vs) (wip e vs) (τ1 ++ [some (.ref D)]) (ts1 ++ [some (.ol false acc)]) ∧ acc.length ≤ i ∧ lcL vs g f (ds.drop i) (wip e vs) = some (ys, env') ∧ acc ++ ys = out)
        ⟨[], e0, out, S2, Nat.le_refl _, h, rfl⟩ (fun i H _ ⟨acc, e, ys, S, _, _, _⟩ => hG H (Sg.argsP hl1 fx1 S.pop).1) (fun i x H H' hi ⟨acc, e, ys, S, hacc, hf, hout⟩ y => ?_) (fun H ⟨acc, e, ys, S, hacc, hf, hout⟩ => ?_)
      · have hd : ds.drop i = ds[i] :: ds.drop (i + 1) := List.drop_eq_getElem_cons hi
        rw [hd] at hf
        unfold lcL at hf
        obtain ⟨sm, rx⟩ := hY i ds[i] x H H' (List.getElem?_eq_getElem hi) (Sg.argsP hl1 fx1 S.pop).1 y
        have S' := (S.same sm).push rx
        split at hf
        · rename_i e1 he1
          refine ⟨O, H0, _, _, _, _, e1, S', he1, fun σ2 Sa la ja => ⟨?_, ?_⟩⟩
          · have := wipe_eq (vs := vs) (σ := L2.wipe σ vs) la fun j hj => ja j fun z => hj (hgs j z)
            rw [this]
            exact wipe_eq (by rw [wipe_length]) fun j hj => wipe_get hj
          · have hw2 : L2.wipe σ2 vs = L2.wipe σ vs := by
              have := wipe_eq (vs := vs) (σ := L2.wipe σ vs) la fun j hj => ja j fun z => hj (hgs j z)
              rw [this]
              exact wipe_eq (by rw [wipe_length]) fun j hj => wipe_get hj
            refine ⟨O, H0, e1, _, _, true, e1, Sa, rfl, fun H3 Sb => ?_⟩
            show (if true = true then _ else _)
            rw [if_pos rfl]
            split at hf
            · rename_i y3 e3 he3
              refine ⟨O, H0, e1, _, _, y3, e3, Sb, he3, fun v H4 Sc => ?_⟩
              split at hf
              · rename_i ys' e4 he4
                cases hf
                obtain ⟨as, la2, hD2, Se⟩ := Sc.appRow
                refine ⟨_, hD2, Nat.lt_of_le_of_lt (by rw [List.length_map, la2]; exact hacc) (Nat.lt_trans hi (Nat.lt_trans hlen (by decide))), acc ++ [y3], e3, ys', ?_, by simp; exact hacc, he4, by simpa using hout⟩
                have Sf := Se.wipe vs
                rw [hw2] at Sf
                exact Sf
              · cases hf
            · cases hf
        · cases hf
      · rw [List.drop_length] at hf
        cases hf
        rw [List.append_nil] at hout
        subst hout
        have Su := S.unwipe
        refine k _ H ?_
        have Sm : Sg K O H0 H σ (wip e vs) (τ ++ ((vs1.map some).reverse ++ [some (.ref D)])) (ts ++ ((ss1.map some).reverse ++ [some (.ol false acc)])) := by
          have := Su
          simp only [τ1, ts1, List.append_assoc] at this
          exact this
        exact Sm.mid S1.len2 (by simp [hl1])
    · cases h
  · cases h
theorem el_lc {it : NF} {g : GF} {f : NF} {gs : List Nat} (hc : X.calm = true) (hN : X.N.Nodup) (hi : EL X tg iter it) (ok : BlkOk X.N X.env.scope scope ol) (hgs : ∀ j ∈ gs, j ∈ ol.map (·.2))
    (hg : ∀ (s : Shared) (H : Hp) (C : Addr) (cl : List (Str × Addr)) (fp : List Addr), EG (X.blk s H scope (compEnvC scope cl C X.env) fp) tg gs g)
    (he : ∀ (s : Shared) (H : Hp) (C : Addr) (cl : List (Str × Addr)) (fp : List Addr), EN (X.blk s H scope (compEnvC scope cl C X.env) fp) elt f) (hs : ∀ x, foldedSetIterable iter X.env x = pure x := by intro _; rfl) :
    ELL X (.ListComp elt [⟨tg, iter, [], 0⟩] scope pos) (nLcL (ol.map (·.2)) it g f) := by
  obtain ⟨wi, h1, h2⟩ := hi
  exact ⟨_, pe_lc hc hN h1 ok (fun s H C cl fp => (hg s H C cl fp).can) (fun s H C cl fp => pts_yes) (fun s H C cl fp => (he s H C cl fp).can) hs, runs_lcL h2 hgs⟩
def aLL (f : LF) (r : AF) : AF := fun env => match f env with
  | some (ds, e1) => match r e1 with
    | some (ss, e2) => some (.ol false ds :: ss, e2)
    | none => none
  | none => none
theorem ea_ll {f : LF} {r : AF} (h : ELL X e f) (hr : EA X es r) (hs : starEach (e :: es) X.env = (false, eval e X.env) :: starEach es X.env := by rfl) : EA X (e :: es) (aLL f r) := by
  obtain ⟨_, h1, h2⟩ := h
  obtain ⟨_, h3, h4⟩ := hr
  refine ⟨_, pa_cons h1 h3 hs, fun O H0 H σ env τ ts ss env' Q S h k => ?_⟩
  unfold aLL at h
  split at h
  · rename_i d e1 he
    split at h
    · rename_i ss' e2 he2
      cases h
      refine h2 O H0 H σ env τ ts d e1 _ S he fun v H1 S1 => ?_
      refine h4 O H0 H1 σ e1 _ _ ss' env' _ S1 he2 fun vs H2 hl S2 => ?_
      exact k (v :: vs) H2 (by simp [hl]) (by simpa using S2)
    · cases h
  · cases h

/-! ### rows as data -/
def olAt (env : Nv) (i : Nat) : Option (Bool × List (List Dt)) := match env[i]? with
  | some (some (.ol io dss)) => some (io, dss)
  | _ => none
theorem olAt_eq {env : Nv} {i : Nat} {io : Bool} {dss : List (List Dt)} (h : olAt env i = some (io, dss)) : env[i]? = some (some (.ol io dss)) := by
  unfold olAt at h
  split at h
  · rename_i io d he
    cases h
    exact he
  · cases h
theorem ol_mut {K : Kx} {H : Hp} {a0 : Addr} {as : List Addr} {dss : List (List Dt)} (hH : H a0 = some (.lst (as.map V.ref))) (hr : Rows K H dss as) : ∀ b ∈ a0 :: as, ∃ u, H b = some u ∧ Mut (some u) := fun b hb => by
  rcases List.mem_cons.mp hb with rfl | hb
  · exact ⟨_, hH, trivial⟩
  · obtain ⟨ys, e⟩ := hr.there b hb
    exact ⟨_, e, trivial⟩
theorem ol_frz {K : Kx} {H H' : Hp} {a0 : Addr} {as : List Addr} {dss : List (List Dt)} (hH : H a0 = some (.lst (as.map V.ref))) (hr : Rows K H dss as) (l : LockAll H H' (a0 :: as)) : Rp K H' (.list (lls dss)) (.ref a0) := by
  have kp := l.kp (ol_mut hH hr)
  obtain ⟨o, u, q1, q2⟩ := l.2 a0 List.mem_cons_self
  rw [hH] at q1; cases q1
  exact ⟨a0, as.map V.ref, rfl, .inl ⟨o, q2⟩, hr.frozen kp fun b hb => l.2 b (List.mem_cons_of_mem _ hb)⟩
def eVarL (i : Nat) : EF := fun env => match olAt env i with
  | some (_, dss) => some (.list (lls dss), env.set i (some (.im (.list (lls dss)))))
  | none => none
theorem ei_varL (i : Nat) {x : Str} (hN : X.N[i]? = some x := by rfl) (hv : Vis X.env.scope x := by first | exact Or.inl rfl | exact Or.inr (Or.inl rfl) | exact Or.inr (Or.inr rfl)) (hd : (x == ("__debug__" : Str)) = false := by decide)
    (hcd : (x == ("__classdict__" : Str)) = false := by decide) : EI X (.Name x pos) (eVarL i) := by
  refine ⟨tVarG i, pe_varG hN hv hd hcd, fun O H0 H σ env τ ts d env' Q S h k => ?_⟩
  unfold eVarL at h
  split at h
  · rename_i io dss he
    cases h
    obtain ⟨v, fp, hw, ⟨a0, as, rfl, rfl, nd, hH, hr⟩, fin⟩ := S.stepX (olAt_eq he)
    refine ⟨_, a0 :: as, hw, nd, ol_mut hH hr, fun H' l => k _ H' ?_⟩
    have rd := ol_frz hH hr l
    have S' := fin H' (.im (.list (lls dss))) (l.kp (ol_mut hH hr)) l.live (fun b u hb q => by rw [l.1 b hb]; exact q) ⟨[], ⟨rd, rfl⟩, fun b hb => by cases hb⟩ (fun z => by cases z)
    exact S'.push rd
  · cases h

/-! ### rows that are lent to a quiet expression -/
theorem unlockAll {pins : List (Addr × Obj)} {σ : L2.St} {s : Shared} : ∀ {fp : List Addr} {H : Hp}, fp.Nodup → (∀ b ∈ fp, (∀ o' u', X.H_0 b ≠ some (.frz o' u')) ∧ ∃ o u, H b = some (.frz o u)) → L2.Inv X pins σ H s →
    ∃ H', (∀ b, b ∉ fp → H' b = H b) ∧ (∀ b ∈ fp, ∀ o u, H b = some (.frz o u) → H' b = some u) ∧ L2.Inv X pins σ H' s
  | [], H, _, _, I => ⟨H, fun _ _ => rfl, (fun b hb => by cases hb), I⟩
  | a :: fp, H, nd, hm, I => by
    obtain ⟨h0, o, u, h1⟩ := hm a List.mem_cons_self
    have I1 := I.unlock h1 h0
    have nd' := List.nodup_cons.mp nd
    obtain ⟨H', g1, g2, I2⟩ := unlockAll (H := upd H a u) nd'.2 (fun b hb => by
      rw [upd_ne (fun z => by subst z; exact nd'.1 hb)]
      exact hm b (List.mem_cons_of_mem _ hb)) I1
    refine ⟨H', fun b hb => ?_, fun b hb o' u' e => ?_, I2⟩
    · rw [g1 b (fun z => hb (List.mem_cons_of_mem _ z)), upd_ne (fun z => hb (by subst z; exact List.mem_cons_self))]
    · rcases List.mem_cons.mp hb with rfl | hb'
      · rw [h1] at e; cases e
        rw [g1 b nd'.1, upd_same]
      · exact g2 b hb' o' u' (by rw [upd_ne (fun z => by subst z; exact nd'.1 hb')]; exact e)
def tBor (t : TE) : TE := fun σ H Q => ∃ fp, fp.Nodup ∧ (∀ b ∈ fp, ∃ u, H b = some u ∧ Mut (some u)) ∧ ∀ H1, LockAll H H1 fp → t σ H1 fun v H2 => Same H1 H2 ∧ ∀ H3, (∀ b, b ∉ fp → H3 b = H2 b) → (∀ b ∈ fp, ∀ o u, H2 b = some (.frz o u) → H3 b = some u) → Q v H3
theorem pe_bor {t : TE} (h : PE X e t) : PE X e (tBor t) := ⟨fun pins s σ H Q I q => by
  obtain ⟨fp, nd, hm, q⟩ := q
  obtain ⟨H1, l, I1⟩ := lockAll nd hm I
  refine thn (h.run pins s σ H1 _ I1 (q H1 l)) fun u s' ⟨v, H2, I2, r, sm, q2⟩ => ?_
  have un : ∀ b ∈ fp, (∀ o' u', X.H_0 b ≠ some (.frz o' u')) ∧ ∃ o u, H2 b = some (.frz o u) := fun b hb => by
    obtain ⟨u, h1, h2⟩ := hm b hb
    obtain ⟨o, u', _, h4⟩ := l.2 b hb
    exact ⟨I.nofrz h1 h2, o, u', sm b _ h4⟩
  obtain ⟨H3, g1, g2, I3⟩ := unlockAll nd un I2
  exact ⟨v, H3, I3, r, q2 H3 g1 g2⟩⟩
def atomic : Dt → Bool
  | .int _ => true
  | .bool _ => true
  | .none => true
  | .str _ => true
  | _ => false
theorem atomic_rp {K : Kx} {H H' : Hp} {d : Dt} {v : V} (h : atomic d = true) (r : Rp K H d v) : Rp K H' d v := by
  cases d with
  | int _ => exact r
  | bool _ => exact r
  | none => exact r
  | str _ => exact r
  | list _ => cases h
  | tuple _ => cases h
  | dict _ => cases h
def qBor (i : Nat) (f : QF) : QF := fun env => match olAt env i with
  | some (_, dss) => match f (env.set i (some (.im (.list (lls dss))))) with
    | some d => if atomic d = true then some d else none
    | none => none
  | none => none
theorem eq_bor {i : Nat} {f : QF} (h : EQ X e f) : EQ X e (qBor i f) := by
  obtain ⟨t, h1, h2⟩ := h
  refine ⟨_, pe_bor h1, fun O H0 H σ env τ ts d Q S h k => ?_⟩
  unfold qBor at h
  split at h
  · rename_i io dss he
    split at h
    · rename_i d' hd
      split at h
      · rename_i hat
        cases h
        obtain ⟨v, fp, hw, ⟨a0, as, rfl, rfl, nd, hH, hr⟩, fin⟩ := S.stepX (olAt_eq he)
        refine ⟨a0 :: as, nd, ol_mut hH hr, fun H1 l => ?_⟩
        have rd := ol_frz hH hr l
        have S' := fin H1 (.im (.list (lls dss))) (l.kp (ol_mut hH hr)) l.live (fun b u hb q => by rw [l.1 b hb]; exact q) ⟨[], ⟨rd, rfl⟩, fun b hb => by cases hb⟩ (fun z => by cases z)
        refine h2 O H0 H1 σ _ τ ts d _ S' hd fun v H2 sm r => ⟨sm, fun H3 g1 g2 => k v H3 (fun b u q => ?_) (atomic_rp hat r)⟩
        by_cases hb : b ∈ a0 :: as
        · obtain ⟨o, u', q1, q2⟩ := l.2 b hb
          rw [q] at q1; cases q1
          exact g2 b hb o u (sm b _ q2)
        · rw [g1 b hb]
          exact sm b u (by rw [l.1 b hb]; exact q)
      · cases h
    · cases h
  · cases h
/-- a quiet expression as data -/
def eQ (f : QF) : EF := fun env => match f env with
  | some d => some (d, env)
  | none => none
theorem ei_q {f : QF} (h : EQ X e f) : EI X e (eQ f) := by
  obtain ⟨t, h1, h2⟩ := h
  refine ⟨_, h1, fun O H0 H σ env τ ts d env' Q S h k => ?_⟩
  unfold eQ at h
  split at h
  · rename_i d' hd
    cases h
    exact h2 O H0 H σ env τ ts d _ S hd fun v H' sm r => k v H' ((S.same sm).push r)
  · cases h
theorem eq_op {r : R2} {op : Operator} {g : Dt → Dt → Option Dt} {fa fb : QF} (ho : OpR X (binaryOp op) r) (hr : OpD X.kx r g) (ha : EQ X a fa) (hb : EQ X b fb) : EQ X (.BinOp a op b pos) (qOp g fa fb) := by
  obtain ⟨ta, h1, h2⟩ := ha
  obtain ⟨tb, h3, h4⟩ := hb
  exact ⟨_, pe_op ho h1 h3, runs_qop hr h2 h4⟩
def qCall (g : List Dt → Option Dt) (fs : List QF) : QF := fun env => match qAll fs env with
  | some ds => g ds
  | none => none
theorem eq_call {k : Nat} {x : Str} {ps : List Str} {g : List Dt → Option Dt} {fs : List QF} {p : Pos} (G : Good X.prog X.w X.K X.mg X.base k x ps (SpP X.kx g)) (hr : Room k X.A) (hg : Gl X x) (ha : EQs X (e :: es) fs)
    (hd : (x == ("__debug__" : Str)) = false := by decide) (hs : starEach (e :: es) X.env = (false, eval e X.env) :: starEach es X.env := by rfl) (hst : ((backTo pos (starEach es X.env)).any (·.1)) = false := by rfl) : EQ X (.Call (.Name x p) (e :: es) [] pos) (qCall g fs) := by
  obtain ⟨fa, fd, F, B, M, kp⟩ := G.ex
  obtain ⟨_, h1, h2⟩ := ha
  refine ⟨_, pe_call F hr hg M kp B .nil pass0 h1 hd hs hst, fun O H0 H σ env τ ts d Q S h k => ?_⟩
  unfold qCall at h
  split at h
  · rename_i ds hds
    refine h2 O H0 H σ env τ ts ds _ S hds fun vs H1 e1 r => ⟨ds, d, ?_, h, fun v H' e rv => k v H' (fun b u q => e b u (e1 b u q)) rv⟩
    rw [List.append_nil]; exact r
  · cases h
theorem eq_B {x : Str} {id : String} {r : List V → Hp → VK → Prop} {g : List Dt → Option Dt} {fs : List QF} {p : Pos} (hc : CallR X (.builtin id) r) (hr : CallD X.kx r g) (hm : X.mg x = none) (hg : Gl X x) (hv : bootBuiltins x = some (.builtin id)) (ha : EQs X (e :: es) fs)
    (hn : x ≠ "__name__" := by decide) (hd : (x == ("__debug__" : Str)) = false := by decide) (hs : starEach (e :: es) X.env = (false, eval e X.env) :: starEach es X.env := by rfl) (hst : ((backTo pos (starEach es X.env)).any (·.1)) = false := by rfl) :
    EQ X (.Call (.Name x p) (e :: es) [] pos) (qCall g fs) := by
  obtain ⟨_, h1, h2⟩ := ha
  refine ⟨_, pe_callB hc hg hm hv h1 hn hd hs hst, fun O H0 H σ env τ ts d Q S h k => ?_⟩
  unfold qCall at h
  split at h
  · rename_i ds hds
    exact h2 O H0 H σ env τ ts ds _ S hds fun vs H1 e1 r1 => hr H1 vs ds d Q r1 h fun v H' e rv => k v H' (fun b u q => e b u (e1 b u q)) rv
  · cases h
theorem eq_sub {fa fb : QF} (ha : EQ X a fa) (hb : EQ X b fb) : EQ X (.BinOp a .Sub b pos) (qOp dSub fa fb) :=
  eq_op op_sub (OpD.imp (od_I0 (g := fun i j => .int (i - j)) fun _ _ _ => rfl) fun a b d h => by unfold dSub at h; exact h) ha hb
theorem cd_sum {K : Kx} : CallD K (fun xs H Q => rSum K.fr xs H Q ∨ rSumT K xs H Q) dSum := by
  intro H xs ds d Q r hg k
  unfold dSum at hg
  split at hg
  · split at hg
    · rename_i ns hn
      cases hg
      obtain ⟨v, rfl, p, ys, rfl, f, r⟩ := r.one_inv
      obtain ⟨rfl, _⟩ := intsOf_rp hn r
      exact .inl ⟨p, ns, rfl, f.sq, k _ H (Same.refl H) rfl⟩
    · cases hg
  · split at hg
    · rename_i ns hn
      cases hg
      obtain ⟨v, rfl, p, ys, rfl, f, r⟩ := r.one_inv
      obtain ⟨rfl, _⟩ := intsOf_rp hn r
      exact .inr ⟨p, ns, rfl, f, k _ H (Same.refl H) rfl⟩
    · cases hg
  · cases hg
theorem eq_sum {f : QF} {p : Pos} (hc : X.calm = true) (hm : X.mg "sum" = none) (hg : Gl X "sum") (ha : EQs X [a] [f])
    (hs : starEach [a] X.env = (false, eval a X.env) :: starEach [] X.env := by rfl) (hst : ((backTo pos (starEach [] X.env)).any (·.1)) = false := by rfl) : EQ X (.Call (.Name "sum" p) [a] [] pos) (qCall dSum [f]) :=
  eq_B (CallR.or (cr_sum hc) (cr_sumT hc)) cd_sum hm hg (by decide +kernel) ha (by decide) (by decide) hs hst
end
section
variable {X : Cx} {e a b c : Expr} {es rest : List Expr} {pos : Pos}
/-- xs[k].append(x) -/
def sAppL (i : Nat) (fk fx : QF) : SF := fun env => match olAt env i with
  | some (io, dss) => match fk env with
    | some (.int j) => match fx env with
      | some x => match ixN dss.length j with
        | some m => match dss[m]? with
          | some ds => if ds.length < 10000000 then some (.nx (env.set i (some (.ol io (dss.set m (ds ++ [x])))))) else none
          | none => none
        | none => none
      | none => none
    | _ => none
  | none => none
theorem sx_appL {i : Nat} {x : Str} {fk fx : QF} {p apos cpos spos gpos : Pos} (hk : EQ X a fk) (hns : PlainIx a) (h : EQ X e fx) (hN : X.N[i]? = some x := by rfl) (hv : Vis X.env.scope x := by first | exact Or.inl rfl | exact Or.inr (Or.inl rfl) | exact Or.inr (Or.inr rfl)) (hd : (x == ("__debug__" : Str)) = false := by decide) (hcd : (x == ("__classdict__" : Str)) = false := by decide)
    (h1 : attributeBase (.Subscript (.Name x p) a gpos) ("append" : Str) X.env (eval (.Subscript (.Name x p) a gpos) X.env) = eval (.Subscript (.Name x p) a gpos) X.env := by rfl)
    (h2 : (((((backTo cpos (starEach [e] X.env)).all fun x => !x.fst) && (backToKw cpos (keywordEach [] X.env)).all fun x => x.fst.isSome) && decide (([e].length + ([] : List Keyword).length + if ([] : List Keyword).isEmpty = true then 0 else 1) < 30)) = true) := by rfl)
    (h3 : (apos.endLine == cpos.line) = true := by rfl) (h4 : starEach [e] X.env = (false, eval e X.env) :: starEach [] X.env := by rfl) (h5 : ((backTo cpos (starEach [] X.env)).any fun x => x.fst) = false := by rfl)
    (h6 : swapsWith (.Call (.Attribute (.Subscript (.Name x p) a gpos) ("append" : Str) apos) [e] [] cpos) none spos.line X.env = pure false := by rfl) :
    SX X (.Expr (.Call (.Attribute (.Subscript (.Name x p) a gpos) ("append" : Str) apos) [e] [] cpos) spos) (sAppL i fk fx) := by
  obtain ⟨tk, k1, k2⟩ := hk
  obtain ⟨t, g1, g2⟩ := h
  refine ⟨_, ps_expr (pe_bm PySem.F.plainAttrs_list PySem.F.slot_list_append PySem.F.type_list_append mt_append (pe_ix ix_seq (pe_var hN hv hd hcd) k1 hns) (pa_cons g1 pa_nil h4) h1 h2 h3 h4 h5) h6, fun O H0 H σ env τ ts out D S h k => ?_⟩
  unfold sAppL at h
  split at h
  · rename_i io dss ho
    split at h
    · rename_i j hj
      split at h
      · rename_i xd hx
        split at h
        · rename_i m hm
          split at h
          · rename_i ds hds
            split at h
            · rename_i hlen
              cases h
              obtain ⟨v, fp, hw, ⟨a0, as, rfl, rfl, nd, hH, hr⟩, fin⟩ := S.stepX (olAt_eq ho)
              refine ⟨_, hw, k2 O H0 H σ env τ ts _ _ S hj fun yv H1 e1 ry => ?_⟩
              have nd' := (List.nodup_cons.mp nd).2
              have hr1 := hr.kp (.of_same e1) fun b _ u q => e1 b u q
              obtain ⟨a1, ys, q1, q2, q3, _⟩ := hr1.at nd' hds
              have hat : atI (as.map V.ref) j = some (.ref a1) := by
                unfold atI
                rw [List.length_map, hr.length, hm]
                simp [q1]
              refine .inl ⟨a0, as.map V.ref, j, .ref a1, rfl, ry, .inl (.inl (e1 _ _ hH)), hat, .inl ⟨rfl, ys, .inl (.inl q2)⟩, g2 O H0 H1 σ env τ ts xd _ (S.same e1) hx fun xv H2 e2 rx => ?_⟩
              have q2' := e2 _ _ q2
              refine ⟨a1, ys, xv, rfl, rfl, q2', Nat.lt_of_lt_of_le (by rw [q3.length]; exact hlen) (by decide), k σ _ ?_⟩
              have e12 : Same H H2 := fun b u q => e2 b u (e1 b u q)
              have hr2 := hr.kp (.of_same e12) fun b _ u q => e12 b u q
              obtain ⟨a1', ys', p1, p2, p3, p4⟩ := hr2.at nd' hds
              rw [q1] at p1; cases p1
              rw [q2'] at p2; cases p2
              have ma : a1 ∈ as := List.mem_of_getElem? q1
              have ne0 : a0 ≠ a1 := fun z => by subst z; exact (List.nodup_cons.mp nd).1 ma
              have kp2 : Kp H2 (upd H2 a1 (.lst (ys ++ [xv]))) := .lst q2'
              refine fin _ _ ((Kp.of_same e12).trans kp2) (fun b hb => live_upd (same_live e12 b hb)) (fun b u hb q => ?_) ⟨a0 :: as, ⟨a0, as, rfl, rfl, nd, ?_, p4 _ _ _ kp2 (fun b hb ne u q => by rw [upd_ne ne]; exact q) upd_same ((p3.append (.one rx)).kp kp2)⟩, fun b hb => .inl hb⟩ id
              · rw [upd_ne (fun z => hb (by subst z; exact List.mem_cons_of_mem _ ma))]
                exact e12 b u q
              · rw [upd_ne ne0]
                exact e12 _ _ hH
            · cases h
          · cases h
        · cases h
      · cases h
    · cases h
  · cases h
end
theorem SlOk.mut {K : Kx} {H : Hp} {v : V} {s : Sl} {fp : List Addr} (h : SlOk K H v s fp) : ∀ b ∈ fp, ∃ u, H b = some u ∧ Mut (some u) := by
  cases s with
  | im d => obtain ⟨_, rfl⟩ := h; exact fun b hb => by cases hb
  | ow _ ds =>
    obtain ⟨a, xs, e, rfl, h1, h2⟩ := h
    intro b hb
    cases List.mem_singleton.mp hb
    exact ⟨_, h1, trivial⟩
  | od _ kvs =>
    obtain ⟨a, xs, e, rfl, h1, h2⟩ := h
    intro b hb
    cases List.mem_singleton.mp hb
    exact ⟨_, h1, trivial⟩
  | ol _ dss =>
    obtain ⟨a, as, e, rfl, nd, h1, h2⟩ := h
    exact ol_mut h1 h2
  | og _ kvs =>
    obtain ⟨a, es, as, e, rfl, nd, h1, h2⟩ := h
    intro b hb
    rcases List.mem_cons.mp hb with rfl | hb
    · exact ⟨_, h1, trivial⟩
    · obtain ⟨ys, e⟩ := h2.there b hb
      exact ⟨_, e, trivial⟩
  | fd o es kvs => obtain ⟨_, _, _, _, rfl⟩ := h; exact fun b hb => by cases hb
  | ob _ nm fs =>
    obtain ⟨a, C, dx, vs, as, e, rfl, nd, hc, h1, h2⟩ := h
    intro b hb
    rcases List.mem_cons.mp hb with rfl | hb
    · exact ⟨_, h1, trivial⟩
    · obtain ⟨u, e, hu⟩ := h2.there b hb
      rcases hu with ⟨ys, rfl⟩ | ⟨es, rfl⟩
      · exact ⟨_, e, trivial⟩
      · exact ⟨_, e, trivial⟩
  | on _ d =>
    obtain ⟨a, xs, e, rfl, h1, h2⟩ := h
    intro b hb
    cases List.mem_singleton.mp hb
    exact ⟨_, h1, trivial⟩
theorem SlOk.root {K : Kx} {H : Hp} {a : Addr} {s : Sl} {fp : List Addr} (io : s.io = true) (h : SlOk K H (.ref a) s fp) : a ∈ fp := by
  cases s with
  | im d => cases io
  | ow _ ds =>
    obtain ⟨a', xs, e, rfl, h1, h2⟩ := h
    cases e; exact List.mem_cons_self
  | od _ kvs =>
    obtain ⟨a', xs, e, rfl, h1, h2⟩ := h
    cases e; exact List.mem_cons_self
  | ol _ dss =>
    obtain ⟨a', as, e, rfl, nd, h1, h2⟩ := h
    cases e; exact List.mem_cons_self
  | og _ kvs =>
    obtain ⟨a', es, as, e, rfl, nd, h1, h2⟩ := h
    cases e; exact List.mem_cons_self
  | fd o es kvs => cases io
  | ob _ nm fs =>
    obtain ⟨a', C, dx, vs, as, e, rfl, nd, hc, h1, h2⟩ := h
    cases e; exact List.mem_cons_self
  | on _ d =>
    obtain ⟨a', xs, e, rfl, h1, h2⟩ := h
    cases e; exact List.mem_cons_self
theorem refs_inj : ∀ {as bs : List Addr}, as.map V.ref = bs.map V.ref → as = bs
  | [], [], _ => rfl
  | [], _ :: _, h => by cases h
  | _ :: _, [], h => by cases h
  | a :: as, b :: bs, h => by
    simp only [List.map_cons, List.cons.injEq] at h
    have h1 : a = b := by have := h.1; cases this; rfl
    rw [h1, refs_inj h.2]
/-- a row of the rows in place i is lent to place j -/
theorem Sto.lend {K : Kx} {O : Ow} {H0 H : Hp} {W : L2.St} {E : Nv} (S : Sto K O H0 H W E) {i j k : Nat} {a b : Addr} {as : List Addr} {io : Bool} {dss : List (List Dt)} {ds : List Dt} (hij : i ≠ j) (hi : E[i]? = some (some (.ol io dss))) (hw : W[i]? = some (some (.ref a))) (hj : E[j]? = some none)
    (ha : H a = some (.lst (as.map V.ref))) (hk : as[k]? = some b) (hd : dss[k]? = some ds) :
    ∃ O1 : Ow, Sto K O1 H H (W.set j (some (.ref b))) ((E.set i none).set j (some (.ow false ds))) ∧
      ∀ (H' : Hp) (W' : L2.St) (E' : Nv) (ds' : List Dt), Sto K O1 H H' W' E' → W'[i]? = some (some (.ref a)) → W'[j]? = some (some (.ref b)) → E'[j]? = some (some (.ow false ds')) →
        (∀ l s, l ≠ j → E'[l]? = some (some s) → s.io = true → ∀ c, W'[l]? = some (some (.ref c)) → O.top c) → Sto K O H0 H' W' ((E'.set j none).set i (some (.ol io (dss.set k ds')))) ∧ H' a = some (.lst (as.map V.ref)) := by
  obtain ⟨F, f⟩ := S.fps
  obtain ⟨v', h1, h2⟩ := f.ok i _ hi
  rw [hw] at h1; cases h1
  have fi := h2
  obtain ⟨a', as', e, hF, nd, hA, hr⟩ := h2
  cases e
  rw [ha] at hA
  have eas : as = as' := refs_inj (by injection hA with hA; injection hA)
  subst eas
  have nd' : a ∉ as ∧ as.Nodup := by rw [hF] at nd; exact List.nodup_cons.mp nd
  obtain ⟨b', ys, q1, q2, q3, q4⟩ := hr.at nd'.2 hd
  rw [hk] at q1; cases q1
  have mb : b ∈ as := List.mem_of_getElem? hk
  have mbF : b ∈ F i := by rw [hF]; exact List.mem_cons_of_mem _ mb
  have maF : a ∈ F i := by rw [hF]; exact List.mem_cons_self
  have jl : j < E.length := (List.getElem?_eq_some_iff.mp hj).1
  have il : i < E.length := (List.getElem?_eq_some_iff.mp hi).1
  let O1 : Ow := ⟨fun c => c = b ∨ ∃ l s, l ≠ i ∧ l ≠ j ∧ E[l]? = some (some s) ∧ c ∈ F l, fun c => c = b ∨ ∃ l s, l ≠ i ∧ l ≠ j ∧ E[l]? = some (some s) ∧ c ∈ F l⟩
  have g : ∀ {l : Nat} {r : Sl}, ((E.set i none).set j (some (.ow false ds)))[l]? = some (some r) → (l = j ∧ r = .ow false ds) ∨ (l ≠ i ∧ l ≠ j ∧ E[l]? = some (some r)) := fun {l r} h => by
    rcases get_set h with ⟨hk, h⟩ | ⟨rfl, hi, e⟩
    · rcases get_set h with ⟨hk2, h⟩ | ⟨_, _, e⟩
      · exact .inr ⟨hk2, hk, h⟩
      · cases e
    · cases e
      exact .inl ⟨rfl, rfl⟩
  have wn : ∀ l, l ≠ j → (W.set j (some (V.ref b)))[l]? = W[l]? := fun l hl => List.getElem?_set_ne (Ne.symm hl)
  have O1i : ∀ c, O1 c → c ∈ F i → c = b := fun c hc hm => by
    rcases hc with rfl | ⟨l, s, n1, n2, e1, e2⟩
    · rfl
    · exact absurd hm (f.apart l i s _ n1 e1 hi c e2)
  have O1m : ∀ c, O1 c → ∃ u, H c = some u ∧ Mut (some u) := fun c hc => by
    rcases hc with rfl | ⟨l, s, n1, n2, e1, e2⟩
    · exact ⟨_, q2, trivial⟩
    · obtain ⟨x, _, h3⟩ := f.ok l s e1
      exact h3.mut c e2
  have O1o : ∀ c, O1 c → O c ∨ H0 c = none := fun c hc => by
    rcases hc with rfl | ⟨l, s, n1, n2, e1, e2⟩
    · exact f.mine i _ hi _ mbF
    · exact f.mine l s e1 c e2
  have free : ∀ c, H c = none → O c ∨ H0 c = none := fun c q => by
    by_cases ho : O c
    · exact .inl ho
    · cases q0 : H0 c with
      | none => exact .inr rfl
      | some u => have := S.frame c u q0 ho; rw [q] at this; cases this
  refine ⟨O1, ⟨by simp [S.len], ⟨fun l => if l = j then [b] else F l, fun l r h => ?_, fun l r h => ?_, fun l m r q ne h1 h2 => ?_⟩, fun l r c h o q => ?_, fun c u h1 h2 => h1, fun c hc => ?_⟩, fun H' W' E' ds' S' hwi hwj hej hio => ?_⟩
  · rcases g h with ⟨rfl, rfl⟩ | ⟨hl, hl2, h⟩
    · rw [if_pos rfl]
      exact ⟨.ref b, by rw [List.getElem?_set_self (by rw [S.len]; exact jl)], b, ys, rfl, rfl, q2, q3⟩
    · rw [if_neg hl2, wn l hl2]; exact f.ok l r h
  · rcases g h with ⟨rfl, rfl⟩ | ⟨hl, hl2, h⟩
    · rw [if_pos rfl]
      intro c hc
      cases List.mem_singleton.mp hc
      exact .inl (.inl rfl)
    · rw [if_neg hl2]
      exact fun c hc => .inl (.inr ⟨l, r, hl, hl2, h, hc⟩)
  · rcases g h1 with ⟨rfl, rfl⟩ | ⟨hl, hl2, h1'⟩
    · rcases g h2 with ⟨rfl, rfl⟩ | ⟨hm, hm2, h2'⟩
      · exact absurd rfl ne
      · rw [if_pos rfl, if_neg hm2]
        intro c hc hc'
        cases List.mem_singleton.mp hc
        exact f.apart m i q _ hm h2' hi b hc' mbF
    · rcases g h2 with ⟨rfl, rfl⟩ | ⟨hm, hm2, h2'⟩
      · rw [if_pos rfl, if_neg hl2]
        intro c hc hc'
        cases List.mem_singleton.mp hc'
        exact f.apart l i r _ hl h1' hi b hc mbF
      · rw [if_neg hl2, if_neg hm2]; exact f.apart l m r q ne h1' h2'
  · rcases g h with ⟨rfl, rfl⟩ | ⟨hl, hl2, h⟩
    · cases o
    · rw [wn l hl2] at q
      obtain ⟨x, e1, e2⟩ := f.ok l r h
      rw [q] at e1; cases e1
      exact .inr ⟨l, r, hl, hl2, h, e2.root o⟩
  · obtain ⟨u, q, _⟩ := O1m c hc
    rw [q]; exact fun z => nomatch z
  · have keep : ∀ c u, H c = some u → ¬ O1 c → H' c = some u := S'.frame
    have naO : ¬ O1 a := fun z => by have := O1i a z maF; subst this; exact nd'.1 mb
    have kp : Kp H H' := by
      refine ⟨fun c xs q => keep c _ q fun z => ?_, fun c o u q => keep c _ q fun z => ?_⟩
      · obtain ⟨u, q', m⟩ := O1m c z
        rw [q] at q'; cases q'; exact m
      · obtain ⟨u, q', m⟩ := O1m c z
        rw [q] at q'; cases q'; exact m
    have ha' := keep a _ ha naO
    obtain ⟨F', f'⟩ := S'.fps
    obtain ⟨v2, e1, e2⟩ := f'.ok j _ hej
    rw [hwj] at e1; cases e1
    obtain ⟨b2, ys2, e3, hF2, e5, e6⟩ := e2
    cases e3
    have hrow : Rows K H' (dss.set k ds') as := q4 H' ds' ys2 kp (fun c hc ne u q => keep c u q fun z => ne (O1i c z (by rw [hF]; exact List.mem_cons_of_mem _ hc))) e5 e6
    have g' : ∀ {l : Nat} {r : Sl}, ((E'.set j none).set i (some (.ol io (dss.set k ds'))))[l]? = some (some r) → (l = i ∧ r = .ol io (dss.set k ds')) ∨ (l ≠ i ∧ l ≠ j ∧ E'[l]? = some (some r)) := fun {l r} h => by
      rcases get_set h with ⟨hk, h⟩ | ⟨rfl, hi, e⟩
      · rcases get_set h with ⟨hk2, h⟩ | ⟨_, _, e⟩
        · exact .inr ⟨hk, hk2, h⟩
        · cases e
      · cases e
        exact .inl ⟨rfl, rfl⟩
    have ap : ∀ l r, l ≠ j → E'[l]? = some (some r) → ∀ c ∈ F' l, c ∉ F i := fun l r hl h c hc hm => by
      rcases f'.mine l r h c hc with z | z
      · have := O1i c z hm
        subst this
        exact f'.apart l j r _ hl h hej c hc (by rw [hF2]; exact List.mem_cons_self)
      · exact fi.there c hm z
    refine ⟨⟨by have := S'.len; simpa using this, ⟨fun l => if l = i then F i else F' l, fun l r h => ?_, fun l r h => ?_, fun l m r q ne h1 h2 => ?_⟩, fun l r c h o q => ?_, fun c u h1 h2 => ?_, fun c hc => ?_⟩, ha'⟩
    · rcases g' h with ⟨rfl, rfl⟩ | ⟨hl, hl2, h⟩
      · rw [if_pos rfl]
        exact ⟨_, hwi, a, as, rfl, hF, by rw [hF] at nd ⊢; exact nd, ha', hrow⟩
      · rw [if_neg hl]; exact f'.ok l r h
    · rcases g' h with ⟨rfl, rfl⟩ | ⟨hl, hl2, h⟩
      · rw [if_pos rfl]; exact f.mine l _ hi
      · rw [if_neg hl]
        intro c hc
        rcases f'.mine l r h c hc with z | z
        · exact O1o c z
        · exact free c z
    · rcases g' h1 with ⟨rfl, rfl⟩ | ⟨hl, hl2, h1'⟩
      · rcases g' h2 with ⟨rfl, rfl⟩ | ⟨hm, hm2, h2'⟩
        · exact absurd rfl ne
        · rw [if_pos rfl, if_neg hm]
          exact fun c hc hc' => ap m q hm2 h2' c hc' hc
      · rcases g' h2 with ⟨rfl, rfl⟩ | ⟨hm, hm2, h2'⟩
        · rw [if_pos rfl, if_neg hl]
          exact ap l r hl2 h1'
        · rw [if_neg hl, if_neg hm]; exact f'.apart l m r q ne h1' h2'
    · rcases g' h with ⟨rfl, rfl⟩ | ⟨hl, hl2, h⟩
      · rw [hwi] at q; cases q
        exact S.root _ _ _ hi o hw
      · exact hio l r hl2 h o c q
    · refine keep c u (S.frame c u h1 h2) fun z => ?_
      rcases O1o c z with z | z
      · exact h2 z
      · rw [z] at h1; cases h1
    · by_cases z : O1 c
      · exact S'.live c z
      · have := S.live c hc
        cases q : H c with
        | none => exact absurd q this
        | some u => rw [keep c u q z]; exact fun z => nomatch z

/-! ### statements that keep the names -/
def RunsK (K : Kx) (t : TS) (g : SF) : Prop := ∀ (O : Ow) (H0 H : Hp) (σ : L2.St) (env : Nv) (τ : L2.St) (ts : Nv) (e : Nv) (D : Ends), Sg K O H0 H σ env τ ts → g env = some (.nx e) → (∀ H', Sg K O H0 H' σ e τ ts → D.nx σ H') → t D σ H
def SXk (X : Cx) (st : Stmt) (g : SF) : Prop := ∃ t, PS X st t ∧ RunsK X.kx t g
def SXsk (X : Cx) (sts : List Stmt) (g : SF) : Prop := ∃ t, PSs X sts t ∧ RunsK X.kx t g
section
variable {X : Cx} {st : Stmt} {rest : List Stmt} {e a b c tg : Expr} {es : List Expr} {pos : Pos}
theorem sxsk_nil : SXsk X [] sSkip := ⟨_, pss_nil, fun O H0 H σ env τ ts e D S h k => by cases h; exact k H S⟩
theorem sxsk_one {f : SF} (h : SXk X st f) : SXsk X [st] f := let ⟨_, h1, h2⟩ := h; ⟨_, pss_one h1, h2⟩
theorem sxk_if {t : TF} {f g : SF} {x y : List Stmt} (hc : ET X c t) (h : SXsk X x f) (h' : SXsk X y g) : SXk X (.If c x y pos) (sIf t f g) := by
  obtain ⟨_, h1, h2⟩ := hc
  obtain ⟨_, h3, h4⟩ := h
  obtain ⟨_, h5, h6⟩ := h'
  refine ⟨_, ps_if h1 h3 h5, fun O H0 H σ env τ ts out D S h k => ?_⟩
  unfold sIf at h
  split at h
  · rename_i e1 he
    refine h2 O H0 H σ env τ ts _ e1 _ S he fun H1 S1 => ?_
    rw [if_pos rfl]; exact h4 O H0 H1 σ e1 τ ts out D S1 h k
  · rename_i e1 he
    refine h2 O H0 H σ env τ ts _ e1 _ S he fun H1 S1 => ?_
    rw [if_neg (by decide)]; exact h6 O H0 H1 σ e1 τ ts out D S1 h k
  · cases h
theorem sxk_augI {g : Int → Int → Int} {op : Operator} {i : Nat} {x : Str} {fi fv : EF} {p tpos : Pos} {v : Expr} (ho : PIp X op (ipI g)) (hN : X.N[i]? = some x) (hv : Vis X.env.scope x) (h : EI X e fi) (h' : EI X v fv) (hd : (x == ("__debug__" : Str)) = false := by decide) (hcd : (x == ("__classdict__" : Str)) = false := by decide)
    (ha : ∀ ov iv new, augStore e ov iv new = (do holding [new, ov, iv] (setItem ov iv new); release [new, ov, iv] []; pure .next) := by intros; rfl) : SXk X (.AugAssign (.Subscript (.Name x p) e tpos) op v pos) (sAugI g i fi fv) := by
  obtain ⟨t, g1, g2⟩ := h
  obtain ⟨u, g3, g4⟩ := h'
  refine ⟨_, ps_augS (pe_var hN hv hd hcd) g1 get_list g3 ho set_list ha, fun O H0 H σ env τ ts out D S h k => ?_⟩
  unfold sAugI at h
  split at h
  · rename_i p0 ho0
    split at h
    · rename_i j e1 he1
      split at h
      · rename_i io1 ds1 ho1
        split at h
        · rename_i x1 hx1
          split at h
          · rename_i y1 e2 he2
            split at h
            · rename_i io ds ho2
              split at h
              · rename_i m hm
                cases h
                obtain ⟨a0, xs0, hw, hH0, _⟩ := S.own (io := p0.1) (ds := p0.2) ho0
                refine ⟨.ref a0, hw, g2 O H0 H σ env τ ts _ _ _ S he1 fun vi H1 S1 => ?_⟩
                obtain ⟨a, xs, hw1, hH1, hr1⟩ := S1.own ho1
                rw [hw] at hw1; cases hw1
                have rvi := S1.rp
                obtain ⟨u1, q1, q2⟩ := hr1.atI hx1
                refine ⟨a0, xs, j, u1, rfl, rvi, .inl (.inl hH1), q1, g4 O H0 H1 σ e1 _ _ _ _ _ S1 he2 fun vy H2 S2 => ?_⟩
                obtain ⟨a', xs2, hw2, hH2, hr2⟩ := S2.own ho2
                rw [hw] at hw2; cases hw2
                refine ⟨x1, y1, q2, S2.rp, a0, xs2, j, m, rfl, rvi, hH2, by rw [hr2.length]; exact hm, k _ ?_⟩
                exact S2.pop.pop.write (owAt_eq ho2) hw (hr2.set m rfl)
              · cases h
            · cases h
          · cases h
        · cases h
      · cases h
    · cases h
  · cases h

/-! ### for x in rows -/
def offAt (env : Nv) (i : Nat) : Bool := match env[i]? with
  | some none => true
  | _ => false
theorem offAt_eq {env : Nv} {i : Nat} (h : offAt env i = true) : env[i]? = some none := by
  unfold offAt at h
  split at h
  · assumption
  · cases h
def noIo : Option Sl → Bool
  | some s => !s.io
  | none => true
def forL (i j : Nat) (b : SF) : List (List Dt) → Nv → Option (List (List Dt) × Nv)
  | [], e => some ([], e)
  | ds :: r, e => match b (e.set j (some (.ow false ds))) with
    | some (.nx e1) => match owAt e1 j with
      | some (false, ds') => if (offAt e1 i && e1.all noIo) = true then (match forL i j b r (e1.set j none) with
        | some (rs, e2) => some (ds' :: rs, e2)
        | none => none) else none
      | _ => none
    | _ => none
def sForL (i j : Nat) (b : SF) : SF := fun env => match olAt env i with
  | some (io, dss) => if j < env.length then (match forL i j b dss ((env.set i none).set j none) with
    | some (dss', e) => some (.nx (e.set i (some (.ol io dss'))))
    | none => none) else none
  | none => none
theorem sx_forL {i j : Nat} {x y : Str} {f : SF} {p py : Pos} {body : List Stmt} (hij : i ≠ j) (hp : PassesOwn (model X.prog X.w) X.A X.env X.xe) (hc : X.calm = true) (hNd : X.N.Nodup) (hj : X.N[j]? = some y) (hy : Loc X.env.scope y) (hb : SXsk X body f)
    (hN : X.N[i]? = some x := by rfl) (hv : Vis X.env.scope x := by first | exact Or.inl rfl | exact Or.inr (Or.inl rfl) | exact Or.inr (Or.inr rfl)) (hd : (x == ("__debug__" : Str)) = false := by decide) (hcd : (x == ("__classdict__" : Str)) = false := by decide)
    (hf : X.fn y = true ∨ X.env.scope.names.lookup y = some .local := by first | exact .inl rfl | exact .inr rfl | assumption) (hs : ∀ z, foldedSetIterable (.Name x p) X.env z = pure z := by intro _; rfl) : SX X (.For (.Name y py) (.Name x p) body [] pos) (sForL i j f) := by
  obtain ⟨tb, h3, h4⟩ := hb
  refine ⟨_, ps_for hp hc (pi_list (pe_var hN hv hd hcd)) (pg_name hNd hj hy hf) h3 hs, fun O H0 H σ env τ ts out D S h k => ?_⟩
  unfold sForL at h
  split at h
  · rename_i io dss he
    split at h
    rotate_left
    · cases h
    rename_i jl
    split at h
    · rename_i dss' ef hfl
      cases h
      have he := olAt_eq he
      obtain ⟨v, hw, fp, a, as, rfl, _, nd, hH, hr⟩ := S.slot he
      have il : i < env.length := (List.getElem?_eq_some_iff.mp he).1
      refine ⟨_, hw, a, rfl, ⟨as.map V.ref, .inl (.inl hH)⟩, ?_⟩
      have hlen := hr.length
      have S0 : Sg X.kx O H0 H σ (((env.set i none).set j none).set i (some (.ol io dss))) τ ts := by
        have := S.wipe1 j (σ[j]?.getD none)
        have e0 : ((env.set i none).set j none).set i (some (.ol io dss)) = env.set j none := by
          apply List.ext_getElem?
          intro l
          by_cases hl : l = i
          · subst hl
            rw [List.getElem?_set_self (by simpa using il), List.getElem?_set_ne (Ne.symm hij), he]
          · rw [List.getElem?_set_ne (Ne.symm hl)]
            by_cases hl2 : l = j
            · subst hl2
              rw [List.getElem?_set_self (by simpa using jl), List.getElem?_set_self jl]
            · rw [List.getElem?_set_ne (Ne.symm hl2), List.getElem?_set_ne (Ne.symm hl), List.getElem?_set_ne (Ne.symm hl2)]
        rw [e0]
        have e1 : σ.set j (σ[j]?.getD none) = σ := by
          apply List.ext_getElem?
          intro l
          by_cases hl : l = j
          · subst hl
            have : l < σ.length := by rw [S.le]; exact jl
            rw [List.getElem?_set_self this, List.getElem?_eq_getElem this]; rfl
          · rw [List.getElem?_set_ne (Ne.symm hl)]
        rw [e1] at this
        exact this
      refine for_it walk_list (fun n σ H => ∃ dn rs e, dn.length = n ∧ σ[i]? = some (some (.ref a)) ∧ H a = some (.lst (as.map V.ref)) ∧ offAt e i = true ∧ offAt e j = true ∧ Sg X.kx O H0 H σ (e.set i (some (.ol io (dn ++ rs)))) τ ts ∧ rs.length + n = as.length ∧
          ∃ rs', forL i j f rs e = some (rs', ef) ∧ dn ++ rs' = dss') ⟨[], dss, _, rfl, hw, hH, ?_, ?_, S0, by simpa using hlen.symm, dss', hfl, rfl⟩ (fun n σ H _ ⟨dn, rs, e, _, _, q, _⟩ => .inl (.inl q)) (fun n x σ H H' hn ⟨dn, rs, e, hdn, hwi, hHa, hoi, hoj, S1, hl2, rs', hf1, hf2⟩ y => ?_) (fun σ H ⟨dn, rs, e, hdn, hwi, hHa, hoi, hoj, S1, hl2, rs', hf1, hf2⟩ => ?_)
      · unfold offAt
        rw [List.getElem?_set_ne (Ne.symm hij), List.getElem?_set_self il]
      · unfold offAt
        rw [List.getElem?_set_self (by simpa using jl)]
      · obtain ⟨rfl, hx⟩ := y
        simp only [List.length_map] at hn
        cases rs with
        | nil => simp at hl2; omega
        | cons ds r =>
          rw [List.getElem?_map] at hx
          cases hb : as[n]? with
          | none => rw [hb] at hx; cases hx
          | some b =>
            rw [hb] at hx
            cases hx
            show (_ : Prop)
            have eil : i < e.length := (List.getElem?_eq_some_iff.mp (offAt_eq hoi)).1
            have ejl : j < e.length := (List.getElem?_eq_some_iff.mp (offAt_eq hoj)).1
            have le1 := S1.le
            rw [List.length_set] at le1
            have g1 : ((e.set i (some (.ol io (dn ++ ds :: r)))) ++ ts)[i]? = some (some (.ol io (dn ++ ds :: r))) := get_left (List.getElem?_set_self eil)
            have g2 : ((e.set i (some (.ol io (dn ++ ds :: r)))) ++ ts)[j]? = some none := get_left (by rw [List.getElem?_set_ne hij]; exact offAt_eq hoj)
            obtain ⟨O1, Sa, close⟩ := S1.st.lend hij g1 (get_left hwi) g2 hHa hb (show (dn ++ ds :: r)[n]? = some ds by rw [List.getElem?_append_right (by omega), hdn, Nat.sub_self]; rfl)
            unfold forL at hf1
            split at hf1
            · rename_i e1 he1
              split at hf1
              · rename_i ds' ho1
                split at hf1
                · rename_i hchk
                  rw [Bool.and_eq_true] at hchk
                  split at hf1
                  · rename_i rs2 e2 hf3
                    cases hf1
                    have Sb : Sg X.kx O1 H' H' (σ.set j (some (.ref b))) (e.set j (some (.ow false ds))) τ ts := by
                      refine ⟨?_, by simpa using le1⟩
                      have := Sa
                      rw [List.set_append_left (s := σ) _ _ (by omega), List.set_append_left (s := e.set i _) _ _ (by simpa using eil), List.set_append_left _ _ (by simpa using ejl), List.set_set] at this
                      have e3 : (e.set i none) = e := by
                        apply List.ext_getElem?
                        intro l
                        by_cases hl : l = i
                        · subst hl
                          rw [List.getElem?_set_self eil, offAt_eq hoi]
                        · rw [List.getElem?_set_ne (Ne.symm hl)]
                      rw [e3] at this
                      exact this
                    refine h4 O1 H' H' _ _ τ ts e1 _ Sb he1 fun H2 Sc => ?_
                    have lc := Sc.le
                    rw [List.length_set] at lc
                    have e1l : e1.length = e.length := by omega
                    have hio : ∀ l s, l ≠ j → (e1 ++ ts)[l]? = some (some s) → s.io = true → ∀ c, (σ.set j (some (V.ref b)) ++ τ)[l]? = some (some (.ref c)) → O.top c := fun l s hlj hl o c q => by
                      by_cases hle : l < e1.length
                      · rw [List.getElem?_append_left hle] at hl
                        have := List.all_eq_true.mp hchk.2 _ (List.mem_of_getElem? hl)
                        simp only [noIo, Bool.not_eq_true'] at this
                        rw [this] at o; cases o
                      · have hl' : ((e.set i (some (.ol io (dn ++ ds :: r)))) ++ ts)[l]? = some (some s) := by
                          rw [List.getElem?_append_right (by simp; omega)]
                          rw [List.getElem?_append_right (by omega)] at hl
                          simpa [e1l] using hl
                        have hq : (σ ++ τ)[l]? = some (some (V.ref c)) := by
                          rw [List.getElem?_append_right (by omega)]
                          rw [List.getElem?_append_right (by simp; omega)] at q
                          simpa using q
                        exact S1.st.root l s c hl' o hq
                    obtain ⟨Sd, ha2⟩ := close H2 _ _ ds' Sc.st (get_left (by rw [List.getElem?_set_ne (Ne.symm hij)]; exact hwi)) (get_left (List.getElem?_set_self (by omega))) (get_left (owAt_eq ho1)) hio
                    refine ⟨dn ++ [ds'], r, e1.set j none, by simp [hdn], by rw [List.getElem?_set_ne (Ne.symm hij)]; exact hwi, ha2, ?_, ?_, ⟨?_, by simp; omega⟩, by simp at hl2; omega, rs2, hf3, by simpa using hf2⟩
                    · unfold offAt
                      rw [List.getElem?_set_ne (Ne.symm hij), offAt_eq hchk.1]
                    · unfold offAt
                      rw [List.getElem?_set_self (by omega)]
                    · rw [List.set_append_left _ _ (by omega), List.set_append_left _ _ (by simp; omega)] at Sd
                      have e4 : (dn ++ ds :: r).set n ds' = dn ++ [ds'] ++ r := by
                        rw [List.set_append_right _ _ (by omega), hdn, Nat.sub_self]; simp
                      rw [e4] at Sd
                      exact Sd
                  · cases hf1
                · cases hf1
              · cases hf1
            · cases hf1
      · simp only [List.length_map] at hdn hl2
        have : rs = [] := by
          cases rs with
          | nil => rfl
          | cons _ _ => rw [List.length_cons] at hl2; omega
        subst this
        unfold forL at hf1
        cases hf1
        rw [List.append_nil] at hf2 S1
        subst hf2
        exact k σ H S1
    · cases h
  · cases h
end
section
variable {X : Cx} {e a b c o : Expr} {es rest : List Expr} {pos : Pos}
/-! ### xs.index(k), of ints -/
def dIndex : Dt → Dt → Option Dt
  | .list ds, .int k => match intsOf ds with
    | some ns => if k ∈ ns ∧ ns.length ≤ 1000 then some (.int (ns.idxOf k : Nat)) else none
    | none => none
  | _, _ => none
theorem ei_index {fa fb : EF} {apos cpos : Pos} (ha : EI X o fa) (hb : EI X e fb) (h1 : attributeBase o ("index" : Str) X.env (eval o X.env) = eval o X.env := by rfl)
    (h2 : (((((backTo cpos (starEach [e] X.env)).all fun x => !x.fst) && (backToKw cpos (keywordEach [] X.env)).all fun x => x.fst.isSome) && decide (([e].length + ([] : List Keyword).length + if ([] : List Keyword).isEmpty = true then 0 else 1) < 30)) = true) := by rfl)
    (h3 : (apos.endLine == cpos.line) = true := by rfl) (h4 : starEach [e] X.env = (false, eval e X.env) :: starEach [] X.env := by rfl) (h5 : ((backTo cpos (starEach [] X.env)).any fun x => x.fst) = false := by rfl) :
    EI X (.Call (.Attribute o ("index" : Str) apos) [e] [] cpos) (eOp dIndex fa fb) := by
  obtain ⟨ta, g1, g2⟩ := ha
  obtain ⟨tb, g3, g4⟩ := hb
  refine ⟨_, pe_bm PySem.F.plainAttrs_list PySem.F.slot_list_index PySem.F.type_list_index mt_index g1 (pa_cons g3 pa_nil h4) h1 h2 h3 h4 h5, fun O H0 H σ env τ ts d env' Q S h k => ?_⟩
  unfold eOp at h
  split at h
  · rename_i x e1 he1
    split at h
    · rename_i y e2 he2
      split at h
      · rename_i z hz
        cases h
        unfold dIndex at hz
        split at hz
        · rename_i ds kk
          split at hz
          · rename_i ns hns
            split at hz
            · rename_i hc
              cases hz
              refine g2 O H0 H σ env τ ts _ e1 _ S he1 fun v H1 S1 => ?_
              obtain ⟨p, xs, rfl, f, r⟩ := S1.rp
              refine ⟨.inl ⟨rfl, xs, f.sq⟩, g4 O H0 H1 σ e1 _ _ _ _ _ S1 he2 fun v2 H2 S2 => ?_⟩
              obtain ⟨p', xs', e', f', r'⟩ := S2.pop.rp
              cases e'
              have r2 := S2.rp
              obtain ⟨rfl, _⟩ := intsOf_rp hns r'
              cases r2
              have hlt : ns.idxOf kk < ns.length := List.idxOf_lt_length_iff.mpr hc.1
              have hat : ns[ns.idxOf kk]? = some kk := by rw [List.getElem?_eq_getElem hlt]; exact congrArg some (List.getElem_idxOf hlt)
              refine ⟨p, ns.map V.int, .int kk, ns.idxOf kk, .int kk, rfl, rfl, f'.sq, rfl, ?_, by rw [List.getElem?_map, hat]; rfl, ?_, fun m z' hm hz' => ?_, k _ H2 (S2.pop.pop.push rfl)⟩
              · rw [List.all_eq_true]
                intro v hv
                obtain ⟨i, _, rfl⟩ := List.mem_map.mp hv
                rfl
              · exact beq_self_eq_true kk
              · rw [List.getElem?_map] at hz'
                cases hmm : ns[m]? with
                | none => rw [hmm] at hz'; cases hz'
                | some i =>
                  rw [hmm] at hz'
                  cases hz'
                  show (i == kk) = false
                  have hlm : m < ns.length := (List.getElem?_eq_some_iff.mp hmm).1
                  have := List.not_of_lt_findIdx (p := fun x => x == kk) (xs := ns) (i := m) (by simpa [List.idxOf] using hm)
                  have e2 := (List.getElem?_eq_some_iff.mp hmm).2
                  rw [e2] at this
                  simpa using this
            · cases hz
          · cases hz
        · cases hz
      · cases h
    · cases h
  · cases h
end
def B__law_named : SF := (sSeq (sAsg (eVar 0) (gTp (gsCons (gNm 4) (gsCons (gNm 5) gsNil))))
    (sSeq (sPar [6, 7] (aI (eNew (nLc [10] (itD (eVar 1)) (gNm 10) tYesF (eCall dSum (aI (eVar 10) aNil)))) (aI (eNew (nLc [10] (itD (eVar 1)) (gNm 10) tYesF (eCall dLen (aI (eVar 10) aNil)))) aNil)))
    (sSeq (sIf (tVal (eOp dEq (eVar 4) (eC (.str "turns")))) (sRet (eIf (tVal (eOp dIs (eVar 2) (eC .none))) (eVar 5) (eOp dSub (eC (.int 1)) (eVar 2)))) sSkip)
    (sSeq (sIf (tVal (eOp dEq (eVar 4) (eC (.str "sizes")))) (sRet (eIf (tVal (eOp dLt (eVar 3) (eC (.int 2)))) (eVar 5) (eOp dSub (eC (.int 1)) (eVar 5)))) sSkip)
    (sSeq (sIf (tVal (eOp dEq (eVar 4) (eC (.str "fill")))) (sRet (eIf (tVal (eOp dGt (eOp dAdd (eOp dIx (eVar 6) (eC (.int 0))) (eVar 3)) (eVar 5))) (eC (.int 1)) (eC (.int 0)))) sSkip)
    (sSeq (sIf (tVal (eOp dEq (eVar 4) (eC (.str "stay")))) (sSeq (sSet 8 (eIf (tVal (eOp dIsn (eVar 2) (eC .none))) (eVar 2) (eC (.int 0))))
    (sRet (eIf (tVal (eOp dGt (eOp dAdd (eOp dIx (eVar 6) (eVar 8)) (eVar 3)) (eVar 5))) (eOp dSub (eC (.int 1)) (eVar 8)) (eVar 8)))) sSkip)
    (sSeq (sSet 9 (eIf (tVal (eOp dEq (eVar 4) (eC (.str "least")))) (eVar 6) (eVar 7)))
    (sRet (eIf (tVal (eOp dEq (eOp dIx (eVar 9) (eC (.int 0))) (eOp dIx (eVar 9) (eC (.int 1))))) (eVar 5) (eOp dIndex (eVar 9) (eCall dMin (aI (eVar 9) aNil))))))))))))
def F__law_named : List Dt → Option Dt := fnP 4 7 B__law_named
def B__law_begin : SF := (sRet (eTup (aI (eTup (aI (eTup aNil) (aI (eTup aNil) aNil))) (aI (eC .none) aNil))))
def F__law_begin : List Dt → Option Dt := fnP 0 0 B__law_begin
def B__law_tick_l1 : SF := (sIf (tVal (eOpV dNe 11 (eNew (nLst aNil)))) (sAugI (fun i j => i - j) 11 (eC (.int 0)) (eC (.int 1))) sSkip)
def B__law_tick : SF := (sSeq (sPar [4, 5] (aLL (nLcL [11] (itD (eOp dIx (eVar 2) (eC (.int 0)))) (gNm 11) (nCall seqOf (aI (eVar 11) aNil))) (aI (eOp dIx (eVar 2) (eC (.int 1))) aNil)))
    (sSeq (sPar [6, 7, 8] (aI (eC .none) (aI (eC (.int 0)) (aI (eC (.int 0)) aNil))))
    (sSeq (sIf (tVal (eOp dGt (eVar 3) (eC (.int 0)))) (sSeq (sSet 5 (eQ (qBor 4 (qCall F__law_named [(qVar 1), (qVar 4), (qVar 5), (qVar 3)]))))
    (sSeq (sPar [9, 10] (aI (eQ (qBor 4 (qCall dSum [(qOp dIx (qVar 4) (qVar 5))]))) (aI (eQ (qBor 4 (qCall dSum [(qOp dIx (qVar 4) (qOp dSub (qC (.int 1)) (qVar 5)))]))) aNil)))
    (sSeq (sSet 6 (eTup (aI (eVar 5) (aI (eOp dGt (eOp dAdd (eVar 9) (eVar 3)) (eVar 0)) aNil))))
    (sIf (tVal (eOp dIx (eVar 6) (eC (.int 1)))) (sSet 7 (eVar 3)) (sSeq (sSet 8 (eCall dMax (aI (eC (.int 0)) (aI (eOp dSub (eVar 9) (eVar 10)) aNil))))
    (sAppL 4 (qVar 5) (qVar 3))))))) sSkip)
    (sSeq (sForL 4 11 B__law_tick_l1)
    (sSeq (sSet 12 (eCall dTuple (aI (eNew (nLc [11] (itD (eVarL 4)) (gNm 11) tYesF (eCall dTuple (aI (eNew (nLc [13] (itD (eVar 11)) (gNm 13) (tVal (eOp dGt (eVar 13) (eC (.int 0)))) (eVar 13))) aNil)))) aNil)))
    (sRet (eTup (aI (eTup (aI (eVar 12) (aI (eVar 5) aNil))) (aI (eVar 6) (aI (eVar 7) (aI (eVar 8) aNil)))))))))))
def F__law_tick : List Dt → Option Dt := fnP 4 10 B__law_tick
def B__law_play_l1 : SF := (sSeq (sAsg (eCall F__law_tick (aI (eVar 0) (aI (eVar 1) (aI (eVar 3) (aI (eVar 5) aNil))))) (gTp (gsCons (gNm 3) (gsCons (gNm 6) (gsCons (gNm 7) (gsCons (gNm 8) gsNil))))))
    (sApp 4 (eTup (aI (eVar 3) (aI (eVar 6) (aI (eVar 7) (aI (eVar 8) aNil)))))))
def B__law_play : SF := (sSeq (sPar [3, 4] (aI (eCall F__law_begin aNil) (aN (nLst aNil) aNil)))
    (sSeq (sFor (itD (eVar 2)) (gNm 5) B__law_play_l1)
    (sRet (eVar 4))))
def F__law_play : List Dt → Option Dt := fnP 3 6 B__law_play
def B__law_key : SF := (sSeq (sAsg (eVar 1) (gTp (gsCons (gNm 2) (gsCons (gNm 3) gsNil))))
    (sSeq (sIf (tVal (eOp dEq (eOp dIx (eVar 0) (eC (.int 0))) (eC (.str "fewer")))) (sRet (eVar 2)) sSkip)
    (sRet (eTup (aI (eCall dTuple (aI (eNew (nLc [4] (itD (eVar 2)) (gNm 4) tYesF (eCall dSum (aI (eVar 4) aNil)))) aNil)) (aI (eIf (tVal (eOp dIn (eOp dIx (eVar 0) (eC (.int 0))) (eTup (aI (eC (.str "turns")) (aI (eC (.str "stay")) aNil))))) (eVar 3) (eC .none)) aNil))))))
def F__law_key : List Dt → Option Dt := fnP 2 3 B__law_key
section
variable {X : Cx} {e a b c o : Expr} {es rest : List Expr} {pos : Pos}
/-! ### list(range(n)) -/
def nRange (f : EF) : NF := fun env => match f env with
  | some (.int j, e) => if 0 ≤ j ∧ j ≤ 1000 then some (rangeD j, e) else none
  | _ => none
theorem rgV_rp {K : Kx} {H : Hp} (j : Int) : RpL K H (rangeD j) (rgV 0 j) := by
  unfold rangeD rgV
  rw [Int.sub_zero]
  generalize List.range j.toNat = l
  induction l with
  | nil => rfl
  | cons x r ih => exact ⟨_, _, rfl, by show V.int (0 + (x : Int)) = V.int (x : Int); rw [Int.zero_add], ih⟩
theorem en_listR {f : EF} {p q qp : Pos} (hc : X.calm = true) (hm : X.mg "list" = none) (hg : Gl X "list") (hm' : X.mg "range" = none) (hg' : Gl X "range") (h : EI X a f)
    (n1 : starEach [a] X.env = (false, eval a X.env) :: starEach [] X.env := by rfl) (n2 : starEach [.Call (.Name "range" q) [a] [] qp] X.env = (false, eval (.Call (.Name "range" q) [a] [] qp) X.env) :: starEach [] X.env := by rfl) :
    EN X (.Call (.Name "list" p) [.Call (.Name "range" q) [a] [] qp] [] pos) (nRange f) := by
  obtain ⟨t, h1, h2⟩ := h
  refine ⟨_, pe_listRg hc hg hm (prg_1 hg' hm' h1 n1) n2, fun O H0 H σ env τ ts ds env' Q S h k => ?_⟩
  unfold nRange at h
  split at h
  · rename_i j e1 he
    split at h
    · rename_i hj
      cases h
      refine h2 O H0 H σ env τ ts _ _ _ S he fun v H1 S1 => ⟨j, S1.rp, RgOk.of_le (by omega) (by omega) (by omega) (by omega), fun q hq => k _ _ ?_⟩
      exact S1.pop.pushNew hq (rgV_rp j)
    · cases h
  · cases h

/-! ### sorted(pairs of a text and an int) -/
def encP (p : Str × Int) : Dt := .tuple [.str p.1, .int p.2]
def prOf : List Dt → Option (List (Str × Int))
  | [] => some []
  | .tuple [.str x, .int i] :: r => match prOf r with
    | some ps => some ((x, i) :: ps)
    | none => none
  | _ => none
theorem prOf_eq : ∀ {ds : List Dt} {ps : List (Str × Int)}, prOf ds = some ps → ds = ps.map encP
  | [], ps, h => by cases h; rfl
  | d :: r, ps, h => by
    unfold prOf at h
    split at h
    · rename_i x; cases x
    · rename_i x i r' hh
      cases hh
      split at h
      · rename_i ps' e
        cases h
        rw [List.map_cons, ← prOf_eq e]
        rfl
      · cases h
    · cases h
theorem prOf_map : ∀ ps : List (Str × Int), prOf (ps.map encP) = some ps
  | [] => rfl
  | p :: r => by
    rw [List.map_cons]
    show (match prOf (r.map encP) with | some ps => some ((p.1, p.2) :: ps) | none => none) = _
    rw [prOf_map r]
def leP : Str × Int → Str × Int → Bool := PySem.W.dataLe false encP
def rSortP (K : Kx) : List V → Hp → VK → Prop := fun vs H Q => ∃ (a : Addr) (xs : List V) (ps : List (Str × Int)), vs = [V.ref a] ∧ SqL K H a xs ∧ RpL K H (ps.map encP) xs ∧ ps.length ≤ 1000 ∧
  ∀ p ys, H p = none → RpL K H ((ps.mergeSort leP).map encP) ys → Q (.ref p) (upd H p (.lst ys))
theorem each_of {K : Kx} {H : Hp} : ∀ {ps : List (Str × Int)} {xs : List V} {us : List Value}, RpL K H (ps.map encP) xs → Vals xs us → PySem.W.EachIs (fun u p => ∃ x, RelV x u ∧ Rp K H (encP p) x) us ps
  | [], _, _, r, v => by
    cases r
    cases v
    exact .nil
  | p :: ps, _, _, r, v => by
    obtain ⟨x, xs, rfl, h1, h2⟩ := r
    cases v with
    | cons a b => exact .cons ⟨x, a, h1⟩ (each_of h2 b)
theorem of_each {K : Kx} {H : Hp} : ∀ {ps : List (Str × Int)} {us : List Value}, PySem.W.EachIs (fun u p => ∃ x, RelV x u ∧ Rp K H (encP p) x) us ps → ∃ xs, RpL K H (ps.map encP) xs ∧ Vals xs us
  | _, _, .nil => ⟨[], rfl, .nil⟩
  | _, _, .cons h t => by
    obtain ⟨x, h1, h2⟩ := h
    obtain ⟨xs, h3, h4⟩ := of_each t
    exact ⟨x :: xs, ⟨x, xs, rfl, h2, h3⟩, .cons h1 h4⟩
theorem plain_prs : ∀ ps : List (Str × Int), PyData.plainAll (ps.map encP) = true
  | [] => rfl
  | p :: r => by simp only [List.map_cons, PyData.plainAll, encP, PyData.plain, plain_prs r, Bool.and_self]
theorem cr_sortP (hu : X.A.units + 64 < cLine) : CallR X (.builtin "sorted") (rSortP X.kx) := by
  intro pins s σ H vs us Q I r h
  obtain ⟨a, xs, ps, rfl, hs, rx, hl0, q⟩ := h
  obtain ⟨its, rv, hl, hz⟩ := I.list hs
  rw [Vals.ref1 r]
  obtain ⟨as, ra⟩ := rpl_reads I (plain_prs ps) rx rv
  refine PySem.W.sorted_data (R := fun u p => ∃ x, RelV x u ∧ Rp X.kx H (encP p) x) (enc := encP) (bs := ps) hl.isList (each_of rx rv) (PySem.W.readsAll_each encP ra) (PySem.W.AllAlike.of fun b b' => ?_) (PySem.W.Sortable.tuples fun b => ⟨_, _, rfl⟩) (Nat.le_trans hl0 (by decide)) (fun b _ => ?_) fun out hlen ho => ?_
  · rfl
  · show X.A.units + 2 + (encP b).depth < cLine
    have : (encP b).depth ≤ 3 := by simp [encP, PyData.depth, PyData.depthAll]
    omega
  · obtain ⟨ys, r1, r2⟩ := of_each ho
    obtain ⟨ep, he'⟩ := PyProof.Rows.sortedAll_at s.heap its out.toArray
    have hlen : ys.length ≤ sizeLine := by
      rw [r1.length, List.length_map, List.length_mergeSort]
      exact Nat.le_trans hl0 (by decide)
    exact ⟨.ref _, upd H (s.heap.objs.size + 1) (.lst ys), I.laid (t' := s.toks) (fun _ _ => PyProof.Rows.sortedAll_old) (Nat.le_succ _) ⟨hlen, out, ep, r2, he'⟩, rfl, q _ _ (I.hok.fresh (Nat.le_succ _)) r1⟩
def lSorted : List Dt → Option (List Dt)
  | [.list ds] => match prOf ds with
    | some ps => if ps.length ≤ 1000 then some ((ps.mergeSort leP).map encP) else none
    | none => none
  | _ => none
theorem cn_sorted {K : Kx} : CallN K (rSortP K) lSorted := by
  intro H xs ds es Q r hg k
  unfold lSorted at hg
  split at hg
  · split at hg
    · rename_i ps hps
      split at hg
      · rename_i hl
        cases hg
        obtain ⟨v, rfl, p, ys, rfl, f, r⟩ := r.one_inv
        rw [prOf_eq hps] at r
        exact ⟨p, ys, ps, rfl, f.sq, r, hl, fun q zs hq hz => k q zs hq hz⟩
      · cases hg
    · cases hg
  · cases hg
theorem en_sorted {f : AF} {p : Pos} (hu : X.A.units + 64 < cLine) (hm : X.mg "sorted" = none) (hg : Gl X "sorted") (ha : EA X [a] f)
    (hs : starEach [a] X.env = (false, eval a X.env) :: starEach [] X.env := by rfl) (hst : ((backTo pos (starEach [] X.env)).any (·.1)) = false := by rfl) : EN X (.Call (.Name "sorted" p) [a] [] pos) (nCall lSorted f) :=
  en_B (cr_sortP hu) cn_sorted hm hg (by decide +kernel) ha (by decide) (by decide) hs hst
end
/-! ### comprehensions with two fors -/
theorem Sg.writeM {K : Kx} {O : Ow} {H0 H : Hp} {σ τ τ2 : L2.St} {env ts ts2 : Nv} {a : Addr} {io : Bool} {ds ds' : List Dt} {ys : List V} (S : Sg K O H0 H σ env ((τ ++ [some (.ref a)]) ++ τ2) ((ts ++ [some (.ow io ds)]) ++ ts2)) (hl : τ.length = ts.length) (r : RpL K H ds' ys) :
    Sg K O H0 (upd H a (.lst ys)) σ env ((τ ++ [some (.ref a)]) ++ τ2) ((ts ++ [some (.ow io ds')]) ++ ts2) := by
  have le := S.le
  have h0 := S.st
  have e1 : (env ++ ((ts ++ [some (Sl.ow io ds)]) ++ ts2))[env.length + ts.length]? = some (some (Sl.ow io ds)) := by
    rw [List.getElem?_append_right (by omega), show env.length + ts.length - env.length = ts.length from by omega, List.append_assoc, List.getElem?_append_right (Nat.le_refl _), Nat.sub_self]; rfl
  have e2 : (σ ++ ((τ ++ [some (V.ref a)]) ++ τ2))[env.length + ts.length]? = some (some (V.ref a)) := by
    rw [List.getElem?_append_right (by omega), show env.length + ts.length - σ.length = τ.length from by omega, List.append_assoc, List.getElem?_append_right (Nat.le_refl _), Nat.sub_self]; rfl
  have h := h0.write e1 e2 r
  rw [List.set_append_right _ _ (by omega), show env.length + ts.length - env.length = ts.length from by omega, List.append_assoc ts, List.set_append_right _ _ (Nat.le_refl _), Nat.sub_self] at h
  refine ⟨?_, le⟩
  rw [List.append_assoc ts]
  exact h
def cL (K : Kx) (f : NF) : TI := fun σ H R => ∃ (O : Ow) (H0 : Hp) (env : Nv) (τ : L2.St) (ts : Nv) (ds : List Dt) (env' : Nv), Sg K O H0 H σ env τ ts ∧ f env = some (ds, env') ∧
  ∀ (J : It) (H' : Hp) (vs1 : List V) (ss1 : List Sl) (G : Hp → Prop) (Y : Nat → Hp → V → Hp → Prop), Walk J ds.length G Y → Pin K H' ss1 vs1 → Sg K O H0 H' σ env' τ ts → (∀ H, Pin K H ss1 vs1 → G H) →
    (∀ (i : Nat) (d : Dt) (x : V) (H H' : Hp), ds[i]? = some d → Pin K H ss1 vs1 → Y i H x H' → Same H H' ∧ Rp K H' d x) → R J H'
theorem EL.can {X : Cx} {tg iter : Expr} {f : NF} (h : EL X tg iter f) : PI X tg iter (cL X.kx f) := by
  obtain ⟨wi, h1, h2⟩ := h
  refine ⟨fun pins s σ H R I q => ?_⟩
  obtain ⟨O, H0, env, τ, ts, d, env', S, hf, k⟩ := q
  exact h1.run pins s σ H R I (h2 O H0 H σ env τ ts d env' R S hf k)
def lcD2 (vs vs1 : List Nat) (g : GF) (it1 : NF) (g1 : GF) (f : EF) : List Dt → Nv → Option (List Dt × Nv)
  | [], env => some ([], env)
  | d :: ds, env => match g d env with
    | some e1 => match it1 e1 with
      | some (ds1, e2) => match lcD vs1 g1 tYesF f ds1 (wip e2 vs1) with
        | some (ys, e3) => match lcD2 vs vs1 g it1 g1 f ds (wip e3 vs) with
          | some (zs, e4) => some (ys ++ zs, e4)
          | none => none
        | none => none
      | none => none
    | none => none
def nLc2 (vs vs1 : List Nat) (it : NF) (g : GF) (it1 : NF) (g1 : GF) (f : EF) : NF := fun env => match it env with
  | some (ds, e) => match lcD2 vs vs1 g it1 g1 f ds (wip e vs) with
    | some (ys, e') => if ys.length ≤ 1000 then some (ys, e') else none
    | none => none
  | none => none
theorem wipe_sub {σ : L2.St} {vs vs1 : List Nat} (h : ∀ j ∈ vs1, j ∈ vs) : L2.wipe (L2.wipe σ vs1) vs = L2.wipe σ vs := wipe_eq (by rw [wipe_length]) fun j hj => wipe_get fun z => hj (h j z)
theorem runs_lc2 {K : Kx} {wi : TI} {it it1 : NF} {g g1 : GF} {f : EF} {vs vs1 gs gs1 : List Nat} (h2 : RunsL K wi it) (hgs : ∀ j ∈ gs, j ∈ vs) (hgs1 : ∀ j ∈ gs1, j ∈ vs1) (hvs : ∀ j ∈ vs1, j ∈ vs) :
    RunsN K (tLc2 wi (cG K gs g) (cT K tYesF) (cL K it1) (cG K gs1 g1) (cT K tYesF) (cI K f) vs vs1) (nLc2 vs vs1 it g it1 g1 f) := by
  intro O H0 H σ env τ ts out env' Q S h k
  unfold nLc2 at h
  split at h
  · rename_i ds e0 he0
    split at h
    · rename_i ys0 ef hlc
      split at h
      · rename_i hlen
        cases h
        refine h2 O H0 H σ env τ ts ds e0 _ S he0 fun J H1 vs0 ss1 G Y w r1 S1 hG hY => ?_
        intro D hD
        have hl1 : vs0.length = ss1.length := r1.length
        have fx1 := r1.fix
        let τ1 := τ ++ (vs0.map some).reverse
        let ts1 := ts ++ (ss1.map some).reverse
        have S1a := (S1.pushPin r1).wipe vs
        have S2 := S1a.pushNew (ds := []) (xs := []) hD rfl
        let Pv : Nat → Hp → Prop := fun i H => ∃ acc e ys, Sg K O H0 H (L2.wipe σ vs) (wip e vs) (τ1 ++ [some (.ref D)]) (ts1 ++ [some (.ow false acc)]) ∧ lcD2 vs vs1 g it1 g1 f (ds.drop i) (wip e vs) = some (ys, env') ∧ acc ++ ys = out
        have lτ : τ1.length = ts1.length := by
          have := S1.len2
          simp only [τ1, ts1, List.length_append, List.length_reverse, List.length_map]; omega
        refine ⟨fun i m H => m = ds.length - i ∧ i ≤ ds.length ∧ Pv i H, ⟨ds.length, by simp, Nat.zero_le _, [], e0, out, S2, hlc, rfl⟩, ?_⟩
        rintro i m H ⟨rfl, hi, acc, e, ys, S, hf, hout⟩
        have hGH := hG H (Sg.argsP hl1 fx1 S.pop).1
        by_cases hlt : i < ds.length
        · refine .inr ⟨w.goes i H hlt hGH, Pv (i + 1), fun H' p' => ⟨ds.length - (i + 1), by omega, rfl, hlt, p'⟩, fun x H' y => ?_⟩
          have y := w.yields i H x H' hlt hGH y
          have hd : ds.drop i = ds[i] :: ds.drop (i + 1) := List.drop_eq_getElem_cons hlt
          rw [hd] at hf
          unfold lcD2 at hf
          obtain ⟨sm, rx⟩ := hY i ds[i] x H H' (List.getElem?_eq_getElem hlt) (Sg.argsP hl1 fx1 S.pop).1 y
          have S' := (S.same sm).push rx
          split at hf
          · rename_i e1 he1
            refine ⟨O, H0, _, _, _, _, e1, S', he1, fun σ2 Sa la ja => ?_⟩
            have hw2 : L2.wipe σ2 vs = L2.wipe σ vs := by
              have := wipe_eq (vs := vs) (σ := L2.wipe σ vs) la fun j hj => ja j fun z => hj (hgs j z)
              rw [this]
              exact wipe_eq (by rw [wipe_length]) fun j hj => wipe_get hj
            refine ⟨hw2, O, H0, e1, _, _, true, e1, Sa, rfl, fun H3 Sb => ?_⟩
            show (if true = true then _ else _)
            rw [if_pos rfl]
            split at hf
            · rename_i ds1 e2 he2
              split at hf
              · rename_i ys1 e3 he3
                split at hf
                · rename_i zs e4 he4
                  cases hf
                  refine ⟨O, H0, e1, _, _, ds1, e2, Sb, he2, fun J1 H4 vs2 ss2 G2 Y2 w2 r2 S2' hG2 hY2 => ?_⟩
                  have hl2 : vs2.length = ss2.length := r2.length
                  have fx2 := r2.fix
                  let p2 := (vs2.map some).reverse
                  let q2 := (ss2.map some).reverse
                  have S3 := (S2'.pushPin r2).wipe vs1
                  let Pw : Nat → Hp → Prop := fun j H => ∃ acc1 e' rs, Sg K O H0 H (L2.wipe σ2 vs1) (wip e' vs1) ((τ1 ++ [some (.ref D)]) ++ p2) ((ts1 ++ [some (.ow false acc1)]) ++ q2) ∧ lcD vs1 g1 tYesF f (ds1.drop j) (wip e' vs1) = some (rs, e3) ∧ acc1 ++ (rs ++ zs) = out
                  have lD : (τ1 ++ [some (V.ref D)]).length = (ts1 ++ [some (Sl.ow false acc)]).length := by simp [lτ]
                  refine ⟨fun j n H => n = ds1.length - j ∧ j ≤ ds1.length ∧ Pw j H, ⟨ds1.length, by simp, Nat.zero_le _, acc, e2, ys1, S3, he3, by simpa using hout⟩, ?_⟩
                  rintro j n H ⟨rfl, hj, acc1, e', rs, S4, hf4, hout4⟩
                  have lD1 : (τ1 ++ [some (V.ref D)]).length = (ts1 ++ [some (Sl.ow false acc1)]).length := by simp [lτ]
                  have hG4 := hG2 H (Sg.argsP hl2 fx2 S4).1
                  by_cases hjt : j < ds1.length
                  · refine .inr ⟨w2.goes j H hjt hG4, Pw (j + 1), fun H' p' => ⟨ds1.length - (j + 1), by omega, rfl, hjt, p'⟩, fun x H' y => ?_⟩
                    have y := w2.yields j H x H' hjt hG4 y
                    have hd : ds1.drop j = ds1[j] :: ds1.drop (j + 1) := List.drop_eq_getElem_cons hjt
                    rw [hd] at hf4
                    unfold lcD at hf4
                    obtain ⟨sm, rx⟩ := hY2 j ds1[j] x H H' (List.getElem?_eq_getElem hjt) (Sg.argsP hl2 fx2 S4).1 y
                    have S5 := (S4.same sm).push rx
                    split at hf4
                    · rename_i e5 he5
                      refine ⟨O, H0, _, _, _, _, e5, S5, he5, fun σ3 Sa3 la3 ja3 => ?_⟩
                      have hw3 : L2.wipe σ3 vs1 = L2.wipe σ2 vs1 := by
                        have := wipe_eq (vs := vs1) (σ := L2.wipe σ2 vs1) la3 fun j hj => ja3 j fun z => hj (hgs1 j z)
                        rw [this]
                        exact wipe_eq (by rw [wipe_length]) fun j hj => wipe_get hj
                      refine ⟨hw3, O, H0, e5, _, _, true, e5, Sa3, rfl, fun H6 Sb3 => ?_⟩
                      show (if true = true then _ else _)
                      rw [if_pos rfl]
                      simp only [tYesF] at hf4
                      split at hf4
                      · rename_i y6 e6 he6
                        refine ⟨O, H0, e5, _, _, y6, e6, Sb3, he6, fun v H7 Sc => ?_⟩
                        split at hf4
                        · rename_i rs' e7 he7
                          cases hf4
                          have rv := Sc.rp
                          have Sd := Sc.pop
                          obtain ⟨D', xs, eD, hD2, rxs⟩ := (Sd.cut lD1).topO
                          cases eD
                          have hal : acc1.length < 1000 := by
                            have := congrArg List.length hout4
                            simp at this
                            omega
                          refine ⟨xs, hD2, Nat.lt_of_lt_of_le (by rw [rxs.length]; exact hal) (by decide), acc1 ++ [y6], e6, rs', ?_, he7, by simpa using hout4⟩
                          have Se := Sd.writeM lτ (rxs.append (.one rv))
                          have Sf := Se.wipe vs1
                          rw [hw3] at Sf
                          exact Sf
                        · cases hf4
                      · cases hf4
                    · cases hf4
                  · have ej : j = ds1.length := by omega
                    subst ej
                    refine .inl ⟨w2.stops H hG4, acc1, wip e' vs1, zs, ?_, ?_, ?_⟩
                    · have Sg1 := (S4.cut lD1).wipe vs
                      rw [wipe_sub hvs, hw2] at Sg1
                      exact Sg1
                    · rw [List.drop_length] at hf4
                      cases hf4
                      exact he4
                    · rw [List.drop_length] at hf4
                      cases hf4
                      simpa using hout4
                · cases hf
              · cases hf
            · cases hf
          · cases hf
        · have ei : i = ds.length := by omega
          subst ei
          refine .inl ⟨w.stops H hGH, ?_⟩
          rw [List.drop_length] at hf
          cases hf
          rw [List.append_nil] at hout
          subst hout
          have Su := S.unwipe
          refine k _ H ?_
          have Sm : Sg K O H0 H σ (wip e vs) (τ ++ ((vs0.map some).reverse ++ [some (.ref D)])) (ts ++ ((ss1.map some).reverse ++ [some (.ow false acc)])) := by
            have := Su
            simp only [τ1, ts1, List.append_assoc] at this
            exact this
          exact Sm.mid S1.len2 (by simp [hl1])
      · cases h
    · cases h
  · cases h
section
variable {X : Cx} {elt tg iter tg1 iter1 : Expr} {scope : Scope} {ol : List (Str × Nat)} {vs1 : List Nat} {pos : Pos}
theorem en_lc2 {it it1 : NF} {g g1 : GF} {f : EF} {gs gs1 : List Nat} (hc : X.calm = true) (hN : X.N.Nodup) (hi : EL X tg iter it) (ok : BlkOk X.N X.env.scope scope ol) (hv : ∀ i ∈ vs1, i ∈ ol.map (·.2)) (hgs : ∀ j ∈ gs, j ∈ ol.map (·.2)) (hgs1 : ∀ j ∈ gs1, j ∈ vs1)
    (hg : ∀ (s : Shared) (H : Hp) (C : Addr) (cl : List (Str × Addr)) (fp : List Addr), EG (X.blk s H scope (compEnvC scope cl C X.env) fp) tg gs g)
    (hi1 : ∀ (s : Shared) (H : Hp) (C : Addr) (cl : List (Str × Addr)) (fp : List Addr), EL (X.blk s H scope (compEnvC scope cl C X.env) fp) tg1 iter1 it1)
    (hg1 : ∀ (s : Shared) (H : Hp) (C : Addr) (cl : List (Str × Addr)) (fp : List Addr), EG (X.blk s H scope (compEnvC scope cl C X.env) fp) tg1 gs1 g1)
    (he : ∀ (s : Shared) (H : Hp) (C : Addr) (cl : List (Str × Addr)) (fp : List Addr), EI (X.blk s H scope (compEnvC scope cl C X.env) fp) elt f) (hs : ∀ x, foldedSetIterable iter X.env x = pure x := by intro _; rfl) (hs1 : ∀ env x, foldedSetIterable iter1 env x = pure x := by intro _ _; rfl) :
    EN X (.ListComp elt [⟨tg, iter, [], 0⟩, ⟨tg1, iter1, [], 0⟩] scope pos) (nLc2 (ol.map (·.2)) vs1 it g it1 g1 f) := by
  obtain ⟨wi, h1, h2⟩ := hi
  exact ⟨_, pe_lc2 hc hN h1 ok hv (fun s H C cl fp => (hg s H C cl fp).can) (fun s H C cl fp => pts_yes) (fun s H C cl fp => (hi1 s H C cl fp).can) (fun s H C cl fp => (hg1 s H C cl fp).can) (fun s H C cl fp => pts_yes) (fun s H C cl fp => (he s H C cl fp).can) hs hs1, runs_lc2 h2 hgs hgs1 hv⟩
theorem sx_setLc2 {i : Nat} {y : Str} {py spos : Pos} {it it1 : NF} {g g1 : GF} {f : EF} {gs gs1 : List Nat} (hc : X.calm = true) (hN : X.N.Nodup) (hi' : X.N[i]? = some y) (hy : X.env.scope.names.lookup y = some .local)
    (hsw : swapsWith (.ListComp elt [⟨tg, iter, [], 0⟩, ⟨tg1, iter1, [], 0⟩] scope pos) (some (.Name y py)) spos.line X.env = pure true) (hi : EL X tg iter it) (ok : BlkOk X.N X.env.scope scope ol) (hv : ∀ i ∈ vs1, i ∈ ol.map (·.2)) (hgs : ∀ j ∈ gs, j ∈ ol.map (·.2)) (hgs1 : ∀ j ∈ gs1, j ∈ vs1)
    (hg : ∀ (s : Shared) (H : Hp) (C : Addr) (cl : List (Str × Addr)) (fp : List Addr), EG (X.blk s H scope (compEnvC scope cl C X.env) fp) tg gs g)
    (hi1 : ∀ (s : Shared) (H : Hp) (C : Addr) (cl : List (Str × Addr)) (fp : List Addr), EL (X.blk s H scope (compEnvC scope cl C X.env) fp) tg1 iter1 it1)
    (hg1 : ∀ (s : Shared) (H : Hp) (C : Addr) (cl : List (Str × Addr)) (fp : List Addr), EG (X.blk s H scope (compEnvC scope cl C X.env) fp) tg1 gs1 g1)
    (he : ∀ (s : Shared) (H : Hp) (C : Addr) (cl : List (Str × Addr)) (fp : List Addr), EI (X.blk s H scope (compEnvC scope cl C X.env) fp) elt f) (hs : ∀ x, foldedSetIterable iter X.env x = pure x := by intro _; rfl) (hs1 : ∀ env x, foldedSetIterable iter1 env x = pure x := by intro _ _; rfl) :
    SX X (.Assign [.Name y py] (.ListComp elt [⟨tg, iter, [], 0⟩, ⟨tg1, iter1, [], 0⟩] scope pos) spos) (sNew i (nLc2 (ol.map (·.2)) vs1 it g it1 g1 f)) := by
  obtain ⟨wi, h1, h2⟩ := hi
  exact ⟨_, ps_setLc2 hc hN hi' hy hsw h1 ok hv (fun s H C cl fp => (hg s H C cl fp).can) (fun s H C cl fp => pts_yes) (fun s H C cl fp => (hi1 s H C cl fp).can) (fun s H C cl fp => (hg1 s H C cl fp).can) (fun s H C cl fp => pts_yes) (fun s H C cl fp => (he s H C cl fp).can) hs hs1, runs_new (runs_lc2 h2 hgs hgs1 hv)⟩
end
def B_need_kind : SF := (sIf (tNotF (tVal (eCall F_is_int (aI (eVar 0) (aI (eC (.int 1)) (aI (eC (.int 3)) aNil)))))) sNever sSkip)
def F_need_kind : List Dt → Option Dt := fnP 1 0 B_need_kind
def B_jobs_of : SF := (sRet (eNew (nRange (eOp dAdd (eVar 0) (eC (.int 1))))))
def F_jobs_of : List Dt → Option Dt := fnP 1 0 B_jobs_of
def B_parted_l1 : SF := (sSeq (sAsg (eCall F_step (aI (eVar 0) (aI (eVar 1) (aI (eOp dIx (eVar 9) (eC (.int 0))) (aI (eVar 10) aNil))))) (gTp (gsCons (gNm 11) (gsCons (gNm 12) (gsCons (gNm 13) gsNil)))))
    (sSeq (sAsg (eCall F_step (aI (eVar 0) (aI (eVar 2) (aI (eOp dIx (eVar 9) (eC (.int 1))) (aI (eVar 10) aNil))))) (gTp (gsCons (gNm 14) (gsCons (gNm 15) (gsCons (gNm 16) gsNil)))))
    (sSeq (sIf (tVal (eOp dNe (eVar 12) (eVar 15))) (sRet (eOp dAdd (eVar 8) (eNew (nLst (aI (eVar 10) aNil))))) sSkip)
    (sIf (tVal (eInV true (eTup (aI (eVar 11) (aI (eVar 14) aNil))) 6)) (sSeq (sPutV 6 (eTup (aI (eVar 11) (aI (eVar 14) aNil))) (eC (.bool true)))
    (sApp 7 (eTup (aI (eOp dAdd (eVar 8) (eNew (nLst (aI (eVar 10) aNil)))) (aI (eTup (aI (eVar 11) (aI (eVar 14) aNil))) aNil))))) sSkip))))
def B_parted_l2 : SF := (sFor (itD (eCall F_jobs_of (aI (eVar 3) aNil))) (gNm 10) B_parted_l1)
def B_parted_l3 : SF := (sSeq (sNew 7 (nLst aNil))
    (sSeq (sFor (itD (eVar 5)) (gTp (gsCons (gNm 8) (gsCons (gNm 9) gsNil))) B_parted_l2)
    (sSet 5 (eVar 7))))
def B_parted : SF := (sSeq (sPar [5, 6] (aI (eNew (nLst (aI (eTup (aI (eNew (nLst aNil)) (aI (eVar 4) aNil))) aNil))) (aDn (dOne (eVar 4) (eC (.bool true))) aNil)))
    (sSeq (whileD (tVal (eOp dNe (eVar 5) (eNew (nLst aNil)))) B_parted_l3 1000000)
    (sRet (eC .none))))
def F_parted : List Dt → Option Dt := fnP 5 12 B_parted
def B_need_two : SF := (sSeq (sExpr (eCall F_need_room (aI (eVar 0) aNil)))
    (sSeq (sExpr (eCall F_need_rule (aI (eVar 1) aNil)))
    (sSeq (sExpr (eCall F_need_rule (aI (eVar 2) aNil)))
    (sExpr (eCall F_need_kind (aI (eVar 3) aNil))))))
def F_need_two : List Dt → Option Dt := fnP 4 0 B_need_two
def B_parting_jobs : SF := (sSeq (sExpr (eCall F_need_two (aI (eVar 0) (aI (eVar 1) (aI (eVar 2) (aI (eVar 3) aNil))))))
    (sRet (eCall F_parted (aI (eVar 0) (aI (eVar 1) (aI (eVar 2) (aI (eVar 3) (aI (eTup (aI (eCall F_begun aNil) (aI (eCall F_begun aNil) aNil))) aNil))))))))
def F_parting_jobs : List Dt → Option Dt := fnP 4 0 B_parting_jobs
def B_family : SF := (sSeq (sNew 0 (nLc2 [1, 2] [2] (itD C_HANDED) (gNm 1) (itD (eTup (aI (eC (.int 0)) (aI (eC (.int 1)) aNil)))) (gNm 2) (eTup (aI (eVar 1) (aI (eVar 2) aNil)))))
    (sSeq (sExt 0 (nLc2 [1, 3] [3] (itD (eTup (aI (eC (.str "fill")) (aI (eC (.str "stay")) aNil)))) (gNm 1) (itD (eTup (aI (eC (.int 2)) (aI (eC (.int 3)) (aI (eC (.int 4)) aNil))))) (gNm 3) (eTup (aI (eVar 1) (aI (eVar 3) aNil)))))
    (sRet (eNew (nCall lSorted (aI (eVar 0) aNil))))))
def F_family : List Dt → Option Dt := fnP 0 4 B_family
def B_is_note : SF := (sSeq (sIf (tVal (eOp dIs (eVar 0) (eC .none))) (sRet (eC (.bool true))) sSkip)
    (sSeq (sIf (tOrF (tNotF (tVal (eIsi isTup (eVar 0)))) (tVal (eOp dNe (eCall dLen (aI (eVar 0) aNil)) (eC (.int 2))))) (sRet (eC (.bool false))) sSkip)
    (sRet (eAnd (eCall F_is_int (aI (eOp dIx (eVar 0) (eC (.int 0))) (aI (eC (.int 0)) (aI (eC (.int 1)) aNil)))) (eIsi isBool (eOp dIx (eVar 0) (eC (.int 1))))))))
def F_is_note : List Dt → Option Dt := fnP 1 0 B_is_note
def B_need_notes : SF := (sIf (tOrF (tNotF (tVal (eIsi isList (eVar 0)))) (tOrF (tVal (eOp dGt (eCall dLen (aI (eVar 0) aNil)) C_LONGEST)) (tNotF (tVal (eCall dAll (aI (eNew (nLc [1] (itD (eVar 0)) (gNm 1) tYesF (eCall F_is_note (aI (eVar 1) aNil)))) aNil)))))) sNever sSkip)
def F_need_notes : List Dt → Option Dt := fnP 1 1 B_need_notes
def B_could_be : SF := (sSeq (sExpr (eCall F_need_room (aI (eVar 0) aNil)))
    (sSeq (sExpr (eCall F_need_jobs (aI (eVar 1) aNil)))
    (sSeq (sExpr (eCall F_need_notes (aI (eVar 2) aNil)))
    (sRet (eNew (nLc [3] (itD (eCall F_family aNil)) (gNm 3) (tVal (eOp dEq (eCall F_notes_of (aI (eVar 0) (aI (eVar 3) (aI (eVar 1) aNil)))) (eVar 2))) (eVar 3)))))))
def F_could_be : List Dt → Option Dt := fnP 3 1 B_could_be
def B_layers_of_l1 : SF := (sSeq (sAsg (eCall F_step (aI (eVar 0) (aI (eVar 1) (aI (eVar 6) (aI (eVar 7) aNil))))) (gTp (gsCons (gNm 8) (gsCons (gNm 9) (gsCons (gNm 10) gsNil)))))
    (sIf (tVal (eOp dEq (eVar 9) (eVar 4))) (sPutV 5 (eVar 8) (eOp dAdd (eGet2 5 (eVar 8) (eC (.int 0))) (eOp dGetN (eOpV dIx 3 (eUn dNeg (eC (.int 1)))) (eVar 6)))) sSkip))
def B_layers_of_l2 : SF := (sFor (itD (eTup (aI (eC (.int 0)) (aI (eC (.int 1)) (aI (eC (.int 2)) (aI (eC (.int 3)) aNil)))))) (gNm 7) B_layers_of_l1)
def B_layers_of_l3 : SF := (sSeq (sNewD 5 dEmp)
    (sSeq (sFor (itK (eOpV dIx 3 (eUn dNeg (eC (.int 1))))) (gNm 6) B_layers_of_l2)
    (sApp 3 (eVarD 5))))
def B_layers_of : SF := (sSeq (sNew 3 (nLst (aI (eNewD (dOne (eCall F_begun aNil) (eC (.int 1)))) aNil)))
    (sSeq (sFor (itD (eVar 2)) (gNm 4) B_layers_of_l3)
    (sRet (eVar 3))))
def F_layers_of : List Dt → Option Dt := fnP 3 8 B_layers_of
def B_count_of : SF := (sSeq (sSet 3 (eOp dIx (eCall F_layers_of (aI (eVar 0) (aI (eVar 1) (aI (eVar 2) aNil)))) (eUn dNeg (eC (.int 1)))))
    (sRet (eCall dSum (aI (eNew (nLc [4] (itK (eVarD 3)) (gNm 4) tYesF (eGetV 3 (eVar 4)))) aNil))))
def F_count_of : List Dt → Option Dt := fnP 3 2 B_count_of
def B_could_send : SF := (sSeq (sExpr (eCall F_need_room (aI (eVar 0) aNil)))
    (sSeq (sExpr (eCall F_need_notes (aI (eVar 1) aNil)))
    (sRet (eNew (nLc [2] (itD (eCall F_family aNil)) (gNm 2) (tVal (eOp dGt (eCall F_count_of (aI (eVar 0) (aI (eVar 2) (aI (eVar 1) aNil)))) (eC (.int 0)))) (eVar 2))))))
def F_could_send : List Dt → Option Dt := fnP 2 1 B_could_send
def B_count_jobs : SF := (sSeq (sExpr (eCall F_need_both (aI (eVar 0) (aI (eVar 1) aNil))))
    (sSeq (sExpr (eCall F_need_notes (aI (eVar 2) aNil)))
    (sRet (eCall F_count_of (aI (eVar 0) (aI (eVar 1) (aI (eVar 2) aNil)))))))
def F_count_jobs : List Dt → Option Dt := fnP 3 0 B_count_jobs
def B__law_parted_l1 : SF := (sSeq (sPar [14, 15] (aI (eCall F__law_tick (aI (eVar 0) (aI (eVar 1) (aI (eVar 10) (aI (eVar 13) aNil))))) (aI (eCall F__law_tick (aI (eVar 0) (aI (eVar 2) (aI (eVar 11) (aI (eVar 13) aNil))))) aNil)))
    (sSeq (sIf (tVal (eOp dNe (eOp dIx (eVar 14) (eC (.int 1))) (eOp dIx (eVar 15) (eC (.int 1))))) (sRet (eOp dAdd (eVar 8) (eNew (nLst (aI (eVar 13) aNil))))) sSkip)
    (sApp 7 (eTup (aI (eOp dAdd (eVar 8) (eNew (nLst (aI (eVar 13) aNil)))) (aI (eTup (aI (eOp dIx (eVar 14) (eC (.int 0))) (aI (eOp dIx (eVar 15) (eC (.int 0))) aNil))) aNil))))))
def B__law_parted_l2 : SF := (sSeq (sAsg (eVar 9) (gTp (gsCons (gNm 10) (gsCons (gNm 11) gsNil))))
    (sSeq (sSet 12 (eTup (aI (eCall F__law_key (aI (eVar 1) (aI (eVar 10) aNil))) (aI (eCall F__law_key (aI (eVar 2) (aI (eVar 11) aNil))) aNil))))
    (sSeq (sIf (tVal (eInV false (eVar 12) 6)) sCnt sSkip)
    (sSeq (sPutV 6 (eVar 12) (eC (.bool true)))
    (sFor (itR (aI (eOp dAdd (eVar 3) (eC (.int 1))) aNil)) (gNm 13) B__law_parted_l1)))))
def B__law_parted_l3 : SF := (sSeq (sNew 7 (nLst aNil))
    (sSeq (sFor (itD (eVar 5)) (gTp (gsCons (gNm 8) (gsCons (gNm 9) gsNil))) B__law_parted_l2)
    (sSet 5 (eVar 7))))
def B__law_parted : SF := (sSeq (sPar [5, 6] (aI (eNew (nLst (aI (eTup (aI (eNew (nLst aNil)) (aI (eVar 4) aNil))) aNil))) (aDn dEmp aNil)))
    (sSeq (whileD (tVal (eOp dNe (eVar 5) (eNew (nLst aNil)))) B__law_parted_l3 1000000)
    (sRet (eC .none))))
def F__law_parted : List Dt → Option Dt := fnP 5 11 B__law_parted
/-! ### a dict comprehension whose keys are tuples -/
section
variable {X : Cx} {pins : List (Addr × Obj)} {σ : L2.St} {H : Hp} {s : Shared} {a b : Addr} {v : V} {r : Value} {k : NestedKey} {es : List Ent} {A : Around} {E : Value → Shared → Prop}
theorem room9 (hu : A.units + 64 < cLine) : (nestedKind X.prog X.w).room A := by
  show A.units + 8 < cLine
  omega
theorem n_dictSet {Q : Unit → Shared → Prop} (hu : A.units + 64 < cLine) (I : L2.Inv X pins σ H s) (hd0 : H a = some (dN X.w a es)) (hk : KeysOk X.kx H es) (hl : es.length < sizeLine) (hy : IsK X.kx H (.ref b) k) (rv : RelV v r)
    (h : ∀ s', L2.Inv X pins σ (upd H a (dN X.w a (putE es k b v))) s' → Q () s') : wpAny (model X.prog X.w) A (dictSet a (.ref b) r) Q E s := by
  obtain ⟨z, hd, xs, rel, dd⟩ := dn_of I (.inl hd0) hk
  have hz : xs.length ≤ sizeLine := by rw [← Paired.length rel]; exact z
  refine wpAny_dictSet_heap (hsz := hz) (room9 hu) (IsK.is I hy) dd fun h' dd' hs => h _ ?_
  obtain ⟨q, ar, ep, hq, _⟩ := id dd'
  refine d_write I (by rw [hd0]; exact True.intro) hs ⟨q, hq⟩ (dn_new (by have := putE_len es k b v; omega) hd (rel.put k b rv) dd')
end
/-- the new dict stands at N; W tells how far it is -/
def tDcN (K : Kx) (ti : TI) (tg : TG) (tc : TT) (tk tv : TE) (vs : List Nat) : TE := fun σ H Q => ti σ H fun J Ha => ∀ N, Ha N = none → ∃ W : Nat → Nat → Hp → Prop, (∃ m, W 0 m (upd Ha N (dN K.w N []))) ∧
  ∀ i m Hb, W i m Hb → (J.stop i Hb ∧ Q (.ref N) Hb) ∨ (J.go i Hb ∧ ∃ Go : Hp → Prop, (∀ Hc, Go Hc → ∃ l, l < m ∧ W (i + 1) l Hc) ∧
    ∀ x Hc, J.yld i Hb x Hc → tg x (L2.wipe σ vs) Hc fun ρ Hd => L2.wipe ρ vs = L2.wipe σ vs ∧ tc ρ Hd fun c He => if c = true then tk ρ He fun y Hf => tv ρ Hf fun z Hg =>
      ∃ es k q, y = .ref q ∧ Hg N = some (dN K.w N es) ∧ KeysOk K Hg es ∧ es.length < sizeLine ∧ IsK K Hg y k ∧ Go (upd Hg N (dN K.w N (putE es k q z))) else Go He)
section
variable {X : Cx}
theorem pe_dcN {kx vx tgt src : Expr} {cs : List Expr} {sc : Scope} {ol : List (Str × Nat)} {pos : Pos} {ti : TI} {tg : TG} {tc : TT} {tk tv : TE} (hu : X.A.units + 64 < cLine) (calm : X.calm = true) (nd : X.N.Nodup) (pi : PI X tgt src ti) (blk : BlkOk X.N X.env.scope sc ol)
    (pg : ∀ (s : Shared) (H : Hp) (C : Addr) (cl : List (Str × Addr)) (fp : List Addr), PG (X.blk s H sc (compEnvC sc cl C X.env) fp) tgt tg)
    (pc : ∀ (s : Shared) (H : Hp) (C : Addr) (cl : List (Str × Addr)) (fp : List Addr), PTs (X.blk s H sc (compEnvC sc cl C X.env) fp) cs tc)
    (pk : ∀ (s : Shared) (H : Hp) (C : Addr) (cl : List (Str × Addr)) (fp : List Addr), PE (X.blk s H sc (compEnvC sc cl C X.env) fp) kx tk)
    (pv : ∀ (s : Shared) (H : Hp) (C : Addr) (cl : List (Str × Addr)) (fp : List Addr), PE (X.blk s H sc (compEnvC sc cl C X.env) fp) vx tv)
    (fs : ∀ x, foldedSetIterable src X.env x = pure x := by intro _; rfl) : PE X (.DictComp kx vx [⟨tgt, src, cs, 0⟩] sc pos) (tDcN X.kx ti tg tc tk tv (ol.map (·.2))) := by
  refine ⟨fun pins s σ H Q inv hyp => ?_⟩
  rw [arm_eval_DictComp]
  have frees : ∀ y ∈ sc.names, y.2 = .free → ∃ c, X.env.cells.lookup y.1 = some c := fun y hy e => by
    cases blk.free y hy e with
    | inl q => exact inv.ok.has _ (.inl q)
    | inr q => exact inv.ok.has _ (.inr q)
  refine wpAny_comprehension_free (use := none) rfl fs (closure_ok frees) blk.kind (fun y hy e => by rw [blk.uniq y hy, e]) (thn (pi.run pins s σ H _ inv hyp) fun xv sa ha => thn ha fun iv sb hb => ?_)
  obtain ⟨it, fp, at_, J, Ha, rfl, invA, T, stA, fpA, ask⟩ := hb
  refine wpAny_newObj_type (newEnv_comp ?_)
  generalize eN : sb.heap.objs.size = N
  have free : Ha N = none := invA.hok.fresh (Nat.le_of_eq eN)
  obtain ⟨W, ⟨m0, w0⟩, turns⟩ := ask N free
  generalize esc : ({ sb with heap := sb.heap.push { cls := .type "dict", data := .dict #[] } } : Shared) = sd
  have invB : L2.Inv X pins σ (upd Ha N (dN X.w N [])) sd := by
    subst esc
    subst eN
    exact invA.laid (t' := sb.toks) (fun c o e => Heap.get?_push_of_some _ e) (Nat.le_refl _) (dn_empty sb.heap invA.big)
  have hp : sd.heap = sb.heap.push { cls := .type "dict", data := .dict #[] } := by subst esc; rfl
  have below : ∀ c ∈ fp, c < sb.heap.objs.size := fun c hc => let ⟨o, e, _⟩ := T.obj _ _ stA c hc; Heap.lt_size e
  have fpB : ∀ c ∈ fp, FpOk X pins (upd Ha N (dN X.w N [])) c ∧ c < sd.heap.objs.size := fun c hc => by
    have lt := below c hc
    refine ⟨⟨?_, (fpA c hc).2⟩, ?_⟩
    · rw [upd_ne (by rw [← eN]; exact Nat.ne_of_lt lt)]
      exact (fpA c hc).1
    · rw [hp, Heap.size_push]
      exact Nat.lt_succ_of_lt lt
  have stB : at_ 0 sd.heap := T.keep _ _ _ stA fun c _ o e => by rw [hp]; exact Heap.get?_push_of_some _ e
  have invC := block_start invB blk nd fpB
  have gone : ∀ c ∈ fp, (upd Ha N (dN X.w N [])) c = none := fun c hc => (fpB c hc).1.1
  generalize ecl : cellsFrom (sd.heap.objs.size + 1) sc.names (cloFrom X.env.cells sc.names []) = cl at invC
  have gG := pg sd (upd Ha N (dN X.w N [])) sd.heap.objs.size cl fp
  have gC := pc sd (upd Ha N (dN X.w N [])) sd.heap.objs.size cl fp
  have gK := pk sd (upd Ha N (dN X.w N [])) sd.heap.objs.size cl fp
  have gV := pv sd (upd Ha N (dN X.w N [])) sd.heap.objs.size cl fp
  show codeAny _ _ (.compStart (.DictComp kx vx [⟨tgt, src, cs, 0⟩] sc pos) 0 (.ref it) (.ref N) (compEnvC sc cl sd.heap.objs.size X.env))
    (compPost (model X.prog X.w) X.A X.xe none _ (.ref N) sd.heap.objs.size) { sd with heap := pushCells (sd.heap.push { cls := .type "dict", data := .dict #[] }) sc.names }
  generalize eenv : compEnvC sc cl sd.heap.objs.size X.env = env at invC gG gC gK gV ⊢
  have loc : env.locals = sd.heap.objs.size := by subst eenv; rfl
  generalize eHB : upd Ha N (dN X.w N []) = HB at invB invC gG gC gK gV w0 gone fpB
  generalize ese : ({ sd with heap := pushCells (sd.heap.push { cls := .type "dict", data := .dict #[] }) sc.names } : Shared) = se at invC ⊢
  have stC : at_ 0 se.heap := T.keep _ _ _ stB fun c _ o e => by subst ese; exact pushCells_keeps _ _ _ _ (Heap.get?_push_of_some _ e)
  have own : ∀ {ρ : L2.St} {Hz : Hp} {sz : Shared}, L2.Inv (X.blk sd HB sc env fp) [] ρ Hz sz → (∀ c ∈ fp, Hz c = none) → ∀ c ∈ fp, FpOk (X.blk sd HB sc env fp) [] Hz c := fun {ρ Hz sz} iz nz c hc =>
    ⟨nz c hc, (iz.ok.exf c hc).1, iz.ok.exfs c hc, .inl hc, fun x y e => (iz.ok.exf c hc).2 x y e, fun p hp => absurd (show p ∈ ([] : List (Addr × Obj)) ++ [] from hp) (by simp)⟩
  let St := fun (n : Nat) (sz : Shared) => ∃ i Hz, L2.Inv (X.blk sd HB sc env fp) [] (L2.wipe σ (ol.map (·.2))) Hz sz ∧ at_ i sz.heap ∧ (∀ c ∈ fp, Hz c = none) ∧ W i n Hz
  suffices loop : codeAny (model X.prog X.w) X.A (.compLoop (.DictComp kx vx [⟨tgt, src, cs, 0⟩] sc pos) 0 (.ref it) (.ref N) env) (compPost (model X.prog X.w) X.A X.xe none _ (.ref N) sd.heap.objs.size) se from
    codeAny_compStart_dict loop (T.self X.A 0 _ _ _ stC loop)
  refine compLoop_anyD St ?_ m0 ⟨0, HB, invC, stC, gone, w0⟩
  rintro n sf ⟨i, Hf, invF, stF, goneF, wF⟩
  rcases turns i n Hf wF with ⟨stop, done⟩ | ⟨go, Go, next, each⟩
  · refine thnF (T.done (X.blk sd HB sc env fp) rfl rfl rfl calm i [] sf _ Hf (fun _ _ => False) invF (own invF goneF) stF stop) fun o sg ⟨eo, invG⟩ => ?_
    subst eo
    have back : L2.Inv X pins σ Hf sg := invB.call' (ch := fp) invG.os invG.base invG.hok invG.bare fun c hc => by
      obtain ⟨⟨_, f1, _, f3, f4, f5⟩, _⟩ := fpB c hc
      exact ⟨f3, f1, f4, f5⟩
    have noC : Hf sd.heap.objs.size = none := by
      have := invG.free
      rw [show (X.blk sd HB sc env fp).env.locals = sd.heap.objs.size from loc] at this
      exact this
    obtain ⟨mm, ns, _⟩ := invG.loc
    rw [show (X.blk sd HB sc env fp).env.locals = sd.heap.objs.size from loc] at ns
    refine ⟨mm, ns, fun h'' same => ?_⟩
    obtain ⟨f0, f1, _, f3, f4, f5⟩ := invB.fpOk (Nat.le_refl _) noC
    exact ⟨.ref N, Hf, back.turned (t' := sg.toks) (fun c o hc e => (same.2 c hc).trans e) f0 f1 f3 f4 f5, rfl, done⟩
  · refine thnF (T.item (X.blk sd HB sc env fp) rfl rfl rfl calm i [] sf _ Hf (fun _ _ => False) invF (own invF goneF) stF go) fun o sg ⟨u, eo, hg⟩ => ?_
    subst eo
    refine thnF hg fun _ sh ⟨x, Hh, invH, rx, yx, stH, goneH⟩ => ?_
    have pinned := invH.pinned (own invH goneH) (T.obj _ _ stH)
    refine thnF (gG.run _ sh _ Hh x u _ pinned rx (each x Hh yx)) fun _ si ⟨ρ, Hi, invI, wipes, qi⟩ => thnF (gC.run _ si ρ Hi _ invI qi) fun c sj ⟨Hj, invJ, qj⟩ => ?_
    have close : ∀ {sz : Shared} {Hz : Hp}, L2.Inv (X.blk sd HB sc env fp) ([] ++ pinsAt fp sh.heap) ρ Hz sz → Go Hz → ∃ l, l < n ∧ St l sz := fun {sz Hz} iz gz => by
      obtain ⟨l, hl, wz⟩ := next Hz gz
      have kept : ∀ c ∈ fp, ∀ o, sh.heap.get? c = some o → sz.heap.get? c = some o ∧ Hz c = none := fun c hc o e => by
        obtain ⟨z1, z2, _⟩ := iz.pin (c, o) (List.mem_append_right _ (List.mem_append_right _ (mem_pinsAt hc e)))
        exact ⟨z1, z2⟩
      refine ⟨l, hl, i + 1, Hz, (iz.unpinned (pins := [])).weak (by rw [← wipes, wipe_length]) (fun j v e => ?_), T.keep _ _ _ stH fun c hc o e => (kept c hc o e).1, fun c hc => ?_, wz⟩
      · rw [← wipes] at e
        exact (wipe_some e).1
      · obtain ⟨o, e, _⟩ := T.obj _ _ stH c hc
        exact (kept c hc o e).2
    cases c with
    | false =>
      simp only [Bool.false_eq_true, if_false] at qj ⊢
      exact close invJ qj
    | true =>
      simp only [if_true] at qj ⊢
      refine thnF (gK.run _ sj ρ Hj _ invJ qj) fun kv sk ⟨y, Hk, invK, ry, qk⟩ => thnF (gV.run _ sk ρ Hk _ invK qk) fun vv sl ⟨z, Hl, invL, rz, es, nk, q, ey, hN, hks, hlen, hik, gl⟩ => ?_
      subst ey
      obtain rfl : kv = Value.ref q := ry
      exact n_dictSet (X := X.blk sd HB sc env fp) hu invL hN hks hlen hik rz fun sm invM => close invM gl
end
section
variable {K : Kx} {O : Ow} {H0 H H' : Hp} {σ τ : L2.St} {env env' ts : Nv}
/-- the last on the way, a dict of one's own, is written anew -/
theorem Sg.writeDT {a : Addr} {io : Bool} {kvs kvs' : List (Dt × Dt)} {es es' : List Ent} (S : Sg K O H0 H σ env (τ ++ [some (.ref a)]) (ts ++ [some (.od io kvs)])) (hd : H a = some (dN K.w a es)) (r : RpD K H kvs' es') :
    Sg K O H0 (upd H a (dN K.w a es')) σ env (τ ++ [some (.ref a)]) (ts ++ [some (.od io kvs')]) := by
  have l2 := S.len2
  simp only [List.length_append, List.length_cons, List.length_nil] at l2
  have h0 := S.st
  have e1 : (env ++ (ts ++ [some (Sl.od io kvs)]))[env.length + ts.length]? = some (some (Sl.od io kvs)) := by
    rw [List.getElem?_append_right (by omega), show env.length + ts.length - env.length = ts.length from by omega]
    exact get_last rfl
  have e2 : (σ ++ (τ ++ [some (V.ref a)]))[env.length + ts.length]? = some (some (V.ref a)) := by
    have := S.le
    rw [List.getElem?_append_right (by omega), show env.length + ts.length - σ.length = τ.length from by omega]
    exact get_last rfl
  have h := h0.step (s' := .od io kvs') e1 e2 (H' := upd H a (dN K.w a es')) (.ext hd) (fun b hb => live_upd hb) (fun fp h => by
    obtain ⟨a2, es2, e, rfl, _⟩ := h
    cases e
    exact ⟨fun b u hb q => by rw [upd_ne (fun z => hb (by simp [z]))]; exact q, [a], ⟨a, es', rfl, rfl, upd_same, r.kp (.ext hd)⟩, fun b hb => .inl hb⟩) id
  rw [List.set_append_right _ _ (by omega), show env.length + ts.length - env.length = ts.length from by omega, List.set_append_right _ _ (Nat.le_refl _), Nat.sub_self] at h
  exact ⟨h, S.le⟩
theorem Sg.topD {v : V} {io : Bool} {kvs : List (Dt × Dt)} (S : Sg K O H0 H σ env (τ ++ [some v]) (ts ++ [some (.od io kvs)])) : ∃ p es, v = .ref p ∧ H p = some (dN K.w p es) ∧ RpD K H kvs es := by
  obtain ⟨_, p, es, e, _, h1, h2⟩ := S.top
  exact ⟨p, es, e, h1, h2⟩
end
def dcD (vs : List Nat) (g : GF) (c : TF) (fk fv : EF) : List Dt → Nv → List (Dt × Dt) → Option (List (Dt × Dt) × Nv)
  | [], env, acc => some (acc, env)
  | d :: ds, env, acc => match g d env with
    | some e1 => match c e1 with
      | some (true, e2) => match fk e2 with
        | some (key, e3) => match fv e3 with
          | some (v, e4) => match keyOf key with
            | some k => dcD vs g c fk fv ds (wip e4 vs) (putD acc key k v)
            | none => none
          | none => none
        | none => none
      | some (false, e2) => dcD vs g c fk fv ds (wip e2 vs) acc
      | none => none
    | none => none
def nDc (vs : List Nat) (it : NF) (g : GF) (c : TF) (fk fv : EF) : DF := fun env => match it env with
  | some (ds, e) => if ds.length < 10000000 then dcD vs g c fk fv ds (wip e vs) [] else none
  | none => none
section
variable {J : It} {n : Nat} {G : Hp → Prop} {Y : Nat → Hp → V → Hp → Prop}
theorem dcN_it (w : Walk J n G Y) {K : Kx} {tg : TG} {tc : TT} {tk tv : TE} {vs : List Nat} {σ : L2.St} {H1 : Hp} {N : Addr} {Qd : Hp → Prop} (Pv : Nat → Hp → Prop) (h0 : Pv 0 (upd H1 N (dN K.w N []))) (hG : ∀ i H, i ≤ n → Pv i H → G H)
    (hs : ∀ i x H H', i < n → Pv i H → Y i H x H' → tg x (L2.wipe σ vs) H' fun ρ Hd => L2.wipe ρ vs = L2.wipe σ vs ∧ tc ρ Hd fun c He => if c = true then tk ρ He fun y Hf => tv ρ Hf fun z Hg =>
      ∃ es k q, y = .ref q ∧ Hg N = some (dN K.w N es) ∧ KeysOk K Hg es ∧ es.length < sizeLine ∧ IsK K Hg y k ∧ Pv (i + 1) (upd Hg N (dN K.w N (putE es k q z))) else Pv (i + 1) He) (hd : ∀ H, Pv n H → Qd H) :
    ∃ W : Nat → Nat → Hp → Prop, (∃ m, W 0 m (upd H1 N (dN K.w N []))) ∧ ∀ i m Hb, W i m Hb → (J.stop i Hb ∧ Qd Hb) ∨ (J.go i Hb ∧ ∃ Go : Hp → Prop, (∀ Hc, Go Hc → ∃ l, l < m ∧ W (i + 1) l Hc) ∧
      ∀ x Hc, J.yld i Hb x Hc → tg x (L2.wipe σ vs) Hc fun ρ Hd => L2.wipe ρ vs = L2.wipe σ vs ∧ tc ρ Hd fun c He => if c = true then tk ρ He fun y Hf => tv ρ Hf fun z Hg =>
        ∃ es k q, y = .ref q ∧ Hg N = some (dN K.w N es) ∧ KeysOk K Hg es ∧ es.length < sizeLine ∧ IsK K Hg y k ∧ Go (upd Hg N (dN K.w N (putE es k q z))) else Go He) := by
  refine ⟨fun i m H => m + i = n ∧ Pv i H, ⟨n, rfl, h0⟩, fun i m Hb hw => ?_⟩
  obtain ⟨hm, p⟩ := hw
  have q := hG i Hb (by omega) p
  by_cases hi : i < n
  · exact .inr ⟨w.goes i Hb hi q, Pv (i + 1), fun Hc pc => ⟨m - 1, by omega, by omega, pc⟩, fun x Hc y => hs i x Hb Hc hi p (w.yields i Hb x Hc hi q y)⟩
  · obtain rfl : i = n := by omega
    exact .inl ⟨w.stops Hb q, hd Hb p⟩
end
theorem putD_len (kvs : List (Dt × Dt)) (key : Dt) (k : NestedKey) (v : Dt) : (putD kvs key k v).length ≤ kvs.length + 1 := by
  unfold putD
  split <;> simp
theorem runs_dc {K : Kx} {wi : TI} {it : NF} {g : GF} {c : TF} {fk fv : EF} {vs gs : List Nat} (h2 : RunsL K wi it) (hgs : ∀ j ∈ gs, j ∈ vs) : RunsD K (tDcN K wi (cG K gs g) (cT K c) (cI K fk) (cI K fv) vs) (nDc vs it g c fk fv) := by
  intro O H0 H σ env τ ts out env' Q S h k
  unfold nDc at h
  split at h
  · rename_i ds e0 he0
    split at h
    · rename_i hlen
      refine h2 O H0 H σ env τ ts ds e0 _ S he0 fun J H1 vs1 ss1 G Y w r1 S1 hG hY => ?_
      intro N hN
      have hl1 : vs1.length = ss1.length := r1.length
      have fx1 := r1.fix
      let τ1 := τ ++ (vs1.map some).reverse
      let ts1 := ts ++ (ss1.map some).reverse
      have S2 := ((S1.pushPin r1).wipe vs).pushD hN
      refine dcN_it w (fun i H => ∃ acc e, Sg K O H0 H (L2.wipe σ vs) (wip e vs) (τ1 ++ [some (.ref N)]) (ts1 ++ [some (.od false acc)]) ∧ acc.length ≤ i ∧ dcD vs g c fk fv (ds.drop i) (wip e vs) acc = some (out, env'))
        ⟨[], e0, S2, Nat.le_refl _, h⟩ (fun i H _ ⟨acc, e, S, _, _⟩ => hG H (Sg.argsP hl1 fx1 S.pop).1) (fun i x H H' hi ⟨acc, e, S, hacc, hf⟩ y => ?_) (fun H ⟨acc, e, S, hacc, hf⟩ => ?_)
      · have hd : ds.drop i = ds[i] :: ds.drop (i + 1) := List.drop_eq_getElem_cons hi
        rw [hd] at hf
        unfold dcD at hf
        obtain ⟨sm, rx⟩ := hY i ds[i] x H H' (List.getElem?_eq_getElem hi) (Sg.argsP hl1 fx1 S.pop).1 y
        have S' := (S.same sm).push rx
        split at hf
        · rename_i e1 he1
          refine ⟨O, H0, _, _, _, _, e1, S', he1, fun σ2 Sa la ja => ?_⟩
          have hw2 : L2.wipe σ2 vs = L2.wipe σ vs := by
            have := wipe_eq (vs := vs) (σ := L2.wipe σ vs) la fun j hj => ja j fun z => hj (hgs j z)
            rw [this]
            exact wipe_eq (by rw [wipe_length]) fun j hj => wipe_get hj
          refine ⟨hw2, ?_⟩
          split at hf
          · rename_i e2 he2
            refine ⟨O, H0, e1, _, _, true, e2, Sa, he2, fun H3 Sb => ?_⟩
            show (if true = true then _ else _)
            rw [if_pos rfl]
            split at hf
            · rename_i key e3 he3
              refine ⟨O, H0, e2, _, _, key, e3, Sb, he3, fun yv H4 Sc => ?_⟩
              split at hf
              · rename_i v e4 he4
                refine ⟨O, H0, e3, _, _, v, e4, Sc, he4, fun zv H5 Sd => ?_⟩
                split at hf
                · rename_i nk hnk
                  have rv := Sd.rp
                  have Se := Sd.pop
                  have ry := Se.rp
                  obtain ⟨D', es, eD, hD, rD⟩ := Se.pop.topD
                  cases eD
                  obtain ⟨bb, rfl⟩ := IsK.ref (K := K) (H := H5) (k := nk) ⟨key, hnk, ry⟩
                  refine ⟨es, nk, bb, rfl, hD, rD.toK.keysOk, Nat.lt_of_le_of_lt (by rw [rD.length]; exact hacc) (Nat.lt_trans hi (Nat.lt_trans hlen (by decide))), ⟨key, hnk, ry⟩, putD acc key nk v, e4, ?_, ?_, hf⟩
                  · have Sf := (Se.pop.writeDT hD (rD.put hnk ry rv)).wipe vs
                    rw [hw2] at Sf
                    exact Sf
                  · have := putD_len acc key nk v
                    omega
                · cases hf
              · cases hf
            · cases hf
          · rename_i e2 he2
            refine ⟨O, H0, e1, _, _, false, e2, Sa, he2, fun H3 Sb => ?_⟩
            show (if false = true then _ else _)
            rw [if_neg (by decide)]
            have Sf := Sb.wipe vs
            rw [hw2] at Sf
            exact ⟨acc, e2, Sf, by omega, hf⟩
          · cases hf
        · cases hf
      · rw [List.drop_length] at hf
        cases hf
        have Su := S.unwipe
        refine k _ H ?_
        have Sm : Sg K O H0 H σ (wip e vs) (τ ++ ((vs1.map some).reverse ++ [some (.ref N)])) (ts ++ ((ss1.map some).reverse ++ [some (.od false out)])) := by
          have := Su
          simp only [τ1, ts1, List.append_assoc] at this
          exact this
        exact Sm.mid S1.len2 (by simp [hl1])
    · cases h
  · cases h
section
variable {X : Cx} {tg iter key value c : Expr} {pos : Pos} {scope : Scope} {ol : List (Str × Nat)}
theorem ed_dc {it : NF} {g : GF} {fk fv : EF} {gs : List Nat} (hu : X.A.units + 64 < cLine) (hc : X.calm = true) (hN : X.N.Nodup) (hi : EL X tg iter it) (ok : BlkOk X.N X.env.scope scope ol) (hgs : ∀ j ∈ gs, j ∈ ol.map (·.2))
    (hg : ∀ (s : Shared) (H : Hp) (C : Addr) (cl : List (Str × Addr)) (fp : List Addr), EG (X.blk s H scope (compEnvC scope cl C X.env) fp) tg gs g)
    (hk : ∀ (s : Shared) (H : Hp) (C : Addr) (cl : List (Str × Addr)) (fp : List Addr), EI (X.blk s H scope (compEnvC scope cl C X.env) fp) key fk)
    (hv : ∀ (s : Shared) (H : Hp) (C : Addr) (cl : List (Str × Addr)) (fp : List Addr), EI (X.blk s H scope (compEnvC scope cl C X.env) fp) value fv) (hs : ∀ x, foldedSetIterable iter X.env x = pure x := by intro _; rfl) :
    ED X (.DictComp key value [⟨tg, iter, [], 0⟩] scope pos) (nDc (ol.map (·.2)) it g tYesF fk fv) := by
  obtain ⟨wi, h1, h2⟩ := hi
  exact ⟨_, pe_dcN hu hc hN h1 ok (fun s H C cl fp => (hg s H C cl fp).can) (fun s H C cl fp => pts_yes) (fun s H C cl fp => (hk s H C cl fp).can) (fun s H C cl fp => (hv s H C cl fp).can) hs, runs_dc h2 hgs⟩
theorem ed_dcI {it : NF} {g : GF} {t : TF} {fk fv : EF} {gs : List Nat} (hu : X.A.units + 64 < cLine) (hc : X.calm = true) (hN : X.N.Nodup) (hi : EL X tg iter it) (ok : BlkOk X.N X.env.scope scope ol) (hgs : ∀ j ∈ gs, j ∈ ol.map (·.2))
    (hg : ∀ (s : Shared) (H : Hp) (C : Addr) (cl : List (Str × Addr)) (fp : List Addr), EG (X.blk s H scope (compEnvC scope cl C X.env) fp) tg gs g)
    (ht : ∀ (s : Shared) (H : Hp) (C : Addr) (cl : List (Str × Addr)) (fp : List Addr), ET (X.blk s H scope (compEnvC scope cl C X.env) fp) c t)
    (hk : ∀ (s : Shared) (H : Hp) (C : Addr) (cl : List (Str × Addr)) (fp : List Addr), EI (X.blk s H scope (compEnvC scope cl C X.env) fp) key fk)
    (hv : ∀ (s : Shared) (H : Hp) (C : Addr) (cl : List (Str × Addr)) (fp : List Addr), EI (X.blk s H scope (compEnvC scope cl C X.env) fp) value fv) (hs : ∀ x, foldedSetIterable iter X.env x = pure x := by intro _; rfl) :
    ED X (.DictComp key value [⟨tg, iter, [c], 0⟩] scope pos) (nDc (ol.map (·.2)) it g t fk fv) := by
  obtain ⟨wi, h1, h2⟩ := hi
  exact ⟨_, pe_dcN hu hc hN h1 ok (fun s H C cl fp => (hg s H C cl fp).can) (fun s H C cl fp => pts_one (ht s H C cl fp).can) (fun s H C cl fp => (hk s H C cl fp).can) (fun s H C cl fp => (hv s H C cl fp).can) hs, runs_dc h2 hgs⟩
end
def B_lowest_l1 : SF := (sPar [2, 3] (aI (eVar 3) (aI (eOp dMod (eVar 2) (eVar 3)) aNil)))
def B_lowest : SF := (sSeq (sPar [2, 3] (aI (eCall dAbs (aI (eVar 0) aNil)) (aI (eVar 1) aNil)))
    (sSeq (whileD (tVal (eOp dGt (eVar 3) (eC (.int 0)))) B_lowest_l1 1000000)
    (sRet (eTup (aI (eOp dFdiv (eVar 0) (eVar 2)) (aI (eOp dFdiv (eVar 1) (eVar 2)) aNil))))))
def F_lowest : List Dt → Option Dt := fnP 2 2 B_lowest
def B_is_more : SF := (sRet (eOp dGt (eOp dMul (eOp dIx (eVar 0) (eC (.int 0))) (eOp dIx (eVar 1) (eC (.int 1)))) (eOp dMul (eOp dIx (eVar 1) (eC (.int 0))) (eOp dIx (eVar 0) (eC (.int 1))))))
def F_is_more : List Dt → Option Dt := fnP 2 0 B_is_more
def B_sums_of_l1 : SF := (sSeq (sSet 9 (eOp dAdd (eGetV 4 (eVar 5)) (eVar 8)))
    (sIf (tOrF (tVal (eInV true (eVar 7) 3)) (tVal (eOp dGt (eVar 9) (eGetV 3 (eVar 7))))) (sPutV 3 (eVar 7) (eVar 9)) sSkip))
def B_sums_of_l2 : SF := (sFor (itD (eGetV 0 (eVar 5))) (gTp (gsCons (gNm 6) (gsCons (gNm 7) (gsCons (gNm 8) gsNil)))) B_sums_of_l1)
def B_sums_of_l3 : SF := (sSeq (sPar [3, 4] (aDn dEmp (aI (eOpV dIx 1 (eUn dNeg (eC (.int 1)))) aNil)))
    (sSeq (sFor (itK (eVarD 4)) (gNm 5) B_sums_of_l2)
    (sApp 1 (eVarD 3))))
def B_sums_of : SF := (sSeq (sNew 1 (nLst (aI (eNewD (nDc [5] (itK (eVarD 0)) (gNm 5) tYesF (eVar 5) (eC (.int 0)))) aNil)))
    (sSeq (sFor (itR (aI (eCall dLenN (aI (eVarD 0) aNil)) aNil)) (gNm 2) B_sums_of_l3)
    (sRet (eVar 1))))
def F_sums_of : List Dt → Option Dt := fnP 1 9 B_sums_of
def B_mean_of_l1 : SF := (sIf (tVal (eOp (dInN false) (eVar 4) (eOp dIx (eVar 1) (eVar 6)))) (sSeq (sSet 7 (eTup (aI (eOp dSub (eOp dGetN (eOp dIx (eVar 1) (eVar 2)) (eVar 4)) (eOp dGetN (eOp dIx (eVar 1) (eVar 6)) (eVar 4))) (aI (eOp dSub (eVar 2) (eVar 6)) aNil))))
    (sIf (tOrF (tVal (eOp dIs (eVar 5) (eC .none))) (tVal (eCall F_is_more (aI (eVar 5) (aI (eVar 7) aNil))))) (sSet 5 (eVar 7)) sSkip)) sSkip)
def B_mean_of_l2 : SF := (sSeq (sSet 5 (eC .none))
    (sSeq (sFor (itR (aI (eVar 2) aNil)) (gNm 6) B_mean_of_l1)
    (sIf (tOrF (tVal (eOp dIs (eVar 3) (eC .none))) (tVal (eCall F_is_more (aI (eVar 5) (aI (eVar 3) aNil))))) (sSet 3 (eVar 5)) sSkip)))
def B_mean_of : SF := (sSeq (sPar [1, 2, 3] (aI (eCall F_sums_of (aI (eVarD 0) aNil)) (aI (eCall dLenN (aI (eVarD 0) aNil)) (aI (eC .none) aNil))))
    (sSeq (sFor (itK (eOp dIx (eVar 1) (eVar 2))) (gNm 4) B_mean_of_l2)
    (sRet (eCall F_lowest (aI (eOp dIx (eVar 3) (eC (.int 0))) (aI (eOp dIx (eVar 3) (eC (.int 1))) aNil))))))
def F_mean_of : List Dt → Option Dt := fnP 1 7 B_mean_of
def B_greatest_loss : SF := (sSeq (sExpr (eCall F_need_both (aI (eVar 0) (aI (eVar 1) aNil))))
    (sRet (eCall F_mean_of (aI (eCall F_worths (aI (eVar 0) (aI (eVar 1) (aI (eC (.bool false)) aNil)))) aNil))))
def F_greatest_loss : List Dt → Option Dt := fnP 2 0 B_greatest_loss
def B_greatest_vain : SF := (sSeq (sExpr (eCall F_need_both (aI (eVar 0) (aI (eVar 1) aNil))))
    (sRet (eCall F_mean_of (aI (eCall F_worths (aI (eVar 0) (aI (eVar 1) (aI (eC (.bool true)) aNil)))) aNil))))
def F_greatest_vain : List Dt → Option Dt := fnP 2 0 B_greatest_vain
/-! ### the law's own ticks -/
abbrev lnD (l : List Int) : Dt := .list (l.map PyData.int)
theorem dSum_l (l : List Int) : dSum [lnD l] = some (.int l.sum) := by simp only [dSum, lnD, intsOf_map]
theorem dLen_l (l : List Int) : dLen [lnD l] = some (.int (l.length : Int)) := by simp only [dLen, lnD, List.length_map]
theorem dIs_eO (l : Option Int) : dIs (eO l) .none = some (.bool l.isNone) := by cases l <;> rfl
theorem dIsn_eO (l : Option Int) : dIsn (eO l) .none = some (.bool l.isSome) := by cases l <;> rfl
theorem index2 (a b : Int) (h : a ≠ b) : dIndex (.list [.int a, .int b]) (.int (min a b)) = some (.int (if a < b then 0 else 1)) := by
  have e : intsOf [.int a, .int b] = some [a, b] := rfl
  unfold dIndex
  simp only [e]
  by_cases hab : a < b
  · rw [show min a b = a by omega, if_pos hab]
    simp [List.idxOf, List.findIdx, List.findIdx.go]
  · rw [show min a b = b by omega, if_neg hab]
    have : (a == b) = false := by simpa using h
    simp [List.idxOf, List.findIdx, List.findIdx.go, this]
set_option maxHeartbeats 4000000 in
theorem law_named_ok {r : Ru} {l0 l1 : List Int} {last : Option Int} {job : Int} (hp : LastOk last) (hj : 0 < job) : F__law_named [eRu r, .list [lnD l0, lnD l1], eO last, .int job] = some (.int (namedM r (l0, l1, last) job)) := by
  obtain ⟨w, n⟩ := r
  have hlen : ((0 + 1 + 1 : Nat) < 10000000) = True := eq_true (by decide)
  have ls : lcD [10] (gNm 10) tYesF (eCall dSum (aI (eVar 10) aNil)) [lnD l0, lnD l1] [some (.im (eRu (w, n))), some (.im (.list [lnD l0, lnD l1])), some (.im (eO last)), some (.im (.int job)), some (.im (.str (wS w))), some (.im (.int n)), none, none, none, none, none] =
      some ([.int l0.sum, .int l1.sum], [some (.im (eRu (w, n))), some (.im (.list [lnD l0, lnD l1])), some (.im (eO last)), some (.im (.int job)), some (.im (.str (wS w))), some (.im (.int n)), none, none, none, none, none]) := by
    wp_walk using lcD, dSum_l
  have ll : lcD [10] (gNm 10) tYesF (eCall dLen (aI (eVar 10) aNil)) [lnD l0, lnD l1] [some (.im (eRu (w, n))), some (.im (.list [lnD l0, lnD l1])), some (.im (eO last)), some (.im (.int job)), some (.im (.str (wS w))), some (.im (.int n)), none, none, none, none, none] =
      some ([.int (l0.length : Int), .int (l1.length : Int)], [some (.im (eRu (w, n))), some (.im (.list [lnD l0, lnD l1])), some (.im (eO last)), some (.im (.int job)), some (.im (.str (wS w))), some (.im (.int n)), none, none, none, none, none]) := by
    wp_walk using lcD, dLen_l
  unfold F__law_named B__law_named namedM lessM lineOf
  unfold eRu at ls ll ⊢
  simp only at ls ll ⊢
  have q1 : (Str.ofString "turns") = wS .turns := rfl
  have q2 : (Str.ofString "sizes") = wS .sizes := rfl
  have q3 : (Str.ofString "fill") = wS .fill := rfl
  have q4 : (Str.ofString "stay") = wS .stay := rfl
  have q5 : (Str.ofString "least") = wS .least := rfl
  have le : ∀ x : Int, (x ≤ n) = ¬ (n < x) := fun x => by rw [eq_iff_iff]; omega
  cases w with
  | turns => rcases hp with h | h | h <;> subst h <;> simp only [eO] at * <;> wp_walk using dEq_str, weq, q1, reduceCtorEq, dIs, ls, ll, hlen
  | sizes =>
    by_cases hj1 : job = 1
    · have : (job < 2) = True := eq_true (by omega)
      wp_walk using dEq_str, weq, q1, q2, reduceCtorEq, dIs, this, ls, ll, hlen
      rw [if_pos hj1]
    · have : (job < 2) = False := eq_false (by omega)
      wp_walk using dEq_str, weq, q1, q2, reduceCtorEq, dIs, this, ls, ll, hlen
      rw [if_neg hj1]
  | fill =>
    by_cases hk : n < l0.sum + job <;> wp_walk using dEq_str, weq, q1, q2, q3, reduceCtorEq, ls, ll, hlen, le, hk, not_true_eq_false, not_false_eq_true
  | stay =>
    have z1 : ((1 : Int) = 0) = False := eq_false (by decide)
    rcases hp with h | h | h <;> subst h <;> simp only [eO] at *
    · by_cases hk : n < l0.sum + job <;> wp_walk using dEq_str, weq, q1, q2, q3, q4, reduceCtorEq, dIsn, ls, ll, hlen, le, hk, not_true_eq_false, not_false_eq_true, Int.sub_zero
    · by_cases hk : n < l0.sum + job <;> wp_walk using dEq_str, weq, q1, q2, q3, q4, reduceCtorEq, dIsn, ls, ll, hlen, le, hk, not_true_eq_false, not_false_eq_true
    · by_cases hk : n < l1.sum + job <;> wp_walk using dEq_str, weq, q1, q2, q3, q4, reduceCtorEq, dIsn, ls, ll, hlen, le, hk, not_true_eq_false, not_false_eq_true, z1
  | least =>
    by_cases hk : l0.sum = l1.sum
    · wp_walk using dEq_str, weq, q1, q2, q3, q4, q5, reduceCtorEq, ls, ll, hlen, hk
    · wp_walk using dEq_str, weq, q1, q2, q3, q4, q5, reduceCtorEq, ls, ll, hlen, hk, dMin_l2, index2 _ _ hk
  | fewer =>
    by_cases hk : (l0.length : Int) = (l1.length : Int)
    · wp_walk using dEq_str, weq, q1, q2, q3, q4, q5, reduceCtorEq, ls, ll, hlen, hk
    · wp_walk using dEq_str, weq, q1, q2, q3, q4, q5, reduceCtorEq, ls, ll, hlen, hk, dMin_l2, index2 _ _ hk

def decM : List Int → List Int
  | [] => []
  | x :: r => (x - 1) :: r
theorem dNe_nil (l : List Int) : dNe (.list (l.map PyData.int)) (.list []) = some (.bool (!l.isEmpty)) := by
  rw [dNe_ok (okD_ints l) rfl]
  cases l <;> rfl
theorem row_ok {d0 d1 d2 d3 d5 d6 d7 d8 : Dt} {o9 o10 : Option Sl} (l : List Int) :
    B__law_tick_l1 [some (.im d0), some (.im d1), some (.im d2), some (.im d3), none, some (.im d5), some (.im d6), some (.im d7), some (.im d8), o9, o10, some (.ow false (l.map PyData.int)), none, none] =
      some (.nx [some (.im d0), some (.im d1), some (.im d2), some (.im d3), none, some (.im d5), some (.im d6), some (.im d7), some (.im d8), o9, o10, some (.ow false ((decM l).map PyData.int)), none, none]) := by
  unfold B__law_tick_l1
  cases l with
  | nil =>
    have h := dNe_nil []
    simp only [List.map] at h
    wp_walk using h, List.isEmpty, decM
  | cons x r =>
    have h := dNe_nil (x :: r)
    simp only [List.map] at h
    wp_walk using h, List.isEmpty, decM
theorem noIo_im (d : Dt) : noIo (some (.im d)) = true := rfl
theorem noIo_ow (ds : List Dt) : noIo (some (.ow false ds)) = true := rfl
theorem noIo_none : noIo none = true := rfl
theorem rows_ok {d0 d1 d2 d3 d5 d6 d7 d8 : Dt} {o9 o10 : Option Sl} (h9 : noIo o9 = true) (h10 : noIo o10 = true) (l0 l1 : List Int) :
    forL 4 11 B__law_tick_l1 [l0.map PyData.int, l1.map PyData.int] [some (.im d0), some (.im d1), some (.im d2), some (.im d3), none, some (.im d5), some (.im d6), some (.im d7), some (.im d8), o9, o10, none, none, none] =
      some ([(decM l0).map PyData.int, (decM l1).map PyData.int], [some (.im d0), some (.im d1), some (.im d2), some (.im d3), none, some (.im d5), some (.im d6), some (.im d7), some (.im d8), o9, o10, none, none, none]) := by
  simp only [forL, List.set_cons_zero, List.set_cons_succ, row_ok, owAt, offAt, List.getElem?_cons_zero, List.getElem?_cons_succ, List.all_cons, List.all_nil, noIo_im, noIo_ow, noIo_none, Bool.and_true, Bool.true_and, h9, h10, if_true, Bool.and_self]
theorem pos_filter (l : List Int) (h : LnOk l) : (decM l).filter (fun x => decide (0 < x)) = workedM l := by
  cases l with
  | nil => rfl
  | cons x r =>
    have h1 := h x List.mem_cons_self
    have hr : r.filter (fun x => decide (0 < x)) = r := by
      rw [List.filter_eq_self]
      intro y hy
      have := h y (List.mem_cons_of_mem _ hy)
      exact decide_eq_true (by omega)
    show List.filter _ ((x - 1) :: r) = (if x = 1 then r else (x - 1) :: r)
    by_cases hx : x = 1
    · rw [if_pos hx, List.filter_cons_of_neg (by subst hx; decide), hr]
    · rw [if_neg hx, List.filter_cons_of_pos (p := fun x => decide (0 < x)) (decide_eq_true (by omega)), hr]

/-- a state of the law: the lines, and the hand that was named last (never forgotten) -/
def eLSt (p : Pl) : Dt := .tuple [.tuple [eL p.1, eL p.2.1], eO p.2.2]
def lplaceM (room : Int) (r : Ru) (p : Pl) (job : Int) : Pl := (workedM (linesM room r p job).1, workedM (linesM room r p job).2, lastM r p job)
def ltickM (room : Int) (r : Ru) (p : Pl) (job : Int) : Tk := (lplaceM room r p job, noteM room r p job, cntM room r p job)
def eLTk (t : Tk) : Dt := .tuple [eLSt t.1, eNo t.2.1, .int t.2.2.1, .int t.2.2.2]
theorem seq_L (l : List Int) : seqOf [eL l] = some (l.map PyData.int) := rfl
theorem eLSt_0 (p : Pl) : dIx (eLSt p) (.int 0) = some (.tuple [eL p.1, eL p.2.1]) := atI_0 _ _
theorem eLSt_1 (p : Pl) : dIx (eLSt p) (.int 1) = some (eO p.2.2) := atI_1 _ _ _
theorem filt_ok {d0 d1 d2 d3 d4 d5 d6 d7 d8 : Dt} {o9 o10 : Option Sl} (l : List Int) (h : LnOk l) :
    lcD [13] (gNm 13) (tVal (eOp dGt (eVar 13) (eC (.int 0)))) (eVar 13) ((decM l).map PyData.int) [some (.im d0), some (.im d1), some (.im d2), some (.im d3), some (.im d4), some (.im d5), some (.im d6), some (.im d7), some (.im d8), o9, o10, some (.im (.list ((decM l).map PyData.int))), none, none] =
      some ((workedM l).map PyData.int, [some (.im d0), some (.im d1), some (.im d2), some (.im d3), some (.im d4), some (.im d5), some (.im d6), some (.im d7), some (.im d8), o9, o10, some (.im (.list ((decM l).map PyData.int))), none, none]) := by
  have key := lcD_filt (vs := [13]) (g := gNm 13) (c := tVal (eOp dGt (eVar 13) (eC (.int 0)))) (f := eVar 13) (env := [some (.im d0), some (.im d1), some (.im d2), some (.im d3), some (.im d4), some (.im d5), some (.im d6), some (.im d7), some (.im d8), o9, o10, some (.im (.list ((decM l).map PyData.int))), none, none]) PyData.int PyData.int (fun x => decide (0 < x)) (decM l) fun x _ => ⟨_, rfl, rfl, (by wp_walk using forD), fun _ => rfl⟩
  rw [pos_filter l h] at key
  exact key
theorem dec_len {l : List Int} (hl : l.length ≤ 1000) : ((decM l).length < 10000000) = True := eq_true (by cases l <;> simp [decM] at hl ⊢; omega)
theorem dTuple_l (ds : List Dt) : dTuple [.list ds] = some (.tuple ds) := rfl
def tailB : SF := (sSeq (sForL 4 11 B__law_tick_l1)
    (sSeq (sSet 12 (eCall dTuple (aI (eNew (nLc [11] (itD (eVarL 4)) (gNm 11) tYesF (eCall dTuple (aI (eNew (nLc [13] (itD (eVar 11)) (gNm 13) (tVal (eOp dGt (eVar 13) (eC (.int 0)))) (eVar 13))) aNil)))) aNil)))
    (sRet (eTup (aI (eTup (aI (eVar 12) (aI (eVar 5) aNil))) (aI (eVar 6) (aI (eVar 7) (aI (eVar 8) aNil))))))))
theorem tail_ok {d0 d1 d2 d3 d5 d6 d7 d8 : Dt} {o9 o10 : Option Sl} (h9 : noIo o9 = true) (h10 : noIo o10 = true) (l0 l1 : List Int) (h0 : LnOk l0) (h1 : LnOk l1) (k0 : l0.length ≤ 1000) (k1 : l1.length ≤ 1000) :
    tailB [some (.im d0), some (.im d1), some (.im d2), some (.im d3), some (.ol false [l0.map PyData.int, l1.map PyData.int]), some (.im d5), some (.im d6), some (.im d7), some (.im d8), o9, o10, none, none, none] =
      some (.rt (.tuple [.tuple [.tuple [eL (workedM l0), eL (workedM l1)], d5], d6, d7, d8]) [some (.im d0), some (.im d1), some (.im d2), some (.im d3), some (.im (.list [lnD (decM l0), lnD (decM l1)])), some (.im d5), some (.im d6), some (.im d7), some (.im d8), o9, o10, none, some (.im (.tuple [eL (workedM l0), eL (workedM l1)])), none]) := by
  have hlen : ((0 + 1 + 1 : Nat) < 10000000) = True := eq_true (by decide)
  have q0 := dec_len k0
  have q1 := dec_len k1
  have l11 : ((11 : Nat) < 0 + 1 + 1 + 1 + 1 + 1 + 1 + 1 + 1 + 1 + 1 + 1 + 1 + 1 + 1) = True := eq_true (by decide)
  unfold tailB
  wp_walk using sForL, olAt, l11, rows_ok h9 h10, eVarL, lls, hlen, lcD, filt_ok l0 h0, filt_ok l1 h1, List.length_map, q0, q1, dTuple_l, eL
theorem dMax_0 (a b : Int) : dMax [.int 0, .int (a - b)] = some (.int (a - if b < a then b else a)) := by
  show some (PyData.int (if a - b > 0 then a - b else 0)) = _
  congr 2
  split <;> split <;> omega
theorem tickB : B__law_tick = (sSeq (sPar [4, 5] (aLL (nLcL [11] (itD (eOp dIx (eVar 2) (eC (.int 0)))) (gNm 11) (nCall seqOf (aI (eVar 11) aNil))) (aI (eOp dIx (eVar 2) (eC (.int 1))) aNil)))
    (sSeq (sPar [6, 7, 8] (aI (eC .none) (aI (eC (.int 0)) (aI (eC (.int 0)) aNil))))
    (sSeq (sIf (tVal (eOp dGt (eVar 3) (eC (.int 0)))) (sSeq (sSet 5 (eQ (qBor 4 (qCall F__law_named [(qVar 1), (qVar 4), (qVar 5), (qVar 3)]))))
    (sSeq (sPar [9, 10] (aI (eQ (qBor 4 (qCall dSum [(qOp dIx (qVar 4) (qVar 5))]))) (aI (eQ (qBor 4 (qCall dSum [(qOp dIx (qVar 4) (qOp dSub (qC (.int 1)) (qVar 5)))]))) aNil)))
    (sSeq (sSet 6 (eTup (aI (eVar 5) (aI (eOp dGt (eOp dAdd (eVar 9) (eVar 3)) (eVar 0)) aNil))))
    (sIf (tVal (eOp dIx (eVar 6) (eC (.int 1)))) (sSet 7 (eVar 3)) (sSeq (sSet 8 (eCall dMax (aI (eC (.int 0)) (aI (eOp dSub (eVar 9) (eVar 10)) aNil))))
    (sAppL 4 (qVar 5) (qVar 3))))))) sSkip)
    tailB))) := rfl
set_option maxHeartbeats 4000000 in
theorem law_tick_ok {room : Int} {r : Ru} {p : Pl} {job : Int} (h5 : room ≤ 5) (hr : RuOk r) (hp : PlOk room p) (hj : 0 ≤ job) (hj3 : job ≤ 3) : F__law_tick [.int room, eRu r, eLSt p, .int job] = some (eLTk (ltickM room r p job)) := by
  have hlen : ((0 + 1 + 1 : Nat) < 10000000) = True := eq_true (by decide)
  have la := hp.a.len
  have lb := hp.b.len
  have sa := hp.sa
  have sb := hp.sb
  obtain ⟨ka, kb, _, _⟩ := linesM_ok (r := r) hp hj
  have na := ka.len
  have nb := kb.len
  have ta := fun {d0 d1 d2 d3 d5 d6 d7 d8 : Dt} {o9 o10 : Option Sl} (h9 : noIo o9 = true) (h10 : noIo o10 = true) => tail_ok (d0 := d0) (d1 := d1) (d2 := d2) (d3 := d3) (d5 := d5) (d6 := d6) (d7 := d7) (d8 := d8) h9 h10 _ _ ka kb (by omega) (by omega)
  unfold F__law_tick
  rw [tickB]
  by_cases h0 : 0 < job
  · have hn := law_named_ok (r := r) (l0 := p.1) (l1 := p.2.1) (last := p.2.2) hp.la h0
    have ho := namedM_ok (r := r) (p := p) (job := job) hr hp.la
    have ep : (p.1, p.2.1, p.2.2) = p := rfl
    rw [ep] at hn
    have z1 : ((1 : Int) = 0) = False := eq_false (by decide)
    have z2 : (1 : Int) - 1 = 0 := rfl
    have z3 : (1 : Int) - 0 = 1 := rfl
    have t1 := fun {d0 d1 d2 d3 d5 d6 d7 d8 e9 e10 : Dt} => ta (d0 := d0) (d1 := d1) (d2 := d2) (d3 := d3) (d5 := d5) (d6 := d6) (d7 := d7) (d8 := d8) (o9 := some (.im e9)) (o10 := some (.im e10)) rfl rfl
    have k0 : (p.1.length < 10000000) = True := eq_true (by omega)
    have k1 : (p.2.1.length < 10000000) = True := eq_true (by omega)
    rcases ho with h | h <;> rw [h] at hn
    · by_cases hl : room < p.1.sum + job
      · have hl' : isLost room r p job = true := by unfold isLost; rw [h]; exact decide_eq_true hl
        simp only [linesM, h0, hl', if_true] at t1
        simp only [eLTk, ltickM, lplaceM, linesM, noteM, cntM, lastM, h0, hl', h, if_true]
        wp_walk using aLL, nLcL, lcL, seq_L, eLSt_0, eLSt_1, hlen, h0, eQ, qBor, olAt, lls, qCall, qAll, qVar, hn, atomic, qOp, qC, dSum_l, z2, z3, hl, t1
        rfl
      · have hl' : isLost room r p job = false := by unfold isLost; rw [h]; exact decide_eq_false hl
        simp only [linesM, h0, hl', h, if_true, joinM, if_false, Bool.false_eq_true, List.map_append, List.map] at t1
        simp only [eLTk, ltickM, lplaceM, linesM, noteM, cntM, lastM, h0, hl', h, if_true, joinM, lineOf, z3, z1, if_false, Bool.false_eq_true]
        wp_walk using aLL, nLcL, lcL, seq_L, eLSt_0, eLSt_1, hlen, h0, eQ, qBor, olAt, lls, qCall, qAll, qVar, hn, atomic, qOp, qC, dSum_l, z2, z3, hl, dMax_0, sAppL, List.length_map, k0, t1
        rfl
    · by_cases hl : room < p.2.1.sum + job
      · have hl' : isLost room r p job = true := by unfold isLost lineOf; rw [h, if_neg (by decide)]; exact decide_eq_true hl
        simp only [linesM, h0, hl', if_true] at t1
        simp only [eLTk, ltickM, lplaceM, linesM, noteM, cntM, lastM, h0, hl', h, if_true]
        wp_walk using aLL, nLcL, lcL, seq_L, eLSt_0, eLSt_1, hlen, h0, eQ, qBor, olAt, lls, qCall, qAll, qVar, hn, atomic, qOp, qC, dSum_l, z2, z3, hl, t1
        rfl
      · have hl' : isLost room r p job = false := by unfold isLost lineOf; rw [h, if_neg (by decide)]; exact decide_eq_false hl
        simp only [linesM, h0, hl', h, if_true, joinM, z1, if_false, Bool.false_eq_true, List.map_append, List.map] at t1
        simp only [eLTk, ltickM, lplaceM, linesM, noteM, cntM, lastM, h0, hl', h, if_true, joinM, lineOf, z2, z1, if_false, Bool.false_eq_true]
        wp_walk using aLL, nLcL, lcL, seq_L, eLSt_0, eLSt_1, hlen, h0, eQ, qBor, olAt, lls, qCall, qAll, qVar, hn, atomic, qOp, qC, dSum_l, z2, z3, hl, dMax_0, sAppL, List.length_map, k1, t1
        rfl
  · have t1 := fun {d0 d1 d2 d3 d5 d6 d7 d8 : Dt} => ta (d0 := d0) (d1 := d1) (d2 := d2) (d3 := d3) (d5 := d5) (d6 := d6) (d7 := d7) (d8 := d8) (o9 := none) (o10 := none) rfl rfl
    simp only [linesM, h0, if_false] at t1
    simp only [eLTk, ltickM, lplaceM, linesM, noteM, cntM, lastM, h0, if_false]
    wp_walk using aLL, nLcL, lcL, seq_L, eLSt_0, eLSt_1, hlen, h0, t1
    rfl
theorem lplaceM_ok {room : Int} {r : Ru} {p : Pl} {job : Int} (h3 : 0 ≤ room) (hr : RuOk r) (hp : PlOk room p) (hj : 0 ≤ job) : PlOk room (lplaceM room r p job) := by
  obtain ⟨a, b, sa, sb⟩ := linesM_ok (r := r) hp hj
  refine ⟨a.worked, b.worked, ?_, ?_, ?_⟩
  · show (workedM _).sum ≤ room
    rw [worked_sum a]; omega
  · show (workedM _).sum ≤ room
    rw [worked_sum b]; omega
  · show LastOk (lastM r p job)
    unfold lastM
    split
    · rcases namedM_ok (r := r) (p := p) (job := job) hr hp.la with h | h <;> rw [h]
      · exact .inr (.inl rfl)
      · exact .inr (.inr rfl)
    · exact hp.la
def lgoM (room : Int) (r : Ru) (p : Pl) (js : List Int) : Pl := js.foldl (lplaceM room r) p
def lrunM (room : Int) (r : Ru) : Pl → List Int → List Tk
  | _, [] => []
  | p, j :: js => ltickM room r p j :: lrunM room r (lplaceM room r p j) js
theorem lrunM_length (room : Int) (r : Ru) : ∀ (js : List Int) (p : Pl), (lrunM room r p js).length = js.length
  | [], _ => rfl
  | j :: js, p => by simp [lrunM, lrunM_length room r js]
theorem lrunM_snoc (room : Int) (r : Ru) (x : Int) : ∀ (js : List Int) (p : Pl), lrunM room r p (js ++ [x]) = lrunM room r p js ++ [ltickM room r (lgoM room r p js) x]
  | [], _ => rfl
  | j :: js, p => by
    simp only [List.cons_append, lrunM, lrunM_snoc room r x js]
    rfl
theorem lgoM_snoc (room : Int) (r : Ru) (x : Int) (js : List Int) (p : Pl) : lgoM room r p (js ++ [x]) = lplaceM room r (lgoM room r p js) x := by
  simp [lgoM, List.foldl_append]
theorem lgoM_ok {room : Int} {r : Ru} (h3 : 0 ≤ room) (hr : RuOk r) : ∀ {js : List Int} {p : Pl}, JobsOk js → PlOk room p → PlOk room (lgoM room r p js)
  | [], _, _, hp => hp
  | j :: js, p, hj, hp => lgoM_ok h3 hr (js := js) (fun x hx => hj x (List.mem_cons_of_mem _ hx)) (lplaceM_ok h3 hr hp (hj j List.mem_cons_self).1)
/-- the program's place of a law's state -/
def kM (r : Ru) (p : Pl) : Pl := (p.1, p.2.1, keptM r p.2.2)
theorem kM_named {r : Ru} {p : Pl} {j : Int} : namedM r (kM r p) j = namedM r p j := by
  obtain ⟨w, n⟩ := r
  cases w <;> rfl
theorem kM_tick {room : Int} {r : Ru} {p : Pl} {j : Int} : tickM room r (kM r p) j = (kM r (lplaceM room r p j), noteM room r p j, cntM room r p j) := by
  have e1 : ∀ h, lineOf (kM r p) h = lineOf p h := fun h => rfl
  have e2 : isLost room r (kM r p) j = isLost room r p j := by unfold isLost; rw [kM_named, e1]
  have e3 : noteM room r (kM r p) j = noteM room r p j := by unfold noteM; rw [kM_named, e2]
  have e4 : cntM room r (kM r p) j = cntM room r p j := by unfold cntM; rw [kM_named, e2]; simp only [e1]
  have e5 : linesM room r (kM r p) j = linesM room r p j := by unfold linesM joinM; rw [kM_named, e2]; rfl
  have e6 : keptM r (lastM r (kM r p) j) = keptM r (lastM r p j) := by
    unfold lastM; rw [kM_named]
    split
    · rfl
    · show keptM r (keptM r p.2.2) = _
      unfold keptM; split <;> simp
  unfold tickM placeM
  rw [e3, e4, e5, e6]
  rfl
def kTk (r : Ru) (t : Tk) : Tk := (kM r t.1, t.2)
theorem lrun_run {room : Int} {r : Ru} : ∀ (js : List Int) (p : Pl), runM room r (kM r p) js = (lrunM room r p js).map (kTk r)
  | [], _ => rfl
  | j :: js, p => by
    have h := kM_tick (room := room) (r := r) (p := p) (j := j)
    have h2 : placeM room r (kM r p) j = kM r (lplaceM room r p j) := congrArg Prod.fst h
    unfold runM lrunM
    rw [h2, lrun_run js, h]
    rfl
theorem kM_p0 (r : Ru) : kM r p0 = p0 := by
  unfold kM keptM p0
  simp
theorem lrun_p0 {room : Int} {r : Ru} (js : List Int) : runM room r p0 js = (lrunM room r p0 js).map (kTk r) := by
  have := lrun_run (room := room) (r := r) js p0
  rwa [kM_p0] at this
theorem law_begin_ok : F__law_begin [] = some (eLSt p0) := by rfl
theorem gLTk (t : Tk) {i j k l : Nat} {env : Nv} : gTp (gsCons (gNm i) (gsCons (gNm j) (gsCons (gNm k) (gsCons (gNm l) gsNil)))) (eLTk t) env = some ((((env.set i (some (.im (eLSt t.1)))).set j (some (.im (eNo t.2.1)))).set k (some (.im (.int t.2.2.1)))).set l (some (.im (.int t.2.2.2)))) := rfl
theorem eLTk_fold (t : Tk) : (.tuple [eLSt t.1, eNo t.2.1, .int t.2.2.1, .int t.2.2.2] : Dt) = eLTk t := rfl
theorem law_play_ok {room : Int} {r : Ru} {js : List Int} (h3 : 0 ≤ room) (h5 : room ≤ 5) (hr : RuOk r) (hj : JobsOk js) (hl : js.length ≤ 1000) : F__law_play [.int room, eRu r, .list (js.map PyData.int)] = some (.list ((lrunM room r p0 js).map eLTk)) := by
  have key : ∃ e', forD (gNm 5) B__law_play_l1 (js.map PyData.int)
      [some (.im (.int room)), some (.im (eRu r)), some (.im (.list (js.map PyData.int))), some (.im (eLSt p0)), some (.ow false []), none, none, none, none] = some (.nx e') ∧
      ∃ x5 x6 x7 x8, e' = [some (.im (.int room)), some (.im (eRu r)), some (.im (.list (js.map PyData.int))), some (.im (eLSt (lgoM room r p0 js))), some (.ow false ((lrunM room r p0 js).map eLTk)), x5, x6, x7, x8] := by
    refine forD_all PyData.int (fun pre env => ∃ x5 x6 x7 x8, env = [some (.im (.int room)), some (.im (eRu r)), some (.im (.list (js.map PyData.int))), some (.im (eLSt (lgoM room r p0 pre))), some (.ow false ((lrunM room r p0 pre).map eLTk)), x5, x6, x7, x8]) js _ ⟨none, none, none, none, rfl⟩ ?_
    rintro pre x post env hsplit ⟨x5, x6, x7, x8, rfl⟩
    have hx : JobsOk (pre ++ x :: post) := hsplit ▸ hj
    have hpre : JobsOk pre := hx.left
    have hxx := hx x (by simp)
    have hp := lgoM_ok h3 hr hpre (p0_ok h3)
    have ht := law_tick_ok (job := x) h5 hr hp hxx.1 hxx.2
    have hlen : (lrunM room r p0 pre).length < 10000000 := by
      have := congrArg List.length hsplit
      simp at this
      rw [lrunM_length]; omega
    refine ⟨_, _, rfl, .inl ?_, some (.im (.int x)), some (.im (eNo (ltickM room r (lgoM room r p0 pre) x).2.1)), some (.im (.int (ltickM room r (lgoM room r p0 pre) x).2.2.1)), some (.im (.int (ltickM room r (lgoM room r p0 pre) x).2.2.2)), rfl⟩
    unfold B__law_play_l1
    wp_walk using ht, gLTk, List.length_map, hlen, lrunM_snoc, lgoM_snoc, List.map_append
    rfl
  obtain ⟨e', l1, x5, x6, x7, x8, he'⟩ := key
  unfold F__law_play B__law_play
  wp_walk using law_begin_ok, l1, he'
def B__law_graph_l1 : SF := (sSeq (sAsg (eCall F__law_tick (aI (eVar 0) (aI (eVar 1) (aI (eVar 5) (aI (eVar 7) aNil))))) (gTp (gsCons (gNm 8) (gsCons (gNm 9) (gsCons (gNm 10) (gsCons (gNm 11) gsNil))))))
    (sSeq (sNew 12 (nLc [13] (itD (eOp dIx (eVar 8) (eC (.int 0)))) (gNm 13) tYesF (eCall dSum (aI (eVar 13) aNil))))
    (sSeq (sApp 2 (eTup (aI (eVar 6) (aI (eCall F__law_key (aI (eVar 1) (aI (eVar 8) aNil))) (aI (eVar 10) (aI (eVar 11) (aI (eVar 12) aNil)))))))
    (sApp 3 (eVar 8)))))
def B__law_graph_l2 : SF := (sSeq (sSet 5 (ePop 3))
    (sSeq (sSet 6 (eCall F__law_key (aI (eVar 1) (aI (eVar 5) aNil))))
    (sSeq (sIf (tVal (eInV false (eVar 6) 4)) sCnt sSkip)
    (sSeq (sPutV 4 (eVar 6) (eC (.bool true)))
    (sFor (itD (eTup (aI (eC (.int 0)) (aI (eC (.int 1)) (aI (eC (.int 2)) (aI (eC (.int 3)) aNil)))))) (gNm 7) B__law_graph_l1)))))
def B__law_graph : SF := (sSeq (sPar [2, 3, 4] (aN (nLst aNil) (aN (nLst (aI (eCall F__law_begin aNil) aNil)) (aDn dEmp aNil))))
    (sSeq (whileD (tVal (eOpV dNe 3 (eNew (nLst aNil)))) B__law_graph_l2 1000000)
    (sRet (eVar 2))))
def F__law_graph : List Dt → Option Dt := fnP 2 12 B__law_graph
def B_all_rows_l1 : SF := (sExt 3 (nLc [5] (itD (eTup (aI (eC (.int 0)) (aI (eC (.int 1)) (aI (eC (.int 2)) (aI (eC (.int 3)) aNil)))))) (gNm 5) tYesF (eOp dAdd (eVar 4) (eNew (nLst (aI (eVar 5) aNil))))))
def B_all_rows_l2 : SF := (sSeq (sNew 3 (nLst aNil))
    (sSeq (sFor (itD (eVar 1)) (gNm 4) B_all_rows_l1)
    (sSet 1 (eVar 3))))
def B_all_rows : SF := (sSeq (sSet 1 (eNew (nLst (aI (eNew (nLst aNil)) aNil))))
    (sSeq (sFor (itR (aI (eVar 0) aNil)) (gNm 2) B_all_rows_l2)
    (sRet (eVar 1))))
def F_all_rows : List Dt → Option Dt := fnP 1 5 B_all_rows
def B_need_few : SF := (sSeq (sExpr (eCall F_need_both (aI (eVar 0) (aI (eVar 1) aNil))))
    (sIf (tNotF (tVal (eCall F_is_int (aI (eVar 2) (aI (eC (.int 0)) (aI (eC (.int 5)) aNil)))))) sNever sSkip))
def F_need_few : List Dt → Option Dt := fnP 3 0 B_need_few
def B_naive_gap_l1 : SF := (sSeq (sAsg (eCall F_works_of (aI (eVar 5) aNil)) (gTp (gsCons (gNm 8) (gsCons (gNm 9) gsNil))))
    (sSet 3 (eCall dMax (aI (eVar 3) (aI (eCall dAbs (aI (eOp dSub (eVar 8) (eVar 9)) aNil)) aNil)))))
def B_naive_gap_l2 : SF := (sFor (itD (eCall F_run (aI (eVar 0) (aI (eVar 1) (aI (eVar 4) aNil))))) (gTp (gsCons (gNm 5) (gsCons (gNm 6) (gsCons (gNm 7) gsNil)))) B_naive_gap_l1)
def B_naive_gap : SF := (sSeq (sExpr (eCall F_need_few (aI (eVar 0) (aI (eVar 1) (aI (eVar 2) aNil)))))
    (sSeq (sSet 3 (eC (.int 0)))
    (sSeq (sFor (itD (eCall F_all_rows (aI (eVar 2) aNil))) (gNm 4) B_naive_gap_l2)
    (sRet (eVar 3)))))
def F_naive_gap : List Dt → Option Dt := fnP 3 7 B_naive_gap
def B_naive_loss : SF := (sSeq (sExpr (eCall F_need_few (aI (eVar 0) (aI (eVar 1) (aI (eVar 2) aNil)))))
    (sRet (eCall dMax (aI (eNew (nLc [3] (itD (eCall F_all_rows (aI (eVar 2) aNil))) (gNm 3) tYesF (eCall dSum (aI (eNew (nLc [4, 5, 6] (itD (eCall F_run (aI (eVar 0) (aI (eVar 1) (aI (eVar 3) aNil))))) (gTp (gsCons (gNm 4) (gsCons (gNm 5) (gsCons (gNm 6) gsNil)))) tYesF (eOp dIx (eVar 6) (eC (.int 0))))) aNil)))) aNil))))
def F_naive_loss : List Dt → Option Dt := fnP 3 4 B_naive_loss
/-! ### x[::-1] -/
section
open PySem.Spec PyProof.Rows HT
variable {prog : Program} {w : World} {A : Around} {E : Value → Shared → Prop} {s : Shared}
theorem applied_back {sl : Addr} {a b c : Value} {n : Nat} {Q : Int × Int × Nat → Shared → Prop} (hs : s.heap.IsSliceOf sl a b c) (pa : IsPart a none) (pb : IsPart b none) (pc : IsPart c (some (-1))) (hn : 0 < n)
    (h : Q ((n : Int) - 1, -1, n) s) : wpAny (model prog w) A (Builtin.Slice.sliceApplied (.ref sl) (pure (n : Int))) Q E s := by
  obtain ⟨o, ho, _, hd⟩ := id hs
  have e1 : Builtin.Slice.sliceAdjust none none (-1) (n : Int) = ((n : Int) - 1, -1) := by
    unfold Builtin.Slice.sliceAdjust
    simp
  have e2 : Builtin.Slice.slicePlaces ((n : Int) - 1) (-1) (-1) = n := by
    unfold Builtin.Slice.slicePlaces
    have g1 : ¬ ((-1 : Int) > 0) := by omega
    have g2 : (n : Int) - 1 > -1 := by omega
    simp only [g1, if_false, g2, if_true, Int.neg_neg, Int.ediv_one]
    omega
  unfold Builtin.Slice.sliceApplied Builtin.Slice.sliceFields
  refine wpAny_bind (wpAny_bind (wpAny_field ho hd (x := a) rfl (wpAny_bind (wpAny_field ho hd (x := b) rfl (wpAny_bind (wpAny_field ho hd (x := c) rfl (wpAny_pure ?_)))))))
  refine wpAny_bind (slicePart_ pc ?_)
  show wpAny _ _ (if ((-1 : Int) == 0) = true then _ else _) _ _ s
  rw [if_neg (by decide)]
  refine wpAny_bind (slicePart_ pa (wpAny_bind (slicePart_ pb (wpAny_bind (wpAny_pure ?_)))))
  show wpAny _ _ (match Builtin.Slice.sliceAdjust none none (-1) (n : Int) with | (lo, hi) => pure (lo, (-1 : Int), Builtin.Slice.slicePlaces lo hi (-1))) _ _ s
  rw [e1]
  show wpAny _ _ (pure ((n : Int) - 1, (-1 : Int), Builtin.Slice.slicePlaces ((n : Int) - 1) (-1) (-1))) _ _ s
  rw [e2]
  exact wpAny_pure h
theorem pick_back (xs : List Value) : (List.range xs.length).filterMap (fun (k : Nat) => xs.toArray[((xs.length : Int) - 1 + (k : Int) * (-1)).toNat]?) = xs.reverse := by
  have e : ∀ k ∈ List.range xs.length, xs.toArray[((xs.length : Int) - 1 + (k : Int) * (-1)).toNat]? = xs.reverse[k]? := fun k hk => by
    have hk := List.mem_range.mp hk
    rw [List.getElem?_toArray, List.getElem?_reverse hk]
    congr 1
    omega
  have congr : ∀ (l : List Nat) (f g : Nat → Option Value), (∀ k ∈ l, f k = g k) → l.filterMap f = l.filterMap g := by
    intro l
    induction l with
    | nil => intro f g _; rfl
    | cons x l ih =>
      intro f g h
      rw [List.filterMap_cons, List.filterMap_cons, h x List.mem_cons_self, ih f g fun k hk => h k (List.mem_cons_of_mem _ hk)]
  have key : ∀ (ys : List Value) (m : Nat), (List.range m).filterMap (fun k => ys[k]?) = ys.take m := by
    intro ys m
    induction m with
    | zero => simp
    | succ m ih =>
      rw [List.range_succ, List.filterMap_append, ih, List.take_succ]
      cases q : ys[m]? with
      | none => simp [q]
      | some v => simp [q]
  rw [congr _ _ _ e, key, List.take_of_length_le (by simp)]
theorem getItem_back {t sl : Addr} {xs : List Value} {a b c : Value} {Q : Value → Shared → Prop} (ht : IsTup s.heap t xs.toArray) (hs : s.heap.IsSliceOf sl a b c) (pa : IsPart a none) (pb : IsPart b none) (pc : IsPart c (some (-1))) (hn : 0 < xs.length) (hz : xs.length ≤ sizeLine)
    (h : Q (.ref s.heap.objs.size) { s with heap := s.heap.push { cls := .type "tuple", data := .seq xs.reverse.toArray } }) : wpAny (model prog w) A (getItem (.ref t) (.ref sl)) Q E s := by
  have small : sizeOk (.seq xs.reverse.toArray) := by
    show xs.reverse.toArray.size ≤ sizeLine
    rw [List.size_toArray, List.length_reverse]
    exact hz
  obtain ⟨o, ho, hc, _⟩ := id hs
  have isSl : s.TypeIs (.ref sl) "slice" := ⟨o, ho, hc⟩
  unfold getItem
  try with_reducible refine wpAny_holding ?_
  first | refine wpAny_bind (wpAny_pure ?_) | skip
  refine wpAny_bind (wpAny_sequenceKey ht.typeIs (by decide) (wpAny_bind (wpAny_callSpecial?_slot (name := Str.ofString "__getitem__") ht.typeIs PyProof.Rows.slot_tuple_getitem (wpAny_call_entry PyProof.Rows.slot_tuple_getitem ht.typeIs entry_tuple_getitem ?_ (args_tuple_getitem _ _)))))
  show wpAny _ _ (Builtin.Tuple.tupleItemsOf (.ref t) >>= _) _ _ s
  refine wpAny_bind (tupleItemsOf_ ht (wpAny_bind (wpAny_typeOf isSl ?_)))
  rw [if_pos (by decide)]
  have hsz : xs.toArray.size = xs.length := List.size_toArray
  rw [hsz]
  refine wpAny_bind (applied_back hs pa pb pc hn ?_)
  show wpAny _ _ (if (((xs.length : Int) - 1) == 0 && (-1 : Int) == 1 && xs.length == xs.length) = true then _ else _) _ _ s
  rw [if_neg (by simp)]
  rw [pick_back]
  first
    | exact wpAny_bind (m := Builtin.Tuple.tupleExact _) (wpAny_newObj_type (wpAny_pure ⟨_, rfl, wpAny_pure h⟩) small)
    | exact wpAny_bind (m := Builtin.Tuple.tupleExact _) (wpAny_newObj_type (wpAny_bind (wpAny_pure (wpAny_pure ⟨_, rfl, wpAny_pure h⟩))) small)
    | exact wpAny_bind (wpAny_bind (m := Builtin.Tuple.tupleExact _) (wpAny_newObj_type (wpAny_pure (wpAny_pure ⟨_, rfl, wpAny_pure h⟩)) small))
    | exact wpAny_bind (wpAny_bind (m := Builtin.Tuple.tupleExact _) (wpAny_newObj_type (wpAny_pure ⟨_, rfl, wpAny_pure h⟩) small))
end
section
open PySem.Spec PyProof.Rows HT
variable {X : Cx} {e : Expr} {pos : Pos}
def tBackT (K : PySem.W.Frag) (te : TE) : TE := fun σ H Q => te σ H fun x H1 => ∃ a xs, x = .ref a ∧ SqT K H1 a xs ∧ 0 < xs.length ∧ ∀ p, H1 p = none → Q (.ref p) (upd H1 p (.tup xs.reverse))
theorem pe_backT {te : TE} {k : Nat} {p1 p2 p3 : Pos} (he : PE X e te) : PE X (.Subscript e (.Slice none none (some (.UnaryOp .USub (.Constant (.int 1) k p1) p2)) p3) pos) (tBackT X.K te) := by
  refine ⟨fun pins s σ H Q I h => Subscript_ (thn (he.run pins s σ H _ I h) fun v s1 ⟨x, H1, I1, r1, a, xs, ex, hx, hn, q⟩ => ?_)⟩
  subst ex
  cases r1
  have step : PO X (some (.UnaryOp .USub (.Constant (.int 1) k p1) p2)) (tPart (tUn (rU fun i => .int (-i)) (tC (.int 1)))) := po_some (pe_un un_neg pe_int)
  refine wpAny_Slice (thn (po_none.run pins s1 σ H1 (fun o H2 => o = none ∧ H2 = H1) I1 ⟨rfl, rfl⟩) fun va s2 ⟨la, H2, I2, pa, ea, e2⟩ => ?_)
  subst ea e2
  refine thn (po_none.run pins s2 σ H2 (fun o H3 => o = none ∧ H3 = H2) I2 ⟨rfl, rfl⟩) fun vb s3 ⟨lb, H3, I3, pb, eb, e3⟩ => ?_
  subst eb e3
  refine thn (step.run pins s3 σ H3 (fun o H4 => o = some (-1) ∧ H4 = H3) I3 ⟨1, rfl, -1, rfl, rfl, rfl⟩) fun vc s4 ⟨lc, H4, I4, pc, ec, e4⟩ => ?_
  subst ec e4
  have I5 : L2.Inv X pins σ H4 { s4 with heap := s4.heap.push { cls := .type "slice", data := .fields #[va, vb, vc] } } := I4.kept (t' := s4.toks) fun c o q => Heap.get?_push_of_some _ q
  obtain ⟨its, rv, ht, hz⟩ := I5.tuple hx
  have hl : xs.length = its.length := rv.length
  show wpAny (model X.prog X.w) X.A (subscriptTail e (.Slice none none (some (.UnaryOp .USub (.Constant (.int 1) k p1) p2)) p3) (.ref a) (.ref s4.heap.objs.size)) (EP X pins σ Q) X.xe { s4 with heap := s4.heap.push { cls := .type "slice", data := .fields #[va, vb, vc] } }
  refine tail_any (ops := [.ref a, .ref s4.heap.objs.size]) ht.typeIs PyProof.Rows.slot_tuple_getitem.lookup ?_ (by with_unfolding_all rfl)
  refine getItem_back ht (Heap.IsSliceOf.new _ va vb vc) pa pb pc (by omega) (by omega) ?_
  refine ⟨.ref _, _, I5.laid (t' := s4.toks) (o := .tup xs.reverse) (fun c o q => Heap.get?_push_of_some _ q) (Nat.le_refl _) ?_, rfl, q _ (I5.hok.fresh (Nat.le_refl _))⟩
  exact ⟨by rw [List.length_reverse]; exact hz, its.reverse, rv.reverse, _, Heap.get?_push_size _ rfl, rfl, 0, rfl⟩
def dBackT : Dt → Option Dt
  | .tuple ds => if 0 < ds.length then some (.tuple ds.reverse) else none
  | _ => none
theorem ei_backT {f : EF} {k : Nat} {p1 p2 p3 : Pos} (h : EI X e f) : EI X (.Subscript e (.Slice none none (some (.UnaryOp .USub (.Constant (.int 1) k p1) p2)) p3) pos) (eUn dBackT f) := by
  obtain ⟨t, h1, h2⟩ := h
  refine ⟨_, pe_backT h1, fun O H0 H σ env τ ts d env' Q S hf kq => ?_⟩
  unfold eUn at hf
  split at hf
  · rename_i x e1 he
    split at hf
    · rename_i z hz
      cases hf
      refine h2 O H0 H σ env τ ts _ _ _ S he fun v H1 S1 => ?_
      unfold dBackT at hz
      split at hz
      · rename_i ds
        split at hz
        · rename_i hpos
          cases hz
          obtain ⟨a, xs, rfl, hx, rx⟩ := S1.rp
          refine ⟨a, xs, rfl, hx, by rw [rx.length]; exact hpos, fun p hp => kq _ _ ?_⟩
          exact (S1.pop.same (same_upd hp)).push ⟨p, xs.reverse, rfl, .inl (.inl upd_same), (rx.reverse).kp (.new hp)⟩
        · cases hz
      · cases hz
    · cases hf
  · cases hf
/-- a list turned round, new -/
def nBack (f : EF) : NF := fun env => match f env with
  | some (.list ds, e) => some (ds.reverse, e)
  | _ => none
theorem en_back {f : EF} {k : Nat} {p1 p2 p3 : Pos} (h : EI X e f) : EN X (.Subscript e (.Slice none none (some (.UnaryOp .USub (.Constant (.int 1) k p1) p2)) p3) pos) (nBack f) := by
  obtain ⟨t, h1, h2⟩ := h
  refine ⟨_, pe_revL h1, fun O H0 H σ env τ ts d env' Q S hf kq => ?_⟩
  unfold nBack at hf
  split at hf
  · rename_i ds e1 he
    cases hf
    refine h2 O H0 H σ env τ ts _ _ _ S he fun v H1 S1 => ?_
    obtain ⟨a, xs, rfl, hx, rx⟩ := S1.rp
    exact ⟨a, xs, rfl, hx.sq, fun p hp => kq _ _ (S1.pop.pushNew hp rx.reverse)⟩
  · cases hf
end

open PySem L2 PySem.W

/-! ### dict == dict -/
def hitD (lvs : List (Dt × Dt)) (p : Dt × Dt) : Bool := match keyOf p.1 with
  | some k => match lookD lvs k with
    | some d => p.2.eqv d
    | none => false
  | none => false
def sameD (kvs lvs : List (Dt × Dt)) : Bool := kvs.length == lvs.length && kvs.all (hitD lvs)
def okV (kvs : List (Dt × Dt)) : Bool := kvs.all fun p => okD 40 p.2
theorem okV_get {kvs : List (Dt × Dt)} {i : Nat} {p : Dt × Dt} (h : okV kvs = true) (e : kvs[i]? = some p) : okD 40 p.2 = true := by
  unfold okV at h
  rw [List.all_eq_true] at h
  exact h p (List.mem_of_getElem? e)
theorem okV_look {k : NestedKey} : ∀ {kvs : List (Dt × Dt)} {d : Dt}, okV kvs = true → lookD kvs k = some d → okD 40 d = true
  | [], _, _, e => by cases e
  | p :: r, d, h, e => by
    unfold okV at h
    rw [List.all_cons, Bool.and_eq_true] at h
    unfold lookD at e
    split at e
    · cases e; exact h.1
    · exact okV_look (kvs := r) h.2 e
theorem RpD.at {K : Kx} {H : Hp} : ∀ {kvs : List (Dt × Dt)} {es : List Ent} {i : Nat} {e : Ent}, RpD K H kvs es → es[i]? = some e → ∃ p, kvs[i]? = some p ∧ keyOf p.1 = some e.1 ∧ Rp K H p.2 e.2.2
  | [], _, _, _, h, e => by cases h; simp at e
  | (k, d) :: r, _, 0, _, h, e => by
    obtain ⟨e', r', rfl, ⟨h1, h2, h3⟩, h4⟩ := h
    simp at e; subst e
    exact ⟨_, rfl, h1, h3⟩
  | (k, d) :: r, _, i + 1, _, h, e => by
    obtain ⟨e', r', rfl, _, h4⟩ := h
    simp at e
    obtain ⟨p, q, z⟩ := RpD.at h4 e
    exact ⟨p, by simpa using q, z⟩
theorem RpD.lookN {K : Kx} {H : Hp} (k : NestedKey) : ∀ {kvs : List (Dt × Dt)} {es : List Ent}, RpD K H kvs es → valE es k = none → lookD kvs k = none
  | [], _, h, _ => rfl
  | (key, d) :: r, _, h, e => by
    obtain ⟨e', r', rfl, ⟨h1, h2, h3⟩, h4⟩ := h
    unfold valE at e
    unfold lookD
    split at e
    · cases e
    · rename_i q
      rw [if_neg (fun z => q (Option.some.inj (h1.symm.trans z)))]
      exact RpD.lookN k h4 e
theorem RpD.lookS {K : Kx} {H : Hp} (k : NestedKey) : ∀ {kvs : List (Dt × Dt)} {es : List Ent} {v : V}, RpD K H kvs es → valE es k = some v → ∃ d, lookD kvs k = some d ∧ Rp K H d v
  | [], _, _, h, e => by cases h; cases e
  | (key, d) :: r, _, v, h, e => by
    obtain ⟨e', r', rfl, ⟨h1, h2, h3⟩, h4⟩ := h
    unfold valE at e
    unfold lookD
    split at e
    · rename_i q
      cases e
      rw [if_pos (by rw [← q]; exact h1)]
      exact ⟨_, rfl, h3⟩
    · rename_i q
      rw [if_neg (fun z => q (Option.some.inj (h1.symm.trans z)))]
      exact RpD.lookS k h4 e
theorem ExRel.at : ∀ {es : List Ent} {xs : List (NestedKey × Addr × Value)} {i : Nat} {q : NestedKey × Addr × Value}, ExRel es xs → xs[i]? = some q → ∃ p, es[i]? = some p ∧ p.1 = q.1 ∧ p.2.1 = q.2.1 ∧ RelV p.2.2 q.2.2
  | _, _, _, _, .nil, e => by simp at e
  | _, _, 0, _, .cons h t, e => by
    simp at e; subst e
    exact ⟨_, rfl, h⟩
  | _, _, i + 1, _, .cons h t, e => by
    simp at e
    obtain ⟨p, a, b⟩ := ExRel.at t e
    exact ⟨p, by simpa using a, b⟩
section
variable {X : Cx} {pins : List (Addr × Obj)} {σ : L2.St} {H : Hp} {s : Shared} {A : Around} {E : Value → Shared → Prop}
theorem n_same {nm : String} {a b : Addr} {es fs : List Ent} {kvs lvs : List (Dt × Dt)} {Q : Bool → Shared → Prop} (hu : A.units + 60 < cLine) (I : L2.Inv X pins σ H s) (d1 : Rd H a (dN X.w a es)) (d2 : Rd H b (dN X.w b fs))
    (r1 : RpD X.kx H kvs es) (r2 : RpD X.kx H lvs fs) (ok1 : okV kvs = true) (ok2 : okV lvs = true) (h : Q (sameD kvs lvs) s) :
    wpAny (model X.prog X.w) A (Builtin.Dict.samePairs nm a b) Q E s := by
  obtain ⟨_, ha, xs, re, oa, ar, ep, hoa, _, hda, hka, hisa, _⟩ := dn_of I d1 r1.toK.keysOk
  obtain ⟨_, hb, ys, rf, ob, br, ep', hob, _, hdb, hkb, hisb, hnb⟩ := dn_of I d2 r2.toK.keysOk
  have hla : ar.size = kvs.length := by rw [size_of_entries hka, ← Paired.length re, r1.length]
  have hlb : br.size = lvs.length := by rw [size_of_entries hkb, ← Paired.length rf, r2.length]
  unfold sameD at h
  rw [← hla, ← hlb] at h
  unfold Builtin.Dict.samePairs Builtin.Dict.showsAll
  rw [if_neg (show ¬ (a == sysModules) = true by rw [ha]; exact Bool.false_ne_true), if_neg (show ¬ (b == sysModules) = true by rw [hb]; exact Bool.false_ne_true)]
  refine wpAny_bind (wpAny_pure (wpAny_bind (wpAny_pure ?_)))
  refine wpAny_bind (wpAny_dictEntries hoa hda ?_)
  dsimp only
  refine wpAny_bind (wpAny_dictEntries hob hdb ?_)
  by_cases hsz : ar.size = br.size
  case neg =>
    rw [if_pos (by simpa using hsz)]
    have hbf : (ar.size == br.size) = false := by simpa using hsz
    rw [hbf, Bool.false_and] at h
    exact wpAny_bind (wpAny_rule (wpAny_pure h))
  case pos =>
    have h' : Q (kvs.all (hitD lvs)) s := by simpa [hsz] using h
    rw [if_neg (by rw [hsz]; simp)]
    refine wpAny_bind (wpAny_dictEpoch hoa hda ?_)
    refine wpAny_bind ?_
    rw [Std.Legacy.Range.forIn_eq_forIn_range']
    simp only [Std.Legacy.Range.size, Nat.sub_zero, Nat.add_sub_cancel, Nat.div_one]
    refine wpAny_forIn_list _
      (fun rest q s' => s' = s ∧ q = (none, ()) ∧ ∃ i, rest = List.range' i (ar.size - i) ∧ i ≤ ar.size ∧ (kvs.drop i).all (hitD lvs) = kvs.all (hitD lvs))
      _ ?_ ?_ _ _ ⟨rfl, rfl, 0, by simp, Nat.zero_le _, rfl⟩
    · rintro x rest q s' ⟨rfl, rfl, i, hr, hi, hpre⟩
      have hlt : i < ar.size := by
        rcases Nat.lt_or_ge i ar.size with h | h
        · exact h
        · rw [Nat.sub_eq_zero_of_le h] at hr; simp at hr
      obtain ⟨rfl, hrest⟩ : x = i ∧ rest = List.range' (i + 1) (ar.size - (i + 1)) := by
        have e : ar.size - i = (ar.size - (i + 1)) + 1 := by omega
        rw [e, List.range'_succ] at hr
        injection hr with h1 h2
        exact ⟨h1, h2⟩
      refine wpAny_bind (wpAny_dictEntries hoa hda ?_)
      have hx := entry_at hka x
      have hxl : x < xs.length := by rw [← size_of_entries hka]; exact hlt
      rw [List.getElem?_eq_getElem hxl] at hx
      obtain ⟨⟨key, ad, u⟩, hkv⟩ : ∃ z, xs[x] = z := ⟨_, rfl⟩
      rw [hkv] at hx
      rw [hx]
      have hmem := hisa xs[x] (List.getElem_mem hxl)
      rw [hkv] at hmem
      obtain ⟨en, hen, g1, g2, g3⟩ := ExRel.at re (show xs[x]? = some (key, ad, u) by rw [List.getElem?_eq_getElem hxl, hkv])
      obtain ⟨p, hp, k1, k2⟩ := r1.at hen
      dsimp only at g1 g2 g3 hmem
      have hdrop : kvs.drop x = p :: kvs.drop (x + 1) := by
        have := List.drop_eq_getElem_cons (l := kvs) (i := x) (by omega)
        rw [this]
        congr 1
        have q := List.getElem?_eq_getElem (l := kvs) (i := x) (by omega)
        rw [q] at hp
        exact Option.some.inj hp
      rw [hdrop, List.all_cons] at hpre
      rw [g1] at k1
      have hhit : hitD lvs p = match lookD lvs key with
        | some d => p.2.eqv d
        | none => false := by unfold hitD; rw [k1]
      show wpAny _ _ (holding [Value.ref ad, u] _ >>= _) _ _ _
      refine wpAny_bind (wpAny_holding (wpAny_bind (wpAny_dictFind_heap (knd := nestedKind X.prog X.w) (by show A.units + 8 < cLine; omega) hmem hob hdb hkb hisb hnb ?_ ?_)))
      · intro hno
        have hn := rf.val key
        rw [atKey_none_of_get hno] at hn
        have hv : valE fs key = none := by
          cases hq : valE fs key with
          | none => rfl
          | some z => rw [hq] at hn; exact hn.elim
        rw [hhit, r2.lookN key hv, Bool.false_and] at hpre
        rw [← hpre] at h'
        refine wpAny_pure ?_
        show wpAny _ _ (if (!false) = true then _ else _) _ _ _
        rw [if_pos (by decide)]
        exact wpAny_pure (wpAny_pure h')
      · rintro j ⟨ad2, u2⟩ hj
        have hn := rf.val key
        rw [atKey_of_get hnb hj] at hn
        obtain ⟨v2, hv2, rv2⟩ : ∃ v2, valE fs key = some v2 ∧ RelV v2 u2 := by
          cases hq : valE fs key with
          | none => rw [hq] at hn; exact hn.elim
          | some z => rw [hq] at hn; exact ⟨z, rfl, hn⟩
        obtain ⟨d, hd, rd⟩ := r2.lookS key hv2
        refine wpAny_bind (wpAny_dictEntries hob hdb ?_)
        have hy := entry_at hkb j
        rw [hj] at hy
        rw [hy]
        obtain ⟨p1, p2⟩ := okD_plain p.2 40 (okV_get ok1 hp)
        obtain ⟨p3, p4⟩ := okD_plain d 40 (okV_look ok2 hd)
        obtain ⟨as, t1⟩ := rp_reads I p1 k2 g3
        obtain ⟨bs, t2⟩ := rp_reads I p3 rd rv2
        rw [hhit, hd] at hpre
        refine wpAny_holding (PySem.SeqAt.eqAt_plain p.2 d A _ _ _ as bs t1 t2 p1 p3 (by omega) X.prog X.w _ _ ?_)
        cases e : p.2.eqv d with
        | false =>
          dsimp only at hpre
          rw [e, Bool.false_and] at hpre
          rw [← hpre] at h'
          show wpAny _ _ (if (!false) = true then _ else _) _ _ _
          rw [if_pos (by decide)]
          exact wpAny_pure (wpAny_pure h')
        | true =>
          dsimp only at hpre
          rw [e, Bool.true_and] at hpre
          show wpAny _ _ (if (!true) = true then _ else _) _ _ _
          rw [if_neg (by decide)]
          refine wpAny_bind (wpAny_dictEpoch hoa hda ?_)
          rw [if_neg (by simp)]
          exact wpAny_pure ⟨rfl, rfl, x + 1, hrest, hlt, hpre⟩
    · rintro q s' ⟨rfl, rfl, i, hr, hi, hpre⟩
      have hin : i = ar.size := by
        rcases Nat.lt_or_ge i ar.size with h | h
        · have e : ar.size - i = (ar.size - (i + 1)) + 1 := by omega
          rw [e, List.range'_succ] at hr; exact nomatch hr
        · exact Nat.le_antisymm hi h
      refine wpAny_pure ?_
      rw [hin, hla, List.drop_length] at hpre
      rw [← hpre] at h'
      exact h'
end
section
variable {X : Cx}
def rSmD (K : Kx) (neg : Bool) : R2 := fun x y H Q => ∃ a b es fs kvs lvs, x = .ref a ∧ y = .ref b ∧ Rd H a (dN K.w a es) ∧ Rd H b (dN K.w b fs) ∧ RpD K H kvs es ∧ RpD K H lvs fs ∧ okV kvs = true ∧ okV lvs = true ∧ Q (.bl (if neg then !sameD kvs lvs else sameD kvs lvs)) H
theorem op_eqDD (hu : X.A.units + 64 < cLine) : OpR X (compareOp .Eq) (rSmD X.kx false) := by
  intro pins s σ H x y v u Q I rx ry h
  obtain ⟨a, b, es, fs, kvs, lvs, rfl, rfl, d1, d2, r1, r2, o1, o2, q⟩ := h
  cases (show v = Value.ref a from rx)
  cases (show u = Value.ref b from ry)
  obtain ⟨_, ha, xs, re, da⟩ := dn_of I d1 r1.toK.keysOk
  obtain ⟨_, hb, ys, rf, db⟩ := dn_of I d2 r2.toK.keysOk
  refine wpAny_richCompare_same_room (op := .Eq) da.typeIs db.typeIs PySem.F.slot_dict_eq (wpAny_call_entry PySem.F.slot_dict_eq da.typeIs PySem.F.entry_dict_eq ?_ (PySem.F.args_dict_eq_2 _ _)) (by omega)
  show wpAny _ _ (Builtin.Dict.dictSlotArgs "__eq__" ⟨[.ref a, .ref b], []⟩ >>= _) _ _ s
  refine wpAny_bind ?_
  unfold Builtin.Dict.dictSlotArgs
  refine wpAny_bind (wpAny_notOrdered_dict da.typeIs ?_)
  show wpAny _ _ (pure (Value.ref a, Value.ref b)) _ _ s
  refine wpAny_pure ?_
  refine wpAny_bind (wpAny_isInstance (T := "dict") db.typeIs PySem.F.sub_dict_dict ?_)
  simp only [Bool.not_true, Bool.false_eq_true, if_false]
  refine wpAny_bind (wpAny_pure (wpAny_bind (wpAny_pure ?_)))
  refine wpAny_bind (n_same (by rw [Around.in1_units]; omega) I d1 d2 r1 r2 o1 o2 ?_)
  refine wpAny_pure ⟨_, rfl, ?_, ?_⟩
  · exact fun x => nomatch x
  · exact ⟨.bl _, H, I, (show RelV (.bl (sameD kvs lvs)) (Value.bool (sameD kvs lvs == true)) from by rw [beq_true]; rfl), q⟩
theorem op_neDD (hu : X.A.units + 64 < cLine) : OpR X (compareOp .NotEq) (rSmD X.kx true) := by
  intro pins s σ H x y v u Q I rx ry h
  obtain ⟨a, b, es, fs, kvs, lvs, rfl, rfl, d1, d2, r1, r2, o1, o2, q⟩ := h
  cases (show v = Value.ref a from rx)
  cases (show u = Value.ref b from ry)
  obtain ⟨_, ha, xs, re, da⟩ := dn_of I d1 r1.toK.keysOk
  obtain ⟨_, hb, ys, rf, db⟩ := dn_of I d2 r2.toK.keysOk
  refine wpAny_richCompare_same_room (op := .NotEq) da.typeIs db.typeIs PySem.F.slot_dict_ne (wpAny_call_entry PySem.F.slot_dict_ne da.typeIs PySem.F.entry_dict_ne ?_ (PySem.F.args_dict_ne_2 _ _)) (by omega)
  show wpAny _ _ (Builtin.Dict.dictSlotArgs "__ne__" ⟨[.ref a, .ref b], []⟩ >>= _) _ _ s
  refine wpAny_bind ?_
  unfold Builtin.Dict.dictSlotArgs
  refine wpAny_bind (wpAny_notOrdered_dict da.typeIs ?_)
  show wpAny _ _ (pure (Value.ref a, Value.ref b)) _ _ s
  refine wpAny_pure ?_
  refine wpAny_bind (wpAny_isInstance (T := "dict") db.typeIs PySem.F.sub_dict_dict ?_)
  simp only [Bool.not_true, Bool.false_eq_true, if_false]
  refine wpAny_bind (wpAny_pure (wpAny_bind (wpAny_pure ?_)))
  refine wpAny_bind (n_same (by rw [Around.in1_units]; omega) I d1 d2 r1 r2 o1 o2 ?_)
  refine wpAny_pure ⟨_, rfl, ?_, ?_⟩
  · exact fun x => nomatch x
  · exact ⟨.bl _, H, I, (show RelV (.bl (!sameD kvs lvs)) (Value.bool (sameD kvs lvs == false)) from by rw [beq_false]; rfl), q⟩

/-- e == {} -/
def eEmp (f : EF) : EF := fun env => match f env with
  | some (.dict kvs, e1) => if okV kvs then some (.bool (sameD kvs []), e1) else none
  | _ => none
theorem runs_emp {K : Kx} {t : TE} {f : EF} (h : RunsI K t f) : RunsI K (tOp (rSmD K false) t (tDNewN K.w)) (eEmp f) := by
  intro O H0 H σ env τ ts d env' Q S hf k
  unfold eEmp at hf
  split at hf
  · rename_i kvs e1 he
    split at hf
    · rename_i ho
      cases hf
      refine h O H0 H σ env τ ts _ _ _ S he fun v H1 S1 p hp => ?_
      have S2 := S1.pushD hp
      obtain ⟨a, es, o, rfl, h1, h2⟩ := S1.rp
      have hne : a ≠ p := fun z => by rw [z, hp] at h1; cases h1
      have hk : Kp H1 (upd H1 p (dN K.w p [])) := Kp.new hp
      exact ⟨a, p, es, [], kvs, [], rfl, rfl, .inr ⟨o, hk.2 _ _ _ h1⟩, .inl upd_same, h2.kp hk, rfl, ho, rfl, k _ _ (S2.pop.pop.push rfl)⟩
    · cases hf
  · cases hf
theorem ei_emp {e : Expr} {pos p : Pos} {f : EF} (hu : X.A.units + 64 < cLine) (h : EI X e f) : EI X (.Compare e [.Eq] [.Dict [] [] p] pos) (eEmp f) := by
  obtain ⟨t, h1, h2⟩ := h
  exact ⟨_, pe_cmpR (op_eqDD hu) h1 pe_dnewN rfl, runs_emp h2⟩
theorem et_emp {e : Expr} {pos p : Pos} {f : EF} (hu : X.A.units + 64 < cLine) (h : EI X e f) : ET X (.Compare e [.Eq] [.Dict [] [] p] pos) (tVal (eEmp f)) := by
  obtain ⟨t, h1, h2⟩ := h
  exact ⟨_, pt_cmpR (op_eqDD hu) h1 pe_dnewN rfl, runs_tst (runs_emp h2)⟩
/-- x != y, both dicts -/
def eNeD (i j : Nat) : EF := fun env => match dictAt env i with
  | some kvs => match dictAt env j with
    | some lvs => if okV kvs && okV lvs then some (.bool (!sameD kvs lvs), env) else none
    | none => none
  | none => none
theorem runs_neD {K : Kx} {i j : Nat} : RunsI K (tOp (rSmD K true) (tVar i) (tVar j)) (eNeD i j) := by
  intro O H0 H σ env τ ts d env' Q S hf k
  unfold eNeD at hf
  split at hf
  · rename_i kvs h1
    split at hf
    · rename_i lvs h2
      split at hf
      · rename_i ho
        cases hf
        rw [Bool.and_eq_true] at ho
        obtain ⟨a, es, e1, e2, e3⟩ := S.dict h1
        obtain ⟨b, fs, f1, f2, f3⟩ := S.dict h2
        exact ⟨_, e1, _, f1, a, b, es, fs, kvs, lvs, rfl, rfl, e2, f2, e3, f3, ho.1, ho.2, k _ _ (S.push rfl)⟩
      · cases hf
    · cases hf
  · cases hf
theorem ei_neD {i j : Nat} {x y : Str} {p q pos : Pos} (hu : X.A.units + 64 < cLine) (hN : X.N[i]? = some x := by rfl) (hv : Vis X.env.scope x := by first | exact Or.inl rfl | exact Or.inr (Or.inl rfl) | exact Or.inr (Or.inr rfl)) (hN' : X.N[j]? = some y := by rfl) (hv' : Vis X.env.scope y := by first | exact Or.inl rfl | exact Or.inr (Or.inl rfl) | exact Or.inr (Or.inr rfl))
    (hd : (x == ("__debug__" : Str)) = false := by decide) (hcd : (x == ("__classdict__" : Str)) = false := by decide) (hd' : (y == ("__debug__" : Str)) = false := by decide) (hcd' : (y == ("__classdict__" : Str)) = false := by decide) :
    EI X (.Compare (.Name x p) [.NotEq] [.Name y q] pos) (eNeD i j) :=
  ⟨_, pe_cmpR (op_neDD hu) (pe_var hN hv hd hcd) (pe_var hN' hv' hd' hcd') rfl, runs_neD⟩
end
open PySem L2 PySem.W PyProof.Rows

/-! ### list(zip(a, b)) -/
theorem zip_no_len : typeLookup (.type "zip") "__len__" = pure none := by rw [typeLookup_type, builtinLookup_eq_fast]; kernel_rfl
theorem zip_no_hint : typeLookup (.type "zip") "__length_hint__" = pure none := by rw [typeLookup_type, builtinLookup_eq_fast]; kernel_rfl
/-- the zip at turn i: the tuple that it gave last is out, or none is -/
def ZSt (z TI TO i1 i2 l1 l2 S : Addr) (i : Nat) (h : Heap) : Prop :=
  ((IsZip h z TI TO .none) ∨ ∃ T f oT, IsZipHeld h z TI TO T f ∧ h.get? T = some oT ∧ T ≠ z ∧ T ≠ TI ∧ T ≠ TO ∧ T ≠ i1 ∧ T ≠ i2 ∧ T ≠ S) ∧ IsPair h TI (.ref i1) (.ref i2) ∧ (∃ x y, IsPair h TO x y) ∧ h.IsListIter i1 l1 i ∧ h.IsListIter i2 l2 i
section
variable {prog : Program} {w : World} {A : Around} {E : Value → Shared → Prop} {s : Shared} {z TI TO i1 i2 l1 l2 S : Addr} {i : Nat} {xs ys : Array Value}
theorem znext_item {x y : Value} {Q : Option Value → Shared → Prop} (D : ZipApart z TI TO i1 i2 l1 l2) (st : ZSt z TI TO i1 i2 l1 l2 S i s.heap) (hSl : S < s.heap.objs.size)
    (hl1 : s.heap.IsList l1 xs) (hl2 : s.heap.IsList l2 ys) (hx : xs[i]? = some x) (hy : ys[i]? = some y)
    (hQ : ∀ h', ZSt z TI TO i1 i2 l1 l2 S (i + 1) h' → IsPair h' s.heap.objs.size x y →
      (∀ c o, c ∉ [z, TI, TO, i1, i2] → s.heap.get? c = some o → h'.get? c = some o) → Q (some (.ref s.heap.objs.size)) { s with heap := h' }) :
    wpAny (model prog w) A (pyNext (.ref z)) Q E s := by
  obtain ⟨hz, hTI, ⟨x0, y0, hTO⟩, h1, h2⟩ := st
  have lTI : TI < s.heap.objs.size := Heap.lt_size hTI
  have lTO : TO < s.heap.objs.size := Heap.lt_size hTO
  have li1 : i1 < s.heap.objs.size := by obtain ⟨_, e, _⟩ := h1; exact Heap.lt_size e
  have li2 : i2 < s.heap.objs.size := by obtain ⟨_, e, _⟩ := h2; exact Heap.lt_size e
  rcases hz with hz | ⟨T, f, oT, hz, hT, n1, n2, n3, n4, n5, n6⟩
  · have lz : z < s.heap.objs.size := Heap.lt_size hz
    refine wpAny_pyNext_zip_item D hz hTI hTO h1 h2 hl1 hl2 hx hy fun h' a1 a2 a3 a4 a5 a6 hk => ?_
    refine hQ h' ⟨.inr ⟨s.heap.objs.size, false, _, a1, a5, Nat.ne_of_gt lz, Nat.ne_of_gt lTI, Nat.ne_of_gt lTO, Nat.ne_of_gt li1, Nat.ne_of_gt li2, Nat.ne_of_gt hSl⟩, hk _ _ D.TIz D.TITO D.TIi1 D.TIi2 hTI, ⟨_, _, a2⟩, a3, a4⟩ a5 fun c o hc e => ?_
    exact hk c o (fun q => hc (by simp [q])) (fun q => hc (by simp [q])) (fun q => hc (by simp [q])) (fun q => hc (by simp [q])) e
  · have lz : z < s.heap.objs.size := Heap.lt_size hz
    refine wpAny_pyNext_zip_item_held D hz hT hTI h1 h2 hl1 hl2 hx hy fun h' a1 a3 a4 a5 a6 hk => ?_
    refine hQ h' ⟨.inr ⟨T, true, _, a1, hk _ _ n1 n4 n5 hT, n1, n2, n3, n4, n5, n6⟩, hk _ _ D.TIz D.TIi1 D.TIi2 hTI, ⟨x0, y0, hk _ _ D.TOz D.TOi1 D.TOi2 hTO⟩, a3, a4⟩ a5 fun c o hc e => ?_
    · exact hk c o (fun q => hc (by simp [q])) (fun q => hc (by simp [q])) (fun q => hc (by simp [q])) e
theorem znext_end {Q : Option Value → Shared → Prop} (hh : A.handled = none) (D : ZipApart z TI TO i1 i2 l1 l2) (st : ZSt z TI TO i1 i2 l1 l2 S i s.heap)
    (hl1 : s.heap.IsList l1 xs) (hl2 : s.heap.IsList l2 ys) (hend : xs[i]? = none ∨ ys[i]? = none)
    (hQ : ∀ h', (∀ c o, c ∉ [z, TI, TO, i1, i2] → s.heap.get? c = some o → h'.get? c = some o) → Q none { s with heap := h' }) :
    wpAny (model prog w) A (pyNext (.ref z)) Q E s := by
  obtain ⟨hz, hTI, ⟨x0, y0, hTO⟩, h1, h2⟩ := st
  rcases hz with hz | ⟨T, f, oT, hz, hT, n1, n2, n3, n4, n5, n6⟩
  · exact wpAny_pyNext_zip_end hh D hz hTI hTO h1 h2 hl1 hl2 hend fun h' hk => hQ h' fun c o hc e =>
      hk c o (fun q => hc (by simp [q])) (fun q => hc (by simp [q])) (fun q => hc (by simp [q])) (fun q => hc (by simp [q])) e
  · exact wpAny_pyNext_zip_end_held hh D hz hT hTI h1 h2 hl1 hl2 hend fun h' hk => hQ h' fun c o hc e =>
      hk c o (fun q => hc (by simp [q])) (fun q => hc (by simp [q])) (fun q => hc (by simp [q])) e
theorem ZSt.keep {h h' : Heap} (st : ZSt z TI TO i1 i2 l1 l2 S i h) (hS : S ∉ [z, TI, TO, i1, i2]) (k : ∀ c o, c ≠ S → h.get? c = some o → h'.get? c = some o) : ZSt z TI TO i1 i2 l1 l2 S i h' := by
  obtain ⟨hz, hTI, ⟨x0, y0, hTO⟩, h1, h2⟩ := st
  have ne : ∀ c ∈ [z, TI, TO, i1, i2], c ≠ S := fun c hc q => hS (q ▸ hc)
  refine ⟨?_, k _ _ (ne _ (by simp)) hTI, ⟨x0, y0, k _ _ (ne _ (by simp)) hTO⟩, h1.at fun o q => k _ _ (ne _ (by simp)) q, h2.at fun o q => k _ _ (ne _ (by simp)) q⟩
  rcases hz with hz | ⟨T, f, oT, hz, hT, n1, n2, n3, n4, n5, n6⟩
  · exact .inl (k _ _ (ne _ (by simp)) hz)
  · exact .inr ⟨T, f, oT, k _ _ (ne _ (by simp)) hz, k _ _ n6 hT, n1, n2, n3, n4, n5, n6⟩
end
/-- zs are pairs of the items -/
def ZipRel (H : Hp) (xs ys zs : List V) : Prop := ∀ (j : Nat) (v : V), zs[j]? = some v → ∃ T x y, v = .ref T ∧ H T = some (.tup [x, y]) ∧ xs[j]? = some x ∧ ys[j]? = some y
theorem vals_app : ∀ {xs ys : List V} {us ws : List Value}, Vals xs us → Vals ys ws → Vals (xs ++ ys) (us ++ ws)
  | _, _, _, _, .nil, h => h
  | _ :: _, _, _ :: _, _, .cons h t, h' => .cons h (vals_app t h')
section
variable {X : Cx} {pins : List (Addr × Obj)} {σ : L2.St} {A : Around} {R : Result → Shared → Prop} {z TI TO i1 i2 l1 l2 S : Addr} {xs ys : List V} {H0 : Hp} {res : Value}
theorem zdrain (D : ZipApart z TI TO i1 i2 l1 l2) (hS : S ∉ [z, TI, TO, i1, i2]) (hh : A.handled = none) (hS1 : S ≠ l1) (hS2 : S ≠ l2) (h0 : H0 S = none) (hn : min xs.length ys.length ≤ sizeLine)
    (hR : ∀ s' H' zs, L2.Inv X pins σ H' s' → Same H0 H' → H' S = some (.lst zs) → zs.length = min xs.length ys.length → ZipRel H' xs ys zs → R (.ok (.ret res)) s') :
    ∀ (m i : Nat) (s : Shared) (H : Hp) (zs : List V), min xs.length ys.length - i = m → i ≤ min xs.length ys.length → L2.Inv X pins σ H s → Same H0 H → H S = some (.lst zs) → zs.length = i → ZipRel H xs ys zs → SqL X.K H l1 xs → SqL X.K H l2 ys →
      (∀ b ∈ [z, TI, TO, i1, i2], FpOk X pins H b) → ZSt z TI TO i1 i2 l1 l2 S i s.heap → codeAny (model X.prog X.w) A (.builtin "list.extend.loop" ⟨[.ref S, .ref z, res], []⟩) R s := by
  intro m
  induction m with
  | zero =>
    intro i s H zs hm hi I sm hSz hl hzr hq1 hq2 hf st
    obtain ⟨its, rv, p1, _⟩ := I.list hq1
    obtain ⟨its2, rv2, p2, _⟩ := I.list hq2
    have e1 := rv.length
    have e2 := rv2.length
    refine codeAny_builtin F.entry_extend_loop ?_
    rw [Around.under_plainId F.plain_extend_loop _]
    show wpAny _ A.in1 (pyNext (.ref z) >>= _) _ _ s
    refine wpAny_bind (znext_end (A := A.in1) hh D st p1.isList p2.isList ?_ fun h' hk => ?_)
    · by_cases q : xs.length ≤ i
      · exact .inl (by simp; omega)
      · exact .inr (by simp; omega)
    · exact wpAny_pure (hR _ H zs (I.turnedL (t' := s.toks) hk hf) sm hSz (by omega) hzr)
  | succ m ih =>
    intro i s H zs hm hi I sm hSz hl hzr hq1 hq2 hf st
    obtain ⟨its, rv, p1, _⟩ := I.list hq1
    obtain ⟨its2, rv2, p2, _⟩ := I.list hq2
    have e1 := rv.length
    have e2 := rv2.length
    obtain ⟨x, hx⟩ : ∃ x, xs[i]? = some x := ⟨xs[i]'(by omega), List.getElem?_eq_getElem _⟩
    obtain ⟨y, hy⟩ : ∃ y, ys[i]? = some y := ⟨ys[i]'(by omega), List.getElem?_eq_getElem _⟩
    obtain ⟨u, hu, ru⟩ := rv.get hx
    obtain ⟨u2, hu2, ru2⟩ := rv2.get hy
    obtain ⟨zl, acc, c, rz, eS⟩ := I.hok S _ hSz
    have hSl : S < s.heap.objs.size := Heap.lt_size eS
    refine codeAny_builtin F.entry_extend_loop ?_
    rw [Around.under_plainId F.plain_extend_loop _]
    show wpAny _ A.in1 (pyNext (.ref z) >>= _) _ _ s
    refine wpAny_bind (znext_item (A := A.in1) D st hSl p1.isList p2.isList (x := u) (y := u2) (by simpa using hu) (by simpa using hu2) fun h' st' hT hk => ?_)
    have hTn : H s.heap.objs.size = none := I.hok.fresh (Nat.le_refl _)
    have hTS : s.heap.objs.size ≠ S := Nat.ne_of_gt hSl
    have I1 : L2.Inv X pins σ (upd H s.heap.objs.size (.tup [x, y])) { s with heap := h' } :=
      I.turnedNew (t' := s.toks) (ch := [z, TI, TO, i1, i2]) hk hf (Nat.le_refl _) ⟨by show 2 ≤ sizeLine; decide, [u, u2], .cons ru (.cons ru2 .nil), ⟨_, hT, rfl, _, rfl⟩⟩
    have eS' := hk S _ hS eS
    show wpAny _ A.in1 (updateSeq S (·.push (.ref s.heap.objs.size)) >>= _) _ _ _
    have hasz : acc.length < sizeLine := by have := rz.length; omega
    refine wpAny_bind (wpAny_updateSeq eS' rfl (wpAny_pure ⟨plainId_quiet F.plain_extend_loop _, ?_⟩) (by simp; omega) (by simp; omega))
    have hother : ∀ b o, b ≠ S → h'.get? b = some o → (h'.update S (Obj.mapSeq (·.push (.ref s.heap.objs.size)))).get? b = some o := fun b o hb e => (Heap.get?_update_other _ _ (Ne.symm hb)).trans e
    have hself := Heap.get?_update_self (Obj.mapSeq (·.push (Value.ref s.heap.objs.size))) eS' rfl
    have hSz1 : upd H s.heap.objs.size (.tup [x, y]) S = some (.lst zs) := by rw [upd_ne hTS.symm]; exact hSz
    have I2 := I1.write (t' := s.toks) (x := S) (e := S) (o := .lst (zs ++ [.ref s.heap.objs.size])) (h' := h'.update S (Obj.mapSeq (·.push (.ref s.heap.objs.size)))) (by rw [hSz1]; exact True.intro) (.inl rfl) hother ⟨_, hself⟩
      ⟨by simp; omega, acc ++ [.ref s.heap.objs.size], _, vals_app rz (Paired.cons (show L2.RelV (V.ref s.heap.objs.size) (Value.ref s.heap.objs.size) from rfl) .nil), by rw [hself]; simp [Obj.mapSeq]; rfl⟩
    have hup : upd (upd H s.heap.objs.size (.tup [x, y])) S (.lst (zs ++ [.ref s.heap.objs.size])) s.heap.objs.size = some (.tup [x, y]) := by rw [upd_ne hTS]; exact upd_same
    have hkeep : ∀ b o, b ≠ S → H b = some o → upd (upd H s.heap.objs.size (.tup [x, y])) S (.lst (zs ++ [.ref s.heap.objs.size])) b = some o := fun b o hb e => by
      rw [upd_ne hb, upd_ne (ne_of_none e hTn)]; exact e
    refine ih (i + 1) _ _ (zs ++ [.ref s.heap.objs.size]) (by omega) (by omega) I2 (fun b o e => ?_) upd_same (by simp [hl]) (fun j v hj => ?_) ?_ ?_ (fun b hb => ?_) (st'.keep hS hother)
    · have e' := sm b o e
      exact hkeep b o (fun q => by rw [q, h0] at e; cases e) e'
    · rcases get_push hj with hj | ⟨rfl, rfl⟩
      · obtain ⟨T, x', y', q1, q2, q3⟩ := hzr j v hj
        exact ⟨T, x', y', q1, hkeep T _ (fun q => by rw [q, hSz] at q2; cases q2) q2, q3⟩
      · exact ⟨_, x, y, rfl, hup, by rw [hl]; exact hx, by rw [hl]; exact hy⟩
    · rcases hq1 with (q | ⟨o, q⟩) | q
      · exact .inl (.inl (hkeep _ _ hS1.symm q))
      · exact .inl (.inr ⟨o, hkeep _ _ hS1.symm q⟩)
      · exact .inr q
    · rcases hq2 with (q | ⟨o, q⟩) | q
      · exact .inl (.inl (hkeep _ _ hS2.symm q))
      · exact .inl (.inr ⟨o, hkeep _ _ hS2.symm q⟩)
      · exact .inr q
    · have q := hf b hb
      have hbS : b ≠ S := fun q : b = S => hS (q ▸ hb)
      have hbT : b ≠ s.heap.objs.size := fun q => by
        have hlt : b < s.heap.objs.size := by
          obtain ⟨hz, hTI, ⟨x0, y0, hTO⟩, h1, h2⟩ := st
          have e' : b = z ∨ b = TI ∨ b = TO ∨ b = i1 ∨ b = i2 := by simpa using hb
          rcases e' with e | e | e | e | e <;> subst e
          · rcases hz with hz | ⟨_, _, _, hz, _⟩ <;> exact Heap.lt_size hz
          · exact Heap.lt_size hTI
          · exact Heap.lt_size hTO
          · obtain ⟨_, e, _⟩ := h1; exact Heap.lt_size e
          · obtain ⟨_, e, _⟩ := h2; exact Heap.lt_size e
        exact absurd q (Nat.ne_of_lt hlt)
      refine ⟨?_, q.2⟩
      rw [upd_ne hbS, upd_ne hbT]
      exact q.1
/-- list(zip(a, b)): both lists -/
def tLstZip (K : PySem.W.Frag) (ta : TA) : TE := fun σ H Q => ta σ H fun vs H1 => ∃ a b xs ys, vs = [.ref a, .ref b] ∧ SqL K H1 a xs ∧ SqL K H1 b ys ∧ ∀ p H2 zs, H1 p = none → Same H1 H2 → H2 p = some (.lst zs) → zs.length = min xs.length ys.length → ZipRel H2 xs ys zs → Q (.ref p) H2
theorem pe_lstZip {e e2 : Expr} {ta : TA} {p pos p' pos' : Pos} (hc : X.calm = true) (hgl : Gl X "list") (hml : X.mg "list" = none) (hg : Gl X "zip") (hm : X.mg "zip" = none) (ha : PA X [e, e2] ta)
    (hs : starEach [e, e2] X.env = (false, eval e X.env) :: starEach [e2] X.env := by rfl) (hpl : (backTo pos (starEach [e2] X.env)).any (·.1) = false := by rfl)
    (na : starEach [.Call (.Name "zip" p) [e, e2] [] pos] X.env = (false, eval (.Call (.Name "zip" p) [e, e2] [] pos) X.env) :: starEach [] X.env := by rfl) :
    PE X (.Call (.Name "list" p') [.Call (.Name "zip" p) [e, e2] [] pos] [] pos') (tLstZip X.K ta) := by
  refine ⟨fun pins s σ H Q I h => ?_⟩
  refine Call_ (ld_blt I hgl hml boot_list (PyProof.Rows.callWith_type1 (args_cons (Call_ (ld_blt I hg hm PyProof.Rows.boot_zip (PyProof.Rows.callWith_type1 (thn (ha.run pos pins s σ H _ I h) fun us s1 ⟨vs, H1, I1, r1, q1⟩ => ?_) hs hpl))) na) na))
  obtain ⟨a, b, xs, ys, ex, hqx, hqy, q⟩ := q1
  subst ex
  cases r1 with
  | cons r rr =>
    cases rr with
    | cons r' rr =>
      cases rr
      cases r
      cases r'
      obtain ⟨its, rv, p1, hl1⟩ := I1.list hqx
      obtain ⟨its2, rv2, p2, hl2⟩ := I1.list hqy
      have la : a < s1.heap.objs.size := p1.lt
      have lb : b < s1.heap.objs.size := p2.lt
      refine call_zip_2 p1.isList p2.isList fun h' hz hTI hTO h1 h2 hsz hk => args_nil ?_
      have I2 : L2.Inv X pins σ H1 { s1 with heap := h' } := I1.kept (t' := s1.toks) hk
      have hlen : min xs.length ys.length ≤ sizeLine := by omega
      refine callType_codes (Q₁ := fun obj s₁ => obj = .ref h'.objs.size ∧ s₁ = { s1 with heap := h'.push { cls := .type "list", data := .seq #[] } }) F.called_list (F.typeCall_list_1 _) F.entry_list_init
        (code_list_new _ ⟨rfl, rfl⟩) fun obj s₁ h₁ => ?_
      obtain ⟨rfl, rfl⟩ := h₁
      have hS : (h'.push { cls := .type "list", data := .seq #[] }).get? h'.objs.size = some { cls := .type "list", data := .seq #[] } := Heap.get?_push_size _ rfl
      refine ⟨⟨_, hS, rfl⟩, F.args_list_init_2 _ _, ?_⟩
      have Dp := PySem.W.ktu_apart s1.heap.objs.size a b la lb
      have k1 : ∀ b o, h'.get? b = some o → (h'.push { cls := .type "list", data := .seq #[] }).get? b = some o := fun b o e => Heap.get?_push_of_some _ e
      have hzS : s1.heap.objs.size + 4 ≠ h'.objs.size := by rw [hsz]; omega
      show wpAny _ _ (do let old ← Builtin.List.listItems (.ref h'.objs.size); Builtin.List.listUpdate (.ref h'.objs.size) (fun _ => #[]); letGo old.toList.reverse; Builtin.List.listExtendWith (.ref h'.objs.size) (.ref (s1.heap.objs.size + 4)) .none) _ _ _
      refine wpAny_bind ?_
      unfold Builtin.List.listItems
      refine wpAny_bind (wpAny_seqItems hS rfl (wpAny_pure ?_))
      show wpAny _ _ (updateSeq h'.objs.size (fun _ => #[]) >>= fun _ => letGo (#[] : Array Value).toList.reverse >>= fun _ => Builtin.List.listExtendWith (.ref h'.objs.size) (.ref (s1.heap.objs.size + 4)) .none) _ _ _
      refine wpAny_bind (wpAny_updateSeq hS rfl ?_)
      have hS2 := Heap.get?_update_self (Obj.mapSeq (fun _ => (#[] : Array Value))) hS rfl
      refine wpAny_bind (wpAny_letGo ?_)
      unfold Builtin.List.listExtendWith
      have up : ∀ (h2 : Heap) (f : Obj → Obj), (∀ b o, h'.get? b = some o → h2.get? b = some o) → ∀ b o, h'.get? b = some o → (h2.update h'.objs.size f).get? b = some o := fun h2 f q b o e =>
        (Heap.get?_update_other _ _ (Ne.symm (Nat.ne_of_lt (Heap.lt_size e)))).trans (q b o e)
      have k2 := up _ (Obj.mapSeq (fun _ => (#[] : Array Value))) k1
      refine wpAny_bind (wpAny_typeOf (T := "zip") ⟨_, k2 _ _ hz, rfl⟩ ?_)
      have g1 : Builtin.List.listSameRef (.ref h'.objs.size) (.ref (s1.heap.objs.size + 4)) = false := by simp [Builtin.List.listSameRef, hzS.symm]
      have g2 : (Value.type "zip" == Value.type "list") = false := by decide
      have g3 : (Value.type "zip" == Value.type "tuple") = false := by decide
      simp only [g1, g2, g3, Bool.or_false, Bool.false_eq_true, if_false]
      refine wpAny_bind (wpAny_pyIter_zip (k2 _ _ hz) ?_)
      refine wpAny_bind (wpAny_holding ?_)
      unfold Builtin.List.listLengthHint
      refine wpAny_bind (wpAny_specialOf (T := "zip") ⟨_, k2 _ _ hz, rfl⟩ zip_no_len ?_)
      show wpAny _ _ (specialOf (Value.ref (s1.heap.objs.size + 4)) (Str.ofString "__length_hint__") >>= _) _ _ _
      refine wpAny_bind (wpAny_specialOf (T := "zip") ⟨_, k2 _ _ hz, rfl⟩ zip_no_hint ?_)
      refine wpAny_pure ?_
      show wpAny _ _ (rule "list.extend.makes-room" >>= fun _ => Builtin.List.listTouch (.ref h'.objs.size) >>= fun _ =>
        again (.builtin "list.extend.loop" ⟨[.ref h'.objs.size, .ref (s1.heap.objs.size + 4), .none], []⟩)) _ _ _
      refine wpAny_bind (wpAny_rule ?_)
      refine wpAny_bind ?_
      show wpAny _ _ (updateSeq h'.objs.size (·.push .none) >>= fun _ => updateSeq h'.objs.size (·.pop)) _ _ _
      refine wpAny_bind (wpAny_updateSeq hS2 rfl ?_)
      have hS3 := Heap.get?_update_self (Obj.mapSeq (·.push Value.none)) hS2 rfl
      refine wpAny_updateSeq (hz := by seq_fits) hS3 rfl ?_
      have hS4 := Heap.get?_update_self (Obj.mapSeq (·.pop)) hS3 rfl
      have k4 := up _ (Obj.mapSeq (·.pop)) (up _ (Obj.mapSeq (·.push Value.none)) k2)
      refine wpAny_pure ⟨plainId_quiet F.plain_extend_loop _, ?_⟩
      have hSn : H1 h'.objs.size = none := I2.hok.fresh (Nat.le_refl _)
      have I3 := I2.laid (t' := s1.toks) (a := h'.objs.size) (o := .lst []) k4 (Nat.le_refl _) ⟨Nat.zero_le _, [], _, .nil, hS4⟩
      have hfp : ∀ c ∈ [s1.heap.objs.size + 4, s1.heap.objs.size + 2, s1.heap.objs.size + 3, s1.heap.objs.size, s1.heap.objs.size + 1], s1.heap.objs.size ≤ c ∧ c < h'.objs.size := fun c hcm => by
        have e' : c = s1.heap.objs.size + 4 ∨ c = s1.heap.objs.size + 2 ∨ c = s1.heap.objs.size + 3 ∨ c = s1.heap.objs.size ∨ c = s1.heap.objs.size + 1 := by simpa using hcm
        rw [hsz]
        rcases e' with z | z | z | z | z <;> rw [z] <;> refine ⟨?_, ?_⟩ <;> omega
      have lS : ∀ {c : Addr}, c < s1.heap.objs.size → h'.objs.size ≠ c := fun {c} h => Nat.ne_of_gt (Nat.lt_of_lt_of_le h (by rw [hsz]; exact Nat.le_add_right _ _))
      refine zdrain (A := X.A.in1) (X := X) (pins := pins) (σ := σ) (xs := xs) (ys := ys) (H0 := H1) Dp (fun hm => absurd (hfp _ hm).2 (Nat.lt_irrefl _)) (show X.A.in1.handled = none from I1.ok.hd hc) (lS la) (lS lb) hSn hlen (fun s' H' zs I' sm e1 e2 e3 => ?_) _ 0 _ (upd H1 h'.objs.size (.lst [])) [] rfl (Nat.zero_le _) I3 (same_upd hSn) upd_same rfl (fun j v hj => by simp at hj) ?_ ?_ (fun c hcm => ?_) ?_
      · exact ⟨rfl, .ref h'.objs.size, H', I', rfl, q _ H' zs hSn sm e1 e2 e3⟩
      · rcases hqx with (q' | ⟨o, q'⟩) | q'
        · exact .inl (.inl (same_upd hSn _ _ q'))
        · exact .inl (.inr ⟨o, same_upd hSn _ _ q'⟩)
        · exact .inr q'
      · rcases hqy with (q' | ⟨o, q'⟩) | q'
        · exact .inl (.inl (same_upd hSn _ _ q'))
        · exact .inl (.inr ⟨o, same_upd hSn _ _ q'⟩)
        · exact .inr q'
      · obtain ⟨g1', g2'⟩ := hfp c hcm
        have qf := I1.fpOk (H' := upd H1 h'.objs.size (.lst [])) g1' (by rw [upd_ne (Nat.ne_of_lt g2')]; exact I1.hok.fresh g1')
        exact qf
      · exact ⟨.inl (k4 _ _ hz), k4 _ _ hTI, ⟨_, _, k4 _ _ hTO⟩, h1.at fun o e => k4 _ _ e, h2.at fun o e => k4 _ _ e⟩
theorem zip_rp {K : Kx} {H : Hp} {as bs : List Dt} {xs ys zs : List V} (h1 : RpL K H as xs) (h2 : RpL K H bs ys) (hl : zs.length = min xs.length ys.length) (h : ZipRel H xs ys zs) : RpL K H (zipD as bs) zs := by
  induction as generalizing bs xs ys zs with
  | nil =>
    cases h1
    simp at hl
    subst hl
    rfl
  | cons a as ih =>
    obtain ⟨x, xs', rfl, ra, rs⟩ := h1
    cases bs with
    | nil =>
      cases h2
      simp at hl
      subst hl
      rfl
    | cons b bs =>
      obtain ⟨y, ys', rfl, rb, rt⟩ := h2
      cases zs with
      | nil => simp at hl
      | cons z zs' =>
        obtain ⟨T, x', y', rfl, hT, ex, ey⟩ := h 0 z rfl
        simp at ex ey
        subst ex ey
        refine ⟨_, zs', rfl, ⟨T, _, rfl, .inl (.inl hT), x, [y], rfl, ra, y, [], rfl, rb, rfl⟩, ih rs rt (by simp at hl; omega) fun j v hj => ?_⟩
        simpa using h (j + 1) v (by simpa using hj)
theorem en_listZip {a b : Expr} {f : AF} {p q pos qp : Pos} (hc : X.calm = true) (hml : X.mg "list" = none) (hgl : Gl X "list") (hm : X.mg "zip" = none) (hg : Gl X "zip") (ha : EA X [a, b] f)
    (hs : starEach [a, b] X.env = (false, eval a X.env) :: starEach [b] X.env := by rfl) (hpl : (backTo qp (starEach [b] X.env)).any (·.1) = false := by rfl)
    (na : starEach [.Call (.Name "zip" q) [a, b] [] qp] X.env = (false, eval (.Call (.Name "zip" q) [a, b] [] qp) X.env) :: starEach [] X.env := by rfl) :
    EN X (.Call (.Name "list" p) [.Call (.Name "zip" q) [a, b] [] qp] [] pos) (itZ f) := by
  obtain ⟨t, h1, h2⟩ := ha
  refine ⟨_, pe_lstZip hc hgl hml hg hm h1 hs hpl na, fun O H0 H σ env τ ts ds env' Q S hf k => ?_⟩
  unfold itZ at hf
  split at hf
  · rename_i as bs e1 he
    cases hf
    refine runs_aD h2 S he fun vs H1 r S1 => ?_
    obtain ⟨v, r', rfl, ⟨p', xs, rfl, hq, hr⟩, w, r2, rfl, ⟨q', ys, rfl, hq2, hr2⟩, e3⟩ := r
    cases e3
    refine ⟨p', q', xs, ys, rfl, hq.sq, hq2.sq, fun c H2 zs hn sm hz hl hzr => k _ _ ?_⟩
    have kp := Kp.of_same sm
    exact S1.pushO sm (fp := [c]) ⟨c, zs, rfl, rfl, hz, zip_rp (hr.kp kp) (hr2.kp kp) hl hzr⟩ (fun b hb => by cases List.mem_singleton.mp hb; exact hn) rfl
  · cases hf
end
def B_step_into_l1 : SF := (sSeq (sAsg (eCall F_step (aI (eVar 0) (aI (eVar 1) (aI (eVar 2) (aI (eVar 5) aNil))))) (gTp (gsCons (gNm 6) (gsCons (gNm 7) (gsCons (gNm 8) gsNil)))))
    (sIf (tAndF (tVal (eOp dEq (eVar 7) (eVar 3))) (tVal (eInV false (eVar 6) 4))) (sRet (eTup (aI (eVar 5) (aI (eVar 6) aNil)))) sSkip))
def B_step_into : SF := (sSeq (sFor (itD (eTup (aI (eC (.int 0)) (aI (eC (.int 1)) (aI (eC (.int 2)) (aI (eC (.int 3)) aNil)))))) (gNm 5) B_step_into_l1)
    (sRet (eC .none)))
def F_step_into : List Dt → Option Dt := fnP 5 4 B_step_into
def B_first_jobs_l1 : SF := (sApp 4 (eNewD (nDc [7] (itK (eVarD 5)) (gNm 7) (tVal (eOp dIsn (eCall F_step_into (aI (eVar 0) (aI (eVar 1) (aI (eVar 7) (aI (eVar 6) (aI (eOpV dIx 4 (eUn dNeg (eC (.int 1)))) aNil)))))) (eC .none))) (eVar 7) (eC (.bool true)))))
def B_first_jobs_l2 : SF := (sSeq (sAsg (eCall F_step_into (aI (eVar 0) (aI (eVar 1) (aI (eVar 7) (aI (eVar 6) (aI (eVarD 9) aNil)))))) (gTp (gsCons (gNm 10) (gsCons (gNm 7) gsNil))))
    (sApp 8 (eVar 10)))
def B_first_jobs : SF := (sSeq (sExpr (eCall F_need_both (aI (eVar 0) (aI (eVar 1) aNil))))
    (sSeq (sExpr (eCall F_need_notes (aI (eVar 2) aNil)))
    (sSeq (sSet 3 (eCall F_layers_of (aI (eVar 0) (aI (eVar 1) (aI (eVar 2) aNil)))))
    (sSeq (sIf (tVal (eEmp (eOp dIx (eVar 3) (eUn dNeg (eC (.int 1)))))) (sRet (eC .none)) sSkip)
    (sSeq (sNew 4 (nLst (aI (eOp dIx (eVar 3) (eUn dNeg (eC (.int 1)))) aNil)))
    (sSeq (sFor (itD (eNew (nBack (eNew (itZ (aI (eSl (eVar 3) oNo (oAt (eUn dNeg (eC (.int 1))))) (aI (eVar 2) aNil))))))) (gTp (gsCons (gNm 5) (gsCons (gNm 6) gsNil))) B_first_jobs_l1)
    (sSeq (sPar [7, 8] (aI (eCall F_begun aNil) (aN (nLst aNil) aNil)))
    (sSeq (sFor (itZ (aI (eVar 2) (aI (eSl (eNew (nBack (eVar 4))) (oAt (eC (.int 1))) oNo) aNil))) (gTp (gsCons (gNm 6) (gsCons (gNm 9) gsNil))) B_first_jobs_l2)
    (sRet (eVar 8))))))))))
def F_first_jobs : List Dt → Option Dt := fnP 3 8 B_first_jobs
def B_heights_of_l1 : SF := (sSeq (sSet 8 (eOp dSub (eOp dAdd (eGetV 2 (eVar 4)) (eOp dMul (eVar 7) (eOp dIx (eVar 1) (eC (.int 1))))) (eOp dIx (eVar 1) (eC (.int 0)))))
    (sIf (tVal (eOp dGt (eVar 8) (eGetV 2 (eVar 6)))) (sSeq (sPutV 2 (eVar 6) (eVar 8))
    (sSet 3 (eC (.bool true)))) sSkip))
def B_heights_of_l2 : SF := (sFor (itD (eGetV 0 (eVar 4))) (gTp (gsCons (gNm 5) (gsCons (gNm 6) (gsCons (gNm 7) gsNil)))) B_heights_of_l1)
def B_heights_of_l3 : SF := (sSeq (sSet 3 (eC (.bool false)))
    (sFor (itK (eVarD 0)) (gNm 4) B_heights_of_l2))
def B_heights_of : SF := (sSeq (sPar [2, 3] (aDn (nDc [4] (itK (eVarD 0)) (gNm 4) tYesF (eVar 4) (eC (.int 0))) (aI (eC (.bool true)) aNil)))
    (sSeq (whileD (tVal (eVar 3)) B_heights_of_l3 1000000)
    (sRet (eVarD 2))))
def F_heights_of : List Dt → Option Dt := fnP 2 7 B_heights_of
def B_tight_of_l1 : SF := (sIf (tVal (eOp dEq (eOp dSub (eOp dAdd (eGetV 2 (eVar 4)) (eOp dMul (eVar 8) (eOp dIx (eVar 1) (eC (.int 1))))) (eOp dIx (eVar 1) (eC (.int 0)))) (eGetV 2 (eVar 7)))) (sApp 5 (eTup (aI (eVar 6) (aI (eVar 7) aNil)))) sSkip)
def B_tight_of_l2 : SF := (sSeq (sNew 5 (nLst aNil))
    (sSeq (sFor (itD (eGetV 0 (eVar 4))) (gTp (gsCons (gNm 6) (gsCons (gNm 7) (gsCons (gNm 8) gsNil)))) B_tight_of_l1)
    (sPutV 3 (eVar 4) (eVar 5))))
def B_tight_of_l3 : SF := (sSeq (sNew 5 (nLc [11] (itD (eGetV 3 (eVar 4))) (gNm 11) (tVal (eInV false (eOp dIx (eVar 11) (eC (.int 1))) 3)) (eVar 11)))
    (sIf (tVal (eOpV dNe 5 (eNew (nLst aNil)))) (sPutV 10 (eVar 4) (eVar 5)) sSkip))
def B_tight_of_l4 : SF := (sSeq (sNewD 10 dEmp)
    (sSeq (sFor (itK (eVarD 3)) (gNm 4) B_tight_of_l3)
    (sSeq (sSet 9 (eNeD 10 3))
    (sSet 3 (eVarD 10)))))
def B_tight_of : SF := (sSeq (sPar [2, 3] (aI (eCall F_heights_of (aI (eVarD 0) (aI (eVar 1) aNil))) (aDn dEmp aNil)))
    (sSeq (sFor (itK (eVarD 0)) (gNm 4) B_tight_of_l2)
    (sSeq (sSet 9 (eC (.bool true)))
    (sSeq (whileD (tVal (eVar 9)) B_tight_of_l4 1000000)
    (sRet (eVarD 3))))))
def F_tight_of : List Dt → Option Dt := fnP 2 10 B_tight_of
def B_way_into_l1 : SF := (sIf (tVal (eInV true (eVar 7) 3)) (sSeq (sPutV 3 (eVar 7) (eOp dAdd (eGetV 3 (eVar 5)) (eNew (nLst (aI (eVar 6) aNil)))))
    (sApp 4 (eVar 7))) sSkip)
def B_way_into_l2 : SF := (sSeq (sSet 5 (ePopAt 4 (eC (.int 0))))
    (sFor (itD (eGetV 0 (eVar 5))) (gTp (gsCons (gNm 6) (gsCons (gNm 7) (gsCons (gNm 8) gsNil)))) B_way_into_l1))
def B_way_into : SF := (sSeq (sPar [3, 4] (aDn (dOne (eVar 1) (eNew (nLst aNil))) (aN (nLst (aI (eVar 1) aNil)) aNil)))
    (sSeq (whileD (tVal (eInV true (eOpV dIx 4 (eC (.int 0))) 2)) B_way_into_l2 1000000)
    (sRet (eTup (aI (eGetV 3 (eOpV dIx 4 (eC (.int 0)))) (aI (eOpV dIx 4 (eC (.int 0))) aNil))))))
def F_way_into : List Dt → Option Dt := fnP 3 6 B_way_into
def B_best_ring_l1 : SF := (sSeq (sPutV 6 (eVar 4) (eLenV 5))
    (sSeq (sAsg (eOp dIx (eGetV 2 (eVar 4)) (eC (.int 0))) (gTp (gsCons (gNm 7) (gsCons (gNm 4) gsNil))))
    (sApp 5 (eVar 7))))
def B_best_ring : SF := (sSeq (sSet 2 (eCall F_tight_of (aI (eVarD 0) (aI (eCall F_mean_of (aI (eVarD 0) aNil)) aNil))))
    (sSeq (sAsg (eCall F_way_into (aI (eVarD 0) (aI (eVar 1) (aI (eVarD 2) aNil)))) (gTp (gsCons (gNm 3) (gsCons (gNm 4) gsNil))))
    (sSeq (sPar [5, 6] (aN (nCall seqOf (aI (eVar 3) aNil)) (aDn dEmp aNil)))
    (sSeq (whileD (tVal (eInV true (eVar 4) 6)) B_best_ring_l1 1000000)
    (sRet (eTup (aI (eSl (eVar 5) oNo (oAt (eGetV 6 (eVar 4)))) (aI (eSl (eVar 5) (oAt (eGetV 6 (eVar 4))) oNo) aNil))))))))
def F_best_ring : List Dt → Option Dt := fnP 2 6 B_best_ring
def B_losing_row : SF := (sSeq (sExpr (eCall F_need_both (aI (eVar 0) (aI (eVar 1) aNil))))
    (sRet (eCall F_best_ring (aI (eCall F_worths (aI (eVar 0) (aI (eVar 1) (aI (eC (.bool false)) aNil)))) (aI (eCall F_begun aNil) aNil)))))
def F_losing_row : List Dt → Option Dt := fnP 2 0 B_losing_row
def B_vain_row : SF := (sSeq (sExpr (eCall F_need_both (aI (eVar 0) (aI (eVar 1) aNil))))
    (sRet (eCall F_best_ring (aI (eCall F_worths (aI (eVar 0) (aI (eVar 1) (aI (eC (.bool true)) aNil)))) (aI (eCall F_begun aNil) aNil)))))
def F_vain_row : List Dt → Option Dt := fnP 2 0 B_vain_row
section
variable {X : Cx} {e a b c : Expr} {es rest : List Expr} {pos : Pos}
/-! ### min of a list of data -/
def allAlike (ds : List Dt) : Bool := ds.all fun a => notN a && ds.all fun b => PySem.W.alike a b
def rMinD (K : Kx) : List V → Hp → VK → Prop := fun vs H Q => ∃ v x xs, vs = [v] ∧ Rp K H (.list (x :: xs)) v ∧ okD 40 (.list (x :: xs)) = true ∧ allAlike (x :: xs) = true ∧ ∀ u, Rp K H (PySem.W.minD x xs) u → Q u H
theorem cr_minD (hc : X.calm = true) (hu : X.A.units + 64 < cLine) : CallR X (.builtin "min") (rMinD X.kx) := by
  intro pins s σ H vs us Q I r h
  obtain ⟨v, x, xs, rfl, hv, ok, al, q⟩ := h
  obtain ⟨a, ys, rfl, f, rx⟩ := hv
  rw [Vals.ref1 r]
  obtain ⟨its, rv, hl, _⟩ := I.list f.sq
  obtain ⟨p1, p2⟩ := okD_plain _ 40 ok
  have p1' : PyData.plainAll (x :: xs) = true := by simpa [PyData.plain] using p1
  have p2' : PyData.depthAll (x :: xs) ≤ 40 := by simp only [PyData.depth] at p2; omega
  obtain ⟨as, ra⟩ := rpl_reads I p1' rx rv
  have al' : PySem.W.AlikeAll (x :: xs) := by
    unfold allAlike at al
    rw [List.all_eq_true] at al
    refine ⟨fun y hy z hz => ?_, fun y hy e => ?_⟩
    · have := al y hy
      rw [Bool.and_eq_true, List.all_eq_true] at this
      exact this.2 z hz
    · have := al y hy
      rw [Bool.and_eq_true, e] at this
      exact absurd this.1 (by decide)
  refine PySem.W.min_list_data (x := x) (xs := xs) (I.ok.hd hc) hl.isList ra al' (by omega) fun i w h' tk bs hi rw' hk => ?_
  obtain ⟨cs, r1, h1, _, _⟩ := PySem.W.readsAll_atA ra i w hi
  have r2 := PySem.W.reads_keeps hk r1
  have ed : PySem.W.minD x xs = (x :: xs).getD i .none := (PyProof.Rows.reads_det (h := h') (h' := h') (fun b o e _ => e) r2 rw').1
  have hd : (x :: xs)[i]? = some ((x :: xs).getD i .none) := by
    rw [List.getD_eq_getElem?_getD, List.getElem?_eq_getElem h1]; rfl
  obtain ⟨z, g1, g2⟩ := rx.get hd
  obtain ⟨u, g3, g4⟩ := Vals.get rv g1
  have hi' : its[i]? = some w := by simpa using hi
  rw [hi'] at g3; cases g3
  exact ⟨z, H, I.kept hk, g4, q z (by rw [ed]; exact g2)⟩
def dMinD : List Dt → Option Dt
  | [.list (x :: xs)] => if okD 40 (.list (x :: xs)) && allAlike (x :: xs) then some (PySem.W.minD x xs) else none
  | _ => none
theorem cd_minD {K : Kx} : CallD K (rMinD K) dMinD := by
  intro H xs ds d Q r hg k
  unfold dMinD at hg
  split at hg
  · rename_i x ys
    split at hg
    · rename_i hc
      cases hg
      rw [Bool.and_eq_true] at hc
      obtain ⟨v, rfl, h1⟩ := r.one_inv
      exact ⟨v, x, ys, rfl, h1, hc.1, hc.2, fun u hu => k u H (Same.refl H) hu⟩
    · cases hg
  · cases hg
theorem ei_minD {f : AF} {p : Pos} (hc : X.calm = true) (hu : X.A.units + 64 < cLine) (hm : X.mg "min" = none) (hg : Gl X "min") (ha : EA X (e :: es) f)
    (hs : starEach (e :: es) X.env = (false, eval e X.env) :: starEach es X.env := by rfl) (hst : ((backTo pos (starEach es X.env)).any (·.1)) = false := by rfl) : EI X (.Call (.Name "min" p) (e :: es) [] pos) (eCall dMinD f) :=
  ei_B (cr_minD hc hu) cd_minD hm hg (by decide +kernel) ha (by decide) (by decide) hs hst
end

/-! ### instances of one's own -/
structure ClOk (K : PySem.W.Frag) (nm : Str) (C : Addr) : Prop where
  ns : PySem.W.nsIn K mainGlobals nm = some (some (.ref C))
  cl : Cls K C
theorem ClOk.eq {K : Kx} {nm : Str} {C D : Addr} (h : ClOk K.fr nm C) (g : ClsAt K nm D) : D = C := by
  unfold ClsAt at g
  rw [h.ns] at g
  cases g
  rfl
structure GoodM (P : Program) (w : World) (K : PySem.W.Frag) (mg : Str → Option Value) (base : Heap) (k : Nat) (C : Addr) (m : Str) (ps : List Str) (sp : Sp) : Prop where
  ex : ∃ f fd, FnOk P w K mg base CX0 k f fd ps sp ∧ Binds K fd ps [] ∧ Meth K C m f
structure HasM (K : PySem.W.Frag) (C : Addr) (m q : Str) (st : Stmt) (ps : List Str) : Prop where
  ex : ∃ (f : Addr) (fd : FuncData), Fun K m q st f fd ∧ Binds K fd ps [] ∧ Meth K C m f
def frzF (fs : ObF) : ObF := fs.map fun p => (p.1, match p.2 with
  | .im d => .im d
  | .ow ds => .im (.list ds)
  | .od kvs => .im (.dict kvs))
mutual
def lfree : Dt → Bool
  | .none => true
  | .bool _ => true
  | .int _ => true
  | .str _ => true
  | .tuple ds => lfreeL ds
  | .list _ => false
  | .dict _ => false
def lfreeL : List Dt → Bool
  | [] => true
  | d :: ds => lfree d && lfreeL ds
end
section
variable {K : Kx} {H H' : Hp}
mutual
theorem Rp.unl {fp : List Addr} (h1 : ∀ b, b ∉ fp → H' b = H b) (h2 : ∀ b ∈ fp, ∃ o u, H b = some (.frz o u) ∧ ∀ xs, u ≠ .tup xs) : ∀ (d : Dt) (v : V), lfree d = true → Rp K H d v → Rp K H' d v
  | .none, _, _, h => h
  | .bool _, _, _, h => h
  | .int _, _, _, h => h
  | .str _, _, _, h => h
  | .list _, _, l, _ => by simp [lfree] at l
  | .dict _, _, l, _ => by simp [lfree] at l
  | .tuple ds, _, l, h => by
    obtain ⟨a, xs, e, f, r⟩ := h
    have l' : lfreeL ds = true := by simpa [lfree] using l
    refine ⟨a, xs, e, ?_, RpL.unl h1 h2 ds xs l' r⟩
    by_cases ha : a ∈ fp
    · obtain ⟨o, u, q1, q2⟩ := h2 a ha
      rcases f with (f | ⟨o', f⟩) | f
      · rw [f] at q1; cases q1
      · rw [f] at q1; cases q1; exact absurd rfl (q2 xs)
      · exact .inr f
    · rcases f with (f | ⟨o', f⟩) | f
      · exact .inl (.inl ((h1 a ha).trans f))
      · exact .inl (.inr ⟨o', (h1 a ha).trans f⟩)
      · exact .inr f
theorem RpL.unl {fp : List Addr} (h1 : ∀ b, b ∉ fp → H' b = H b) (h2 : ∀ b ∈ fp, ∃ o u, H b = some (.frz o u) ∧ ∀ xs, u ≠ .tup xs) : ∀ (ds : List Dt) (vs : List V), lfreeL ds = true → RpL K H ds vs → RpL K H' ds vs
  | [], _, _, h => h
  | d :: ds, _, l, h => by
    obtain ⟨v, r, e, g1, g2⟩ := h
    have l' : lfree d = true ∧ lfreeL ds = true := by simpa [lfreeL] using l
    exact ⟨v, r, e, Rp.unl h1 h2 d v l'.1 g1, RpL.unl h1 h2 ds r l'.2 g2⟩
end
theorem FdsOk.frz (kp : Kp H H') : ∀ {fs : ObF} {vs : List (Str × V)} {as : List Addr}, (∀ b ∈ as, ∃ o u, H b = some u ∧ H' b = some (.frz o u)) → FdsOk K H fs vs as → FdsOk K H' (frzF fs) vs []
  | [], _, _, _, h => ⟨h.1, rfl⟩
  | (n, .im d) :: r, _, _, l, h => by
    obtain ⟨v, vs', rfl, h1, h2⟩ := h
    exact ⟨v, vs', rfl, Rp.kp kp _ _ h1, FdsOk.frz kp l h2⟩
  | (n, .ow ds) :: r, _, _, l, h => by
    obtain ⟨b, ys, vs', as', rfl, rfl, h1, h2, h3⟩ := h
    obtain ⟨o, u, q1, q2⟩ := l b List.mem_cons_self
    rw [h1] at q1; cases q1
    exact ⟨_, vs', rfl, ⟨b, ys, rfl, .inl ⟨o, q2⟩, h2.kp kp⟩, FdsOk.frz kp (fun c hc => l c (List.mem_cons_of_mem _ hc)) h3⟩
  | (n, .od kvs) :: r, _, _, l, h => by
    obtain ⟨b, es, vs', as', rfl, rfl, h1, h2, h3⟩ := h
    obtain ⟨o, u, q1, q2⟩ := l b List.mem_cons_self
    rw [h1] at q1; cases q1
    exact ⟨_, vs', rfl, ⟨b, es, o, rfl, q2, h2.kp kp⟩, FdsOk.frz kp (fun c hc => l c (List.mem_cons_of_mem _ hc)) h3⟩
theorem FdsOk.no {m : Str} : ∀ {fs : ObF} {vs : List (Str × V)} {as : List Addr}, FdsOk K H fs vs as → fs.lookup m = none → vs.lookup m = none
  | [], _, _, h, _ => by rw [h.1]; rfl
  | (n, .im d) :: r, _, _, h, l => by
    obtain ⟨v, vs', rfl, h1, h2⟩ := h
    rw [List.lookup_cons] at l ⊢
    split at l
    · cases l
    · rename_i q
      try rw [q]
      exact FdsOk.no h2 l
  | (n, .ow ds) :: r, _, _, h, l => by
    obtain ⟨b, ys, vs', as', rfl, rfl, h1, h2, h3⟩ := h
    rw [List.lookup_cons] at l ⊢
    split at l
    · cases l
    · rename_i q
      try rw [q]
      exact FdsOk.no h3 l
  | (n, .od kvs) :: r, _, _, h, l => by
    obtain ⟨b, es, vs', as', rfl, rfl, h1, h2, h3⟩ := h
    rw [List.lookup_cons] at l ⊢
    split at l
    · cases l
    · rename_i q
      try rw [q]
      exact FdsOk.no h3 l
end
def obAt (env : Nv) (i : Nat) (nm m : Str) : Option (Bool × ObF) := match env[i]? with
  | some (some (.ob io nm' fs)) => if nm' = nm ∧ fs.lookup m = none then some (io, fs) else none
  | _ => none
theorem obAt_eq {env : Nv} {i : Nat} {nm m : Str} {io : Bool} {fs : ObF} (h : obAt env i nm m = some (io, fs)) : env[i]? = some (some (.ob io nm fs)) ∧ fs.lookup m = none := by
  unfold obAt at h
  split at h
  · rename_i io' nm' fs' he
    split at h
    · rename_i hc
      cases h
      rw [← hc.1]
      exact ⟨he, hc.2⟩
    · cases h
  · cases h

/-! ### promises of methods -/
/-- reads alone; the lists are frozen -/
def SpQ (K : Kx) (nm : Str) (g : ObF → Option Dt) : Sp := fun vs H Q _ => ∃ a C dx fvs fs d, vs = [.ref a] ∧ ClsAt K nm C ∧ H a = some (.ins C dx fvs) ∧ FdsOk K H fs fvs [] ∧ g fs = some d ∧ ∀ v H', Same H H' → Rp K H' d v → Q v H'
def SpQN (K : Kx) (nm : Str) (g : ObF → Option (List Dt)) : Sp := fun vs H Q _ => ∃ a C dx fvs fs ds, vs = [.ref a] ∧ ClsAt K nm C ∧ H a = some (.ins C dx fvs) ∧ FdsOk K H fs fvs [] ∧ g fs = some ds ∧ ∀ p xs H', Same H H' → H p = none → H' p = some (.lst xs) → RpL K H' ds xs → Q (.ref p) H'
/-- changes the instance -/
def SpM (K : Kx) (nm : Str) (g : ObF → List Dt → Option (Dt × ObF)) : Sp := fun vs H Q _ => ∃ a rest fs fp ds d fs', vs = .ref a :: rest ∧ SlOk K H (.ref a) (.ob true nm fs) fp ∧ RpL K H ds rest ∧ g fs ds = some (d, fs') ∧
  ∀ v H' fp', (∀ b u, H b = some u → b ∉ fp → H' b = some u) → (∀ b, H b ≠ none → H' b ≠ none) → SlOk K H' (.ref a) (.ob true nm fs') fp' → (∀ b ∈ fp', b ∈ fp ∨ H b = none) → Rp K H' d v → Q v H'
section
variable {X : Cx} {e a b c o : Expr} {es rest : List Expr} {pos : Pos}
def eMethB (nm m : Str) (i : Nat) (g : ObF → Option Dt) : EF := fun env => match obAt env i nm m with
  | some (_, fs) => match g (frzF fs) with
    | some d => if lfree d = true then some (d, env) else none
    | none => none
  | none => none
def nMethB (nm m : Str) (i : Nat) (g : ObF → Option (List Dt)) : NF := fun env => match obAt env i nm m with
  | some (_, fs) => match g (frzF fs) with
    | some ds => if lfreeL ds = true then some (ds, env) else none
    | none => none
  | none => none
theorem SlOk.obmut {K : Kx} {H : Hp} {fs : ObF} {vs : List (Str × V)} {as : List Addr} (h : FdsOk K H fs vs as) : ∀ b ∈ as, ∃ u, H b = some u ∧ Mut (some u) := fun b hb => by
  obtain ⟨u, e, hu⟩ := h.there b hb
  rcases hu with ⟨ys, rfl⟩ | ⟨es, rfl⟩
  · exact ⟨_, e, trivial⟩
  · exact ⟨_, e, trivial⟩
theorem same3 {H H1 H2 H3 : Hp} {as : List Addr} (l : LockAll H H1 as) (sm : Same H1 H2) (g1 : ∀ b, b ∉ as → H3 b = H2 b) (g2 : ∀ b ∈ as, ∀ o u, H2 b = some (.frz o u) → H3 b = some u) : Same H H3 := fun b u q => by
  by_cases hb : b ∈ as
  · obtain ⟨o, u', q1, q2⟩ := l.2 b hb
    rw [q] at q1; cases q1
    exact g2 b hb o u (sm b _ q2)
  · rw [g1 b hb]
    exact sm b u (by rw [l.1 b hb]; exact q)
theorem locked {K : Kx} {H H1 H2 : Hp} {as : List Addr} {fs : ObF} {vs : List (Str × V)} (l : LockAll H H1 as) (sm : Same H1 H2) (hf : FdsOk K H fs vs as) : ∀ b ∈ as, ∃ o u, H2 b = some (.frz o u) ∧ ∀ xs, u ≠ .tup xs := fun b hb => by
  obtain ⟨o, u, q1, q2⟩ := l.2 b hb
  obtain ⟨u', e, hu⟩ := hf.there b hb
  rw [q1] at e; cases e
  refine ⟨o, u, sm b _ q2, fun xs z => ?_⟩
  rcases hu with ⟨ys, rfl⟩ | ⟨es, rfl⟩ <;> cases z
theorem ei_methB {k i : Nat} {C : Addr} {nm m x : Str} {g : ObF → Option Dt} {apos p : Pos} {pl : Sem Bool} (hC : ClOk X.K nm C) (G : GoodM X.prog X.w X.K X.mg X.base k C m ["self"] (SpQ X.kx nm g)) (hr : Room k X.A) (hN : X.N[i]? = some x)
    (hv : Vis X.env.scope x := by first | exact Or.inl rfl | exact Or.inr (Or.inl rfl) | exact Or.inr (Or.inr rfl)) (hd : (x == ("__debug__" : Str)) = false := by decide) (hcd : (x == ("__classdict__" : Str)) = false := by decide)
    (ht : eval (.Call (.Attribute (.Name x p) m apos) [] [] pos) X.env = (do
      let ov ← eval (.Name x p) X.env
      standAt apos.atName
      let (f, first) ← holding [ov] (getMethod ov m pl)
      callWith pos f first (backTo pos (starEach [] X.env)) (backToKw pos (keywordEach [] X.env))) := by rfl) :
    EI X (.Call (.Attribute (.Name x p) m apos) [] [] pos) (eMethB nm m i g) := by
  obtain ⟨f, fd, F, B, M⟩ := G.ex
  refine ⟨_, pe_bor (pe_meth0 (pl := pl) (pe_var hN hv hd hcd) hC.cl M F hr B .nil pass0 ht), fun O H0 H σ env τ ts d env' Q S h k => ?_⟩
  unfold eMethB at h
  split at h
  · rename_i io fs ho
    split at h
    · rename_i d' hg
      split at h
      · rename_i hl
        cases h
        obtain ⟨he, hno⟩ := obAt_eq ho
        obtain ⟨v, fp, hw, ⟨a, D, dx, vs, as, rfl, rfl, nd, hcl, hH, hf⟩, fin⟩ := S.stepX he
        have eD := hC.eq hcl
        subst eD
        have nd' := List.nodup_cons.mp nd
        refine ⟨as, nd'.2, SlOk.obmut hf, fun H1 l => ?_⟩
        have kp := l.kp (SlOk.obmut hf)
        have hf1 := hf.frz kp l.2
        have hH1 : H1 a = some (.ins D dx vs) := by rw [l.1 a nd'.1]; exact hH
        refine ⟨.ref a, hw, a, dx, vs, rfl, hH1, hf.no hno, a, D, dx, vs, frzF fs, d, rfl, hcl, hH1, hf1, hg, fun v H2 sm r => ⟨sm, fun H3 g1 g2 => k v H3 ?_⟩⟩
        exact (S.same (same3 l sm g1 g2)).push (Rp.unl g1 (locked l sm hf) d v hl r)
      · cases h
    · cases h
  · cases h
theorem en_methB {k i : Nat} {C : Addr} {nm m x : Str} {g : ObF → Option (List Dt)} {apos p : Pos} {pl : Sem Bool} (hC : ClOk X.K nm C) (G : GoodM X.prog X.w X.K X.mg X.base k C m ["self"] (SpQN X.kx nm g)) (hr : Room k X.A) (hN : X.N[i]? = some x)
    (hv : Vis X.env.scope x := by first | exact Or.inl rfl | exact Or.inr (Or.inl rfl) | exact Or.inr (Or.inr rfl)) (hd : (x == ("__debug__" : Str)) = false := by decide) (hcd : (x == ("__classdict__" : Str)) = false := by decide)
    (ht : eval (.Call (.Attribute (.Name x p) m apos) [] [] pos) X.env = (do
      let ov ← eval (.Name x p) X.env
      standAt apos.atName
      let (f, first) ← holding [ov] (getMethod ov m pl)
      callWith pos f first (backTo pos (starEach [] X.env)) (backToKw pos (keywordEach [] X.env))) := by rfl) :
    EN X (.Call (.Attribute (.Name x p) m apos) [] [] pos) (nMethB nm m i g) := by
  obtain ⟨f, fd, F, B, M⟩ := G.ex
  refine ⟨_, pe_bor (pe_meth0 (pl := pl) (pe_var hN hv hd hcd) hC.cl M F hr B .nil pass0 ht), fun O H0 H σ env τ ts d env' Q S h k => ?_⟩
  unfold nMethB at h
  split at h
  · rename_i io fs ho
    split at h
    · rename_i d' hg
      split at h
      · rename_i hl
        cases h
        obtain ⟨he, hno⟩ := obAt_eq ho
        obtain ⟨v, fp, hw, ⟨a, D, dx, vs, as, rfl, rfl, nd, hcl, hH, hf⟩, fin⟩ := S.stepX he
        have eD := hC.eq hcl
        subst eD
        have nd' := List.nodup_cons.mp nd
        refine ⟨as, nd'.2, SlOk.obmut hf, fun H1 l => ?_⟩
        have kp := l.kp (SlOk.obmut hf)
        have hf1 := hf.frz kp l.2
        have hH1 : H1 a = some (.ins D dx vs) := by rw [l.1 a nd'.1]; exact hH
        refine ⟨.ref a, hw, a, dx, vs, rfl, hH1, hf.no hno, a, D, dx, vs, frzF fs, d, rfl, hcl, hH1, hf1, hg, fun p xs H2 sm hp hp2 r => ⟨sm, fun H3 g1 g2 => k _ H3 ?_⟩⟩
        have hpa : p ∉ as := fun z => by
          obtain ⟨o, u, _, q2⟩ := l.2 p z
          rw [hp] at q2; cases q2
        have hp0 : H p = none := by rw [← l.1 p hpa]; exact hp
        refine S.pushO (same3 l sm g1 g2) (s := .ow false d) (fp := [p]) ⟨p, xs, rfl, rfl, ?_, RpL.unl g1 (locked l sm hf) d xs hl r⟩ (fun b hb => by cases List.mem_singleton.mp hb; exact hp0) rfl
        rw [g1 p hpa]; exact hp2
      · cases h
    · cases h
  · cases h
theorem kp_of {H H' : Hp} {fp : List Addr} (hm : ∀ b ∈ fp, ∃ u, H b = some u ∧ Mut (some u)) (fr : ∀ b u, H b = some u → b ∉ fp → H' b = some u) : Kp H H' := by
  refine ⟨fun b xs q => fr b _ q fun z => ?_, fun b o u q => fr b _ q fun z => ?_⟩
  · obtain ⟨u, q', m⟩ := hm b z
    rw [q] at q'; cases q'; exact m
  · obtain ⟨u', q', m⟩ := hm b z
    rw [q] at q'; cases q'; exact m
def eMethM (nm m : Str) (i : Nat) (g : ObF → List Dt → Option (Dt × ObF)) (f : AF) : EF := fun env => match obAt env i nm m with
  | some _ => match aD f env with
    | some (ds, e1) => match obAt e1 i nm m with
      | some (io, fs) => match g fs ds with
        | some (d, fs') => some (d, e1.set i (some (.ob io nm fs')))
        | none => none
      | none => none
    | none => none
  | none => none
theorem ei_methM {k i : Nat} {C : Addr} {nm m x : Str} {ps : List Str} {g : ObF → List Dt → Option (Dt × ObF)} {f : AF} {apos p : Pos} {pl : Sem Bool} (hC : ClOk X.K nm C) (G : GoodM X.prog X.w X.K X.mg X.base k C m ps (SpM X.kx nm g)) (hr : Room k X.A) (hN : X.N[i]? = some x) (ha : EA X (e :: es) f)
    (hv : Vis X.env.scope x := by first | exact Or.inl rfl | exact Or.inr (Or.inl rfl) | exact Or.inr (Or.inr rfl)) (hd : (x == ("__debug__" : Str)) = false := by decide) (hcd : (x == ("__classdict__" : Str)) = false := by decide)
    (hst : starEach (e :: es) X.env = (false, eval e X.env) :: starEach es X.env := by rfl) (hpl : (backTo pos (starEach es X.env)).any (·.1) = false := by rfl)
    (ht : eval (.Call (.Attribute (.Name x p) m apos) (e :: es) [] pos) X.env = (do
      let ov ← eval (.Name x p) X.env
      standAt apos.atName
      let (f, first) ← holding [ov] (getMethod ov m pl)
      callWith pos f first (backTo pos (starEach (e :: es) X.env)) (backToKw pos (keywordEach [] X.env))) := by rfl) :
    EI X (.Call (.Attribute (.Name x p) m apos) (e :: es) [] pos) (eMethM nm m i g f) := by
  obtain ⟨fa, fd, F, B, M⟩ := G.ex
  obtain ⟨t, h1, h2⟩ := ha
  refine ⟨_, pe_meth (pl := pl) (pe_var hN hv hd hcd) hC.cl M F hr B .nil pass0 h1 hst hpl ht, fun O H0 H σ env τ ts d env' Q S h k => ?_⟩
  unfold eMethM at h
  split at h
  · rename_i p0 ho0
    split at h
    · rename_i ds e1 he1
      split at h
      · rename_i io fs ho
        split at h
        · rename_i d' fs' hg
          cases h
          obtain ⟨he0, hno0⟩ := obAt_eq (io := p0.1) (fs := p0.2) ho0
          obtain ⟨v0, fp0, hw0, ⟨a, D, dx, vs0, as0, rfl, rfl, nd0, hcl0, hH0, hf0⟩, _⟩ := S.stepX he0
          have eD := hC.eq hcl0
          subst eD
          refine ⟨.ref a, hw0, a, dx, vs0, rfl, hH0, hf0.no hno0, runs_aD h2 S he1 fun vs H2 r S2 => ?_⟩
          obtain ⟨he, hno⟩ := obAt_eq ho
          obtain ⟨v, fp, hw, sl, fin⟩ := S2.stepX he
          rw [hw0] at hw; cases hw
          have sl' : SlOk X.kx H2 (.ref a) (.ob true nm fs) fp := sl
          refine ⟨a, vs, fs, fp, ds, d, fs', by simp, sl', r, hg, fun v H' fp' fr lv ok sub rv => k v H' ?_⟩
          exact (fin H' (.ob io nm fs') (kp_of sl'.mut fr) lv (fun b u hb q => fr b u q hb) ⟨fp', ok, sub⟩ id).push rv
        · cases h
      · cases h
    · cases h
  · cases h

/-! ### a new instance -/
abbrev BF := Nv → Option (ObF × Nv)
def RunsB (K : Kx) (nm : Str) (t : TE) (f : BF) : Prop := ∀ (O : Ow) (H0 H : Hp) (σ : L2.St) (env : Nv) (τ : L2.St) (ts : Nv) (fs : ObF) (env' : Nv) (Q : VK), Sg K O H0 H σ env τ ts → f env = some (fs, env') →
  (∀ v H', Sg K O H0 H' σ env' (τ ++ [some v]) (ts ++ [some (.ob false nm fs)]) → Q v H') → t σ H Q
def EB (X : Cx) (nm : Str) (e : Expr) (f : BF) : Prop := ∃ t, PE X e t ∧ RunsB X.kx nm t f
def bMake (g : ObF → List Dt → Option (Dt × ObF)) (f : AF) : BF := fun env => match aD f env with
  | some (ds, e1) => match g [] ds with
    | some (.none, fs) => some (fs, e1)
    | _ => none
  | none => none
theorem eb_make {k : Nat} {C : Addr} {nm : Str} {ps : List Str} {g : ObF → List Dt → Option (Dt × ObF)} {f : AF} {p : Pos} (hC : ClOk X.K nm C) (mk : PySem.W.makesIn X.K C = true) (kc : PySem.W.keepIn X.K (.ref C) = true) (hm : X.mg nm = some (.ref C)) (G : GoodM X.prog X.w X.K X.mg X.base k C "__init__" ps (SpM X.kx nm g)) (hr : Room (k + 1) X.A) (hg : Gl X nm) (ha : EA X (e :: es) f)
    (hdb : (nm == ("__debug__" : Str)) = false := by decide) (he : starEach (e :: es) X.env = (false, eval e X.env) :: starEach es X.env := by rfl) (hpl : (backTo pos (starEach es X.env)).any (·.1) = false := by rfl) :
    EB X nm (.Call (.Name nm p) (e :: es) [] pos) (bMake g f) := by
  obtain ⟨fa, fd, F, B, M⟩ := G.ex
  obtain ⟨t, h1, h2⟩ := ha
  refine ⟨_, pe_make ⟨mk, M.at_, M.fn, kc⟩ F hr hg hm B .nil pass0 h1 hdb he hpl, fun O H0 H σ env τ ts fs env' Q S h k => ?_⟩
  unfold bMake at h
  split at h
  · rename_i ds e1 he1
    split at h
    · rename_i fs' hg'
      cases h
      refine runs_aD h2 S he1 fun vs H1 r S1 => ?_
      intro x dx nx ndx nex
      have s0 : Same H1 (upd (upd H1 dx (.own x)) x (.ins C dx [])) := fun b o e => by
        rw [upd_ne (ne_of_none e nx), upd_ne (ne_of_none e ndx)]
        exact e
      refine ⟨x, vs, [], [x], ds, .none, fs, by simp, ⟨x, C, dx, [], [], rfl, rfl, by simp, hC.ns, upd_same, rfl, rfl⟩, RpL.kp (.of_same s0) _ _ r, hg', fun v H' fp' fr lv ok sub rv => ⟨rv, k _ H' ?_⟩⟩
      refine S1.pushO (s := .ob false nm fs) (fp := fp') (fun b u q => fr b u (s0 b u q) fun z => ?_) ok (fun b hb => ?_) rfl
      · rw [List.mem_singleton.mp z, nx] at q; cases q
      · rcases sub b hb with z | z
        · rw [List.mem_singleton.mp z]; exact nx
        · cases q : H1 b with
          | none => rfl
          | some u => rw [s0 b u q] at z; cases z
    · cases h
  · cases h
def sNewB (i : Nat) (nm : Str) (f : BF) : SF := fun env => match f env with
  | some (fs, e) => some (.nx (e.set i (some (.ob false nm fs))))
  | none => none
theorem sx_setB {i : Nat} {nm x : Str} {f : BF} {pos' : Pos} (hN : X.N.Nodup) (hi : X.N[i]? = some x) (hx : Loc X.env.scope x) (h : EB X nm e f) (hs : swapsWith e (some (.Name x pos')) pos.line X.env = pure false := by rfl)
    (hf : X.fn x = true ∨ X.env.scope.names.lookup x = some .local := by first | exact .inl rfl | exact .inr rfl | assumption) : SX X (.Assign [.Name x pos'] e pos) (sNewB i nm f) := by
  obtain ⟨t, h1, h2⟩ := h
  refine ⟨_, ps_set hN hi hx h1 hs hf, fun O H0 H σ env τ ts out D S h k => ?_⟩
  unfold sNewB at h
  split at h
  · rename_i d e1 he
    cases h
    exact h2 O H0 H σ env τ ts d e1 _ S he fun v H1 S1 => k _ H1 (S1.put i)
  · cases h
def aB (nm : Str) (f : BF) (r : AF) : AF := fun env => match f env with
  | some (fs, e1) => match r e1 with
    | some (ss, e2) => some (.ob false nm fs :: ss, e2)
    | none => none
  | none => none
theorem ea_b {nm : Str} {f : BF} {r : AF} (h : EB X nm e f) (hr : EA X es r) (hs : starEach (e :: es) X.env = (false, eval e X.env) :: starEach es X.env := by rfl) : EA X (e :: es) (aB nm f r) := by
  obtain ⟨_, h1, h2⟩ := h
  obtain ⟨_, h3, h4⟩ := hr
  refine ⟨_, pa_cons h1 h3 hs, fun O H0 H σ env τ ts ss env' Q S h k => ?_⟩
  unfold aB at h
  split at h
  · rename_i d e1 he
    split at h
    · rename_i ss' e2 he2
      cases h
      refine h2 O H0 H σ env τ ts d e1 _ S he fun v H1 S1 => ?_
      refine h4 O H0 H1 σ e1 _ _ ss' env' _ S1 he2 fun vs H2 hl S2 => ?_
      exact k (v :: vs) H2 (by simp [hl]) (by simpa using S2)
    · cases h
  · cases h
end
/-! ### methods that read alone -/
section
variable {K : Kx} {H H' : Hp}
theorem FdsOk.im {n : Str} {d : Dt} : ∀ {fs : ObF} {vs : List (Str × V)} {as : List Addr}, FdsOk K H fs vs as → fs.lookup n = some (.im d) → ∃ v, vs.lookup n = some v ∧ Rp K H d v
  | [], _, _, _, l => by cases l
  | (n', .im d') :: r, _, _, h, l => by
    obtain ⟨v, vs', rfl, h1, h2⟩ := h
    rw [List.lookup_cons] at l ⊢
    split at l
    · rename_i q
      cases l
      exact ⟨v, rfl, h1⟩
    · rename_i q
      exact FdsOk.im h2 l
  | (n', .ow ds) :: r, _, _, h, l => by
    obtain ⟨b, ys, vs', as', rfl, rfl, h1, h2, h3⟩ := h
    rw [List.lookup_cons] at l ⊢
    split at l
    · cases l
    · rename_i q
      exact FdsOk.im h3 l
  | (n', .od kvs) :: r, _, _, h, l => by
    obtain ⟨b, es, vs', as', rfl, rfl, h1, h2, h3⟩ := h
    rw [List.lookup_cons] at l ⊢
    split at l
    · cases l
    · rename_i q
      exact FdsOk.im h3 l
end
abbrev OG := ObF → Option Dt
def RunsF (K : Kx) (nm : Str) (t : TE) (g : OG) : Prop := ∀ (H : Hp) (σ : L2.St) (a C dx : Addr) (fvs : List (Str × V)) (fs : ObF) (d : Dt) (Q : VK), σ[0]? = some (some (.ref a)) → ClsAt K nm C → H a = some (.ins C dx fvs) → FdsOk K H fs fvs [] → g fs = some d → (∀ v H', Same H H' → Rp K H' d v → Q v H') → t σ H Q
def RunsFs (K : Kx) (nm : Str) (t : TA) (g : ObF → Option (List Dt)) : Prop := ∀ (H : Hp) (σ : L2.St) (a C dx : Addr) (fvs : List (Str × V)) (fs : ObF) (ds : List Dt) (Q : List V → Hp → Prop), σ[0]? = some (some (.ref a)) → ClsAt K nm C → H a = some (.ins C dx fvs) → FdsOk K H fs fvs [] → g fs = some ds → (∀ vs H', Same H H' → RpL K H' ds vs → Q vs H') → t σ H Q
def RunsFN (K : Kx) (nm : Str) (t : TE) (g : ObF → Option (List Dt)) : Prop := ∀ (H : Hp) (σ : L2.St) (a C dx : Addr) (fvs : List (Str × V)) (fs : ObF) (ds : List Dt) (Q : VK), σ[0]? = some (some (.ref a)) → ClsAt K nm C → H a = some (.ins C dx fvs) → FdsOk K H fs fvs [] → g fs = some ds →
  (∀ p xs H', Same H H' → H p = none → H' p = some (.lst xs) → RpL K H' ds xs → Q (.ref p) H') → t σ H Q
def EF0 (X : Cx) (nm : Str) (e : Expr) (g : OG) : Prop := ∃ t, PE X e t ∧ RunsF X.kx nm t g
def EFs (X : Cx) (nm : Str) (es : List Expr) (g : ObF → Option (List Dt)) : Prop := ∃ t, PA X es t ∧ RunsFs X.kx nm t g
def EFN (X : Cx) (nm : Str) (e : Expr) (g : ObF → Option (List Dt)) : Prop := ∃ t, PE X e t ∧ RunsFN X.kx nm t g
section
variable {X : Cx} {e a b c o : Expr} {es rest : List Expr} {pos : Pos} {nm : Str} {C : Addr}
def gFld (n : Str) : OG := fun fs => match fs.lookup n with
  | some (.im d) => some d
  | _ => none
theorem f_fld {n : Str} {p : Pos} (hC : ClOk X.K nm C) (hn : NoAttr X.K C n) (hN : X.N[0]? = some ("self" : Str) := by rfl) (hv : Vis X.env.scope "self" := by first | exact Or.inl rfl | exact Or.inr (Or.inl rfl) | exact Or.inr (Or.inr rfl))
    (hb : attributeBase (.Name "self" p) n X.env (eval (.Name "self" p) X.env) = eval (.Name "self" p) X.env := by rfl) : EF0 X nm (.Attribute (.Name "self" p) n pos) (gFld n) := by
  refine ⟨_, pe_fld (pe_var hN hv) hb, fun H σ a D dx fvs fs d Q h0 hc hH hf hg k => ?_⟩
  have eD := hC.eq hc
  subst eD
  unfold gFld at hg
  split at hg
  · rename_i d' hl
    cases hg
    obtain ⟨v, h1, h2⟩ := hf.im hl
    exact ⟨.ref a, h0, a, D, dx, fvs, v, rfl, hH, hC.cl, hn, h1, k v H (Same.refl H) h2⟩
  · cases hg
def gNil : ObF → Option (List Dt) := fun _ => some []
def gCons (g : OG) (r : ObF → Option (List Dt)) : ObF → Option (List Dt) := fun fs => match g fs with
  | some d => match r fs with
    | some ds => some (d :: ds)
    | none => none
  | none => none
theorem f_nil : EFs X nm [] gNil := ⟨_, pa_nil, fun H σ a D dx fvs fs ds Q h0 hc hH hf hg k => by cases hg; exact k [] H (Same.refl H) rfl⟩
theorem f_cons {g : OG} {r : ObF → Option (List Dt)} (h : EF0 X nm e g) (h' : EFs X nm es r) (hs : starEach (e :: es) X.env = (false, eval e X.env) :: starEach es X.env := by rfl) : EFs X nm (e :: es) (gCons g r) := by
  obtain ⟨_, h1, h2⟩ := h
  obtain ⟨_, h3, h4⟩ := h'
  refine ⟨_, pa_cons h1 h3 hs, fun H σ a D dx fvs fs ds Q h0 hc hH hf hg k => ?_⟩
  unfold gCons at hg
  split at hg
  · rename_i d hd
    split at hg
    · rename_i ds' hds
      cases hg
      refine h2 H σ a D dx fvs fs d _ h0 hc hH hf hd fun v H1 s1 r1 => ?_
      refine h4 H1 σ a D dx fvs fs ds' _ h0 hc (s1 _ _ hH) (hf.kp (.of_same s1) fun b hb => by cases hb) hds fun vs H2 s2 r2 => ?_
      exact k (v :: vs) H2 (fun b u q => s2 b u (s1 b u q)) ⟨v, vs, rfl, Rp.kp (.of_same s2) _ _ r1, r2⟩
    · cases hg
  · cases hg
def gCall (F : List Dt → Option Dt) (r : ObF → Option (List Dt)) : OG := fun fs => match r fs with
  | some ds => F ds
  | none => none
theorem f_call {k : Nat} {x : Str} {ps : List Str} {F : List Dt → Option Dt} {r : ObF → Option (List Dt)} {p : Pos} (G : Good X.prog X.w X.K X.mg X.base k x ps (SpP X.kx F)) (hr : Room k X.A) (hg : Gl X x) (ha : EFs X nm (e :: es) r)
    (hd : (x == ("__debug__" : Str)) = false := by decide) (hs : starEach (e :: es) X.env = (false, eval e X.env) :: starEach es X.env := by rfl) (hst : ((backTo pos (starEach es X.env)).any (·.1)) = false := by rfl) : EF0 X nm (.Call (.Name x p) (e :: es) [] pos) (gCall F r) := by
  obtain ⟨fa, fd, Fo, B, M, kp⟩ := G.ex
  obtain ⟨_, h1, h2⟩ := ha
  refine ⟨_, pe_call Fo hr hg M kp B .nil pass0 h1 hd hs hst, fun H σ a D dx fvs fs d Q h0 hc hH hf hg k => ?_⟩
  unfold gCall at hg
  split at hg
  · rename_i ds hds
    refine h2 H σ a D dx fvs fs ds _ h0 hc hH hf hds fun vs H1 s1 r1 => ⟨ds, d, ?_, hg, fun v H' s2 rv => k v H' (fun b u q => s2 b u (s1 b u q)) rv⟩
    rw [List.append_nil]; exact r1
  · cases hg
/-- a def that gives a new list -/
def SpN (K : Kx) (f : List Dt → Option (List Dt)) : Sp := fun vs H Q _ => ∃ ds r, RpL K H ds vs ∧ f ds = some r ∧ ∀ p xs H', Same H H' → H p = none → H' p = some (.lst xs) → RpL K H' r xs → Q (.ref p) H'
def gCallN (F : List Dt → Option (List Dt)) (r : ObF → Option (List Dt)) : ObF → Option (List Dt) := fun fs => match r fs with
  | some ds => F ds
  | none => none
theorem f_callN {k : Nat} {x : Str} {ps : List Str} {F : List Dt → Option (List Dt)} {r : ObF → Option (List Dt)} {p : Pos} (G : Good X.prog X.w X.K X.mg X.base k x ps (SpN X.kx F)) (hr : Room k X.A) (hg : Gl X x) (ha : EFs X nm (e :: es) r)
    (hd : (x == ("__debug__" : Str)) = false := by decide) (hs : starEach (e :: es) X.env = (false, eval e X.env) :: starEach es X.env := by rfl) (hst : ((backTo pos (starEach es X.env)).any (·.1)) = false := by rfl) : EFN X nm (.Call (.Name x p) (e :: es) [] pos) (gCallN F r) := by
  obtain ⟨fa, fd, Fo, B, M, kp⟩ := G.ex
  obtain ⟨_, h1, h2⟩ := ha
  refine ⟨_, pe_call Fo hr hg M kp B .nil pass0 h1 hd hs hst, fun H σ a D dx fvs fs d Q h0 hc hH hf hg k => ?_⟩
  unfold gCallN at hg
  split at hg
  · rename_i ds hds
    refine h2 H σ a D dx fvs fs ds _ h0 hc hH hf hds fun vs H1 s1 r1 => ⟨ds, d, ?_, hg, fun p xs H' s2 hp hp2 rv => k p xs H' (fun b u q => s2 b u (s1 b u q)) ?_ hp2 rv⟩
    · rw [List.append_nil]; exact r1
    · cases q : H p with
      | none => rfl
      | some u => rw [s1 p u q] at hp; cases hp
  · cases hg
def gSeq (g : OG) : ObF → Option (List Dt) := fun fs => match g fs with
  | some (.list ds) => some ds
  | _ => none
theorem f_list {g : OG} {p : Pos} (hm : X.mg "list" = none) (hg : Gl X "list") (ha : EF0 X nm a g)
    (hs : starEach [a] X.env = (false, eval a X.env) :: starEach [] X.env := by rfl) (hst : ((backTo pos (starEach [] X.env)).any (·.1)) = false := by rfl) : EFN X nm (.Call (.Name "list" p) [a] [] pos) (gSeq g) := by
  obtain ⟨_, h1, h2⟩ := ha
  refine ⟨_, pe_callTy call_list_of hg hm (by decide +kernel) (pa_cons h1 pa_nil hs) (by decide) (by decide) hs hst, fun H σ a D dx fvs fs d Q h0 hc hH hf hg k => ?_⟩
  unfold gSeq at hg
  split at hg
  · rename_i ds hds
    cases hg
    refine h2 H σ a D dx fvs fs _ _ h0 hc hH hf hds fun v H1 s1 r1 => ?_
    obtain ⟨p, ys, rfl, f, r⟩ := r1
    refine ⟨p, ys, rfl, .inl f.sq, fun l hl => k l ys _ (fun b u q => ?_) ?_ upd_same (r.kp (.new hl))⟩
    · have q' := s1 b u q
      rw [upd_ne (ne_of_none q' hl)]
      exact q'
    · cases q : H l with
      | none => rfl
      | some u => rw [s1 l u q] at hl; cases hl
  · cases hg
def gLen (g : OG) : OG := fun fs => match g fs with
  | some (.list ds) => some (.int (ds.length : Int))
  | _ => none
theorem f_len {g : OG} {p : Pos} (hm : X.mg "len" = none) (hg : Gl X "len") (ha : EF0 X nm a g)
    (hs : starEach [a] X.env = (false, eval a X.env) :: starEach [] X.env := by rfl) (hst : ((backTo pos (starEach [] X.env)).any (·.1)) = false := by rfl) : EF0 X nm (.Call (.Name "len" p) [a] [] pos) (gLen g) := by
  obtain ⟨_, h1, h2⟩ := ha
  refine ⟨_, pe_callB call_len_seq hg hm PySem.boot_len (pa_cons h1 pa_nil hs) (by decide) (by decide) hs hst, fun H σ a D dx fvs fs d Q h0 hc hH hf hg k => ?_⟩
  unfold gLen at hg
  split at hg
  · rename_i ds hds
    cases hg
    refine h2 H σ a D dx fvs fs _ _ h0 hc hH hf hds fun v H1 s1 r1 => ?_
    obtain ⟨p, ys, rfl, f, r⟩ := r1
    refine ⟨p, ys, rfl, .inl f.sq, ?_⟩
    rw [r.length]
    exact k _ H1 s1 rfl
  · cases hg

def gMeth (m : Str) (g : OG) : OG := fun fs => if fs.lookup m = none then g fs else none
theorem f_meth {k : Nat} {m : Str} {g : OG} {apos p : Pos} {pl : Sem Bool} (hC : ClOk X.K nm C) (G : GoodM X.prog X.w X.K X.mg X.base k C m ["self"] (SpQ X.kx nm g)) (hr : Room k X.A) (hN : X.N[0]? = some ("self" : Str) := by rfl) (hv : Vis X.env.scope "self" := by first | exact Or.inl rfl | exact Or.inr (Or.inl rfl) | exact Or.inr (Or.inr rfl))
    (ht : eval (.Call (.Attribute (.Name "self" p) m apos) [] [] pos) X.env = (do
      let ov ← eval (.Name "self" p) X.env
      standAt apos.atName
      let (f, first) ← holding [ov] (getMethod ov m pl)
      callWith pos f first (backTo pos (starEach [] X.env)) (backToKw pos (keywordEach [] X.env))) := by rfl) :
    EF0 X nm (.Call (.Attribute (.Name "self" p) m apos) [] [] pos) (gMeth m g) := by
  obtain ⟨f, fd, F, B, M⟩ := G.ex
  refine ⟨_, pe_meth0 (pl := pl) (pe_var hN hv) hC.cl M F hr B .nil pass0 ht, fun H σ a D dx fvs fs d Q h0 hc hH hf hg k => ?_⟩
  have eD := hC.eq hc
  subst eD
  unfold gMeth at hg
  split at hg
  · rename_i hno
    exact ⟨.ref a, h0, a, dx, fvs, rfl, hH, hf.no hno, a, D, dx, fvs, fs, d, rfl, hc, hH, hf, hg, k⟩
  · cases hg
def gCut (g : OG) (n : Int) : OG := fun fs => match g fs with
  | some (.tuple ds) => some (.tuple (cutD ds none (some n)))
  | _ => none
theorem f_cut {g : OG} {n : Int} {k2 : Nat} {p1 p2 : Pos} (h : EF0 X nm e g) : EF0 X nm (.Subscript e (.Slice none (some (.Constant (.int n) k2 p1)) none p2) pos) (gCut g n) := by
  obtain ⟨t, h1, h2⟩ := h
  refine ⟨_, pe_slice sl_tupA h1 po_none (po_some pe_int), fun H σ a D dx fvs fs d Q h0 hc hH hf hg k => ?_⟩
  unfold gCut at hg
  split at hg
  · rename_i ds hds
    cases hg
    refine h2 H σ a D dx fvs fs _ _ h0 hc hH hf hds fun v H1 s1 r1 => ?_
    obtain ⟨p, xs, rfl, f, r⟩ := r1
    refine ⟨n, rfl, p, xs, rfl, f, fun hw => k _ _ s1 ?_, fun _ q hq => k _ _ (fun b u z => ?_) ⟨q, _, rfl, .inl (.inl upd_same), (cut_rp none (some n) r).kp (.new hq)⟩⟩
    · rw [r.length] at hw
      rw [cutD_all hw]
      exact ⟨p, xs, rfl, f, r⟩
    · exact same_upd hq b u (s1 b u z)
  · cases hg
/-! ### the whole method -/
def RetF (X : Cx) (nm : Str) (sts : List Stmt) (g : OG) : Prop := ∃ t, PSs X sts t ∧ ∀ (H : Hp) (σ : L2.St) (a C dx : Addr) (fvs : List (Str × V)) (fs : ObF) (d : Dt) (D : Ends), σ[0]? = some (some (.ref a)) → ClsAt X.kx nm C → H a = some (.ins C dx fvs) → FdsOk X.kx H fs fvs [] → g fs = some d → (∀ v H', Same H H' → Rp X.kx H' d v → D.rt v H') → t D σ H
def RetFN (X : Cx) (nm : Str) (sts : List Stmt) (g : ObF → Option (List Dt)) : Prop := ∃ t, PSs X sts t ∧ ∀ (H : Hp) (σ : L2.St) (a C dx : Addr) (fvs : List (Str × V)) (fs : ObF) (ds : List Dt) (D : Ends), σ[0]? = some (some (.ref a)) → ClsAt X.kx nm C → H a = some (.ins C dx fvs) → FdsOk X.kx H fs fvs [] → g fs = some ds →
  (∀ p xs H', Same H H' → H p = none → H' p = some (.lst xs) → RpL X.kx H' ds xs → D.rt (.ref p) H') → t D σ H
theorem rf_ret {g : OG} (h : EF0 X nm e g) : RetF X nm [.Return (some e) pos] g := by
  obtain ⟨t, h1, h2⟩ := h
  exact ⟨_, pss_one (ps_ret h1), fun H σ a C dx fvs fs d D h0 hc hH hf hg k => h2 H σ a C dx fvs fs d _ h0 hc hH hf hg k⟩
theorem rf_retN {g : ObF → Option (List Dt)} (h : EFN X nm e g) : RetFN X nm [.Return (some e) pos] g := by
  obtain ⟨t, h1, h2⟩ := h
  exact ⟨_, pss_one (ps_ret h1), fun H σ a C dx fvs fs d D h0 hc hH hf hg k => h2 H σ a C dx fvs fs d _ h0 hc hH hf hg k⟩
/-- x = e; then without self -/
def gSetRet (g : OG) (s : SF) : OG := fun fs => match g fs with
  | some d => retD (s [none, some (.im d)])
  | none => none
theorem rf_set {x : Str} {g : OG} {s : SF} {sts : List Stmt} {pos' : Pos} (hN : X.N.Nodup) (hi : X.N[1]? = some x) (hx : Loc X.env.scope x) (h : EF0 X nm e g) (hs : SXs X sts s) (hw : swapsWith e (some (.Name x pos')) pos.line X.env = pure false := by rfl)
    (hf : X.fn x = true ∨ X.env.scope.names.lookup x = some .local := by first | exact .inl rfl | exact .inr rfl | assumption) : ∃ t, PSs X (.Assign [.Name x pos'] e pos :: sts) t ∧ ∀ (H : Hp) (v0 : Option V) (a C dx : Addr) (fvs : List (Str × V)) (fs : ObF) (d : Dt) (D : Ends), ClsAt X.kx nm C → H a = some (.ins C dx fvs) → FdsOk X.kx H fs fvs [] → gSetRet g s fs = some d → (∀ v H', Same H H' → Rp X.kx H' d v → D.rt v H') → (d = .none → ∀ σ H', Same H H' → D.nx σ H') → t D [some (.ref a), v0] H := by
  obtain ⟨t, h1, h2⟩ := h
  obtain ⟨t', h3, h4⟩ := hs
  refine ⟨_, pss_cons (ps_set hN hi hx h1 hw hf) h3, fun H v0 a C dx fvs fs d D hc hH hfd hg k kn => ?_⟩
  unfold gSetRet at hg
  split at hg
  · rename_i d0 hd0
    refine h2 H [some (.ref a), v0] a C dx fvs fs d0 _ rfl hc hH hfd hd0 fun v H1 s1 r1 => ?_
    have S0 : Sg X.kx Ow.nil H1 H1 [] [] [] [] := ⟨⟨rfl, ⟨fun _ => [], fun i s h => by simp at h, fun i s h b hb => (nomatch hb), fun i j s t _ _ _ b hb => (nomatch hb)⟩, fun i s a h o _ => by simp at h, fun a u h _ => h, fun _ z => z.elim⟩, rfl⟩
    have S1 : Sg X.kx Ow.nil H1 H1 [some (.ref a), some v] [none, some (.im d0)] [] [] := ⟨by
      have := (S0.st.pushN (some (V.ref a))).push (v := v) r1
      simpa using this, rfl⟩
    unfold retD at hg
    split at hg
    · rename_i d' e' ho
      cases hg
      exact h4 _ _ _ _ _ _ _ _ _ S1 ho fun v' σ H' S' => k v' H' (fun b u q => S'.st.frame b u (s1 b u q) id) S'.rp
    · rename_i e' ho
      cases hg
      exact h4 _ _ _ _ _ _ _ _ _ S1 ho fun σ H' S' => kn rfl σ H' (fun b u q => S'.st.frame b u (s1 b u q) id)
    · cases hg
  · cases hg
end
section
variable {P : Program} {w : World} {K : PySem.W.Frag} {mg : Str → Option Value} {base : Heap} {st : Stmt} {N ps : List Str} {k : Nat} {nm m q : Str} {C : Addr}
theorem good_q {g : OG} (h : HasM K C m q st ["self"]) (S : FnScope N ["self"] (defScope st))
    (B : ∀ (f : Addr) (cdv : Value) (A : Around) (outer : List Env) (s : Shared) (H : Hp) (E : XK), Room k (A.deeper (PyProof.Rows.envOfC q (defScope st) s.heap.objs.size f cdv)) →
      RetF (cxOf CX0 P w K mg base N q (defScope st) f cdv A outer s H E).nox nm (defBody st) g) : GoodM P w K mg base (k + 1) C m ["self"] (SpQ ⟨K, w⟩ nm g) := by
  obtain ⟨f, fd, F, Bd, M⟩ := h.ex
  refine ⟨f, fd, F.ok S (fun vs H Q E h => ?_) (fun cdv A outer s H vs Q E hr h => ?_), Bd, M⟩
  · obtain ⟨a, C', dx, fvs, fs, d, rfl, _⟩ := h
    rfl
  · obtain ⟨a, C', dx, fvs, fs, d, rfl, hc, hH, hf, hg, kq⟩ := h
    obtain ⟨t, h1, h2⟩ := B f cdv A outer s H E hr
    exact ⟨t, h1, h2 H _ a C' dx fvs fs d _ rfl hc hH hf hg kq⟩
theorem good_qN {g : ObF → Option (List Dt)} (h : HasM K C m q st ["self"]) (S : FnScope N ["self"] (defScope st))
    (B : ∀ (f : Addr) (cdv : Value) (A : Around) (outer : List Env) (s : Shared) (H : Hp) (E : XK), Room k (A.deeper (PyProof.Rows.envOfC q (defScope st) s.heap.objs.size f cdv)) →
      RetFN (cxOf CX0 P w K mg base N q (defScope st) f cdv A outer s H E).nox nm (defBody st) g) : GoodM P w K mg base (k + 1) C m ["self"] (SpQN ⟨K, w⟩ nm g) := by
  obtain ⟨f, fd, F, Bd, M⟩ := h.ex
  refine ⟨f, fd, F.ok S (fun vs H Q E h => ?_) (fun cdv A outer s H vs Q E hr h => ?_), Bd, M⟩
  · obtain ⟨a, C', dx, fvs, fs, d, rfl, _⟩ := h
    rfl
  · obtain ⟨a, C', dx, fvs, fs, d, rfl, hc, hH, hf, hg, kq⟩ := h
    obtain ⟨t, h1, h2⟩ := B f cdv A outer s H E hr
    exact ⟨t, h1, h2 H _ a C' dx fvs fs d _ rfl hc hH hf hg kq⟩
/-- a def whose body is the return of a new list -/
def fnN (m n : Nat) (g : NF) : List Dt → Option (List Dt) := fun ds => if ds.length = m then match g (startD ds n) with
  | some (r, _) => some r
  | none => none
  else none
def RetN (X : Cx) (sts : List Stmt) (g : NF) : Prop := ∃ t, PSs X sts t ∧ ∀ (O : Ow) (H0 H : Hp) (σ : L2.St) (env : Nv) (τ : L2.St) (ts : Nv) (ds : List Dt) (env' : Nv) (D : Ends), Sg X.kx O H0 H σ env τ ts → g env = some (ds, env') → (∀ v H', Sg X.kx O H0 H' σ env' (τ ++ [some v]) (ts ++ [some (.ow false ds)]) → D.rt v H') → t D σ H
theorem rn_ret {X : Cx} {e : Expr} {pos : Pos} {g : NF} (h : EN X e g) : RetN X [.Return (some e) pos] g := by
  obtain ⟨t, h1, h2⟩ := h
  exact ⟨_, pss_one (ps_ret h1), fun O H0 H σ env τ ts ds env' D S hg k => h2 O H0 H σ env τ ts ds env' _ S hg k⟩
theorem good_fnN {x : Str} {n m : Nat} {g : NF} (h : Has K mg x st ps) (S : FnScope N ps (defScope st)) (hm : ps.length = m) (hn : N.length = m + n)
    (B : ∀ (f : Addr) (cdv : Value) (A : Around) (outer : List Env) (s : Shared) (H : Hp) (E : XK), Room k (A.deeper (PyProof.Rows.envOfC x (defScope st) s.heap.objs.size f cdv)) →
      RetN (cxOf CX0 P w K mg base N x (defScope st) f cdv A outer s H E).nox (defBody st) g) : Good P w K mg base (k + 1) x ps (SpN ⟨K, w⟩ (fnN m n g)) := by
  obtain ⟨f, fd, F, Bd, M⟩ := h.ex
  refine ⟨⟨f, fd, F.ok S (fun vs H Q E h => ?_) (fun cdv A outer s H vs Q E hr h => ?_), Bd, M, F.kp⟩⟩
  · obtain ⟨ds, d, r, hf, _⟩ := h
    unfold fnN at hf
    split at hf
    · rename_i hl
      rw [r.length, hl, hm]
    · cases hf
  · obtain ⟨ds, d, r, hf, q⟩ := h
    unfold fnN at hf
    split at hf
    · rename_i hl
      obtain ⟨t, h1, h2⟩ := B f cdv A outer s H E hr
      refine ⟨t, h1, ?_⟩
      have hv : vs.length = m := by rw [r.length, hl]
      have e1 : L2.start N vs = vs.map some ++ List.replicate n none := by
        unfold L2.start
        rw [hn, hv, show m + n - m = n by omega]
      rw [e1]
      have S0 := sto_start (O := Ow.nil) (fun _ z => z.elim) n r
      split at hf
      · rename_i r' e' ho
        cases hf
        refine h2 _ _ _ _ _ _ _ _ _ _ S0 ho fun v H' S' => ?_
        obtain ⟨p, xs, rfl, g1, g2⟩ := S'.topO
        refine q p xs H' (fun a u ha => S'.st.frame a u ha id) ?_ g1 g2
        obtain ⟨F', f'⟩ := S'.st.fps
        have hle := S'.le
        have hl2 := S'.len2
        simp only [List.length_append, List.length_cons, List.length_nil] at hl2
        have hx : (e' ++ ([] ++ [some (Sl.ow false d)]))[e'.length]? = some (some (Sl.ow false d)) := get_last rfl
        obtain ⟨v', w1, b, ys, ev, hF, _, _⟩ := f'.ok _ _ hx
        have hy : ((vs.map some ++ List.replicate n none) ++ ([] ++ [some (V.ref p)]))[e'.length]? = some (some (V.ref p)) := get_last (by omega)
        rw [hy] at w1
        cases w1
        cases ev
        rcases f'.mine _ _ hx p (by rw [hF]; exact List.mem_cons_self) with z | z
        · exact z.elim
        · exact z
      · cases hf
    · cases hf
end
section
variable {X : Cx} {e a b c o : Expr} {es rest : List Expr} {pos : Pos} {nm : Str} {C : Addr}
theorem sg_none {K : Kx} {H : Hp} : ∀ σ : L2.St, Sto K Ow.nil H H σ (σ.map fun _ => none) := fun σ => by
  refine ⟨by simp, ⟨fun _ => [], fun i s h => ?_, fun i s h b hb => (nomatch hb), fun i j s t _ _ _ b hb => (nomatch hb)⟩, fun i s a h o _ => ?_, fun a u h _ => h, fun _ z => z.elim⟩
  · rw [List.getElem?_map] at h
    cases q : σ[i]? <;> rw [q] at h <;> cases h
  · rw [List.getElem?_map] at h
    cases q : σ[i]? <;> rw [q] at h <;> cases h
theorem f_lift {f : EF} {d : Dt} (h : EI X e f) (hf : ∀ env, f env = some (d, env)) : EF0 X nm e (fun _ => some d) := by
  obtain ⟨t, h1, h2⟩ := h
  refine ⟨t, h1, fun H σ a D dx fvs fs d' Q h0 hc hH hfd hg k => ?_⟩
  cases hg
  have S : Sg X.kx Ow.nil H H σ (σ.map fun _ => none) [] [] := ⟨by simpa using sg_none σ, by simp⟩
  exact h2 _ _ _ _ _ _ _ _ _ _ S (hf _) fun v H' S' => k v H' (fun b u q => S'.st.frame b u q id) S'.rp
def gOp (g : Dt → Dt → Option Dt) (ga gb : OG) : OG := fun fs => match ga fs with
  | some x => match gb fs with
    | some y => g x y
    | none => none
  | none => none
theorem f_cmp {op : CmpOp} {r : R2} {g : Dt → Dt → Option Dt} {ga gb : OG} (ho : OpR X (compareOp op) r) (hr : OpD X.kx r g) (ha : EF0 X nm a ga) (hb : EF0 X nm b gb) (hm : behindInMarks op b = false) : EF0 X nm (.Compare a [op] [b] pos) (gOp g ga gb) := by
  obtain ⟨ta, h1, h2⟩ := ha
  obtain ⟨tb, h3, h4⟩ := hb
  refine ⟨_, pe_cmpR ho h1 h3 hm, fun H σ a D dx fvs fs d Q h0 hc hH hf hg k => ?_⟩
  unfold gOp at hg
  split at hg
  · rename_i x hx
    split at hg
    · rename_i y hy
      refine h2 H σ a D dx fvs fs x _ h0 hc hH hf hx fun v H1 s1 r1 => ?_
      refine h4 H1 σ a D dx fvs fs y _ h0 hc (s1 _ _ hH) (hf.kp (.of_same s1) fun b hb => by cases hb) hy fun u H2 s2 r2 => ?_
      exact hr H2 v u x y d Q (Rp.kp (.of_same s2) _ _ r1) r2 hg fun z H' s3 rz => k z H' (fun b u q => s3 b u (s2 b u (s1 b u q))) rz
    · cases hg
  · cases hg
theorem f_methN {k : Nat} {m : Str} {g : ObF → Option (List Dt)} {apos p : Pos} {pl : Sem Bool} (hC : ClOk X.K nm C) (G : GoodM X.prog X.w X.K X.mg X.base k C m ["self"] (SpQN X.kx nm g)) (hr : Room k X.A) (hN : X.N[0]? = some ("self" : Str) := by rfl) (hv : Vis X.env.scope "self" := by first | exact Or.inl rfl | exact Or.inr (Or.inl rfl) | exact Or.inr (Or.inr rfl))
    (ht : eval (.Call (.Attribute (.Name "self" p) m apos) [] [] pos) X.env = (do
      let ov ← eval (.Name "self" p) X.env
      standAt apos.atName
      let (f, first) ← holding [ov] (getMethod ov m pl)
      callWith pos f first (backTo pos (starEach [] X.env)) (backToKw pos (keywordEach [] X.env))) := by rfl) :
    EFN X nm (.Call (.Attribute (.Name "self" p) m apos) [] [] pos) (fun fs => if fs.lookup m = none then g fs else none) := by
  obtain ⟨f, fd, F, B, M⟩ := G.ex
  refine ⟨_, pe_meth0 (pl := pl) (pe_var hN hv) hC.cl M F hr B .nil pass0 ht, fun H σ a D dx fvs fs d Q h0 hc hH hf hg k => ?_⟩
  have eD := hC.eq hc
  subst eD
  dsimp only at hg
  split at hg
  · rename_i hno
    exact ⟨.ref a, h0, a, dx, fvs, rfl, hH, hf.no hno, a, D, dx, fvs, fs, d, rfl, hc, hH, hf, hg, k⟩
  · cases hg
def gAtN (g : ObF → Option (List Dt)) (j : Int) : OG := fun fs => match g fs with
  | some ds => atI ds j
  | none => none
theorem f_ixN {g : ObF → Option (List Dt)} {j : Int} (h : EFN X nm a g) (hb : EF0 X nm b (fun _ => some (.int j))) (hs : PlainIx b) : EF0 X nm (.Subscript a b pos) (gAtN g j) := by
  obtain ⟨ta, h1, h2⟩ := h
  obtain ⟨tb, h3, h4⟩ := hb
  refine ⟨_, pe_ix ix_seq h1 h3 hs, fun H σ a D dx fvs fs d Q h0 hc hH hf hg k => ?_⟩
  unfold gAtN at hg
  split at hg
  · rename_i ds hds
    refine h2 H σ a D dx fvs fs ds _ h0 hc hH hf hds fun p xs H1 s1 hp hp1 r1 => ?_
    refine h4 H1 σ a D dx fvs fs (.int j) _ h0 hc (s1 _ _ hH) (hf.kp (.of_same s1) fun b hb => by cases hb) rfl fun u H2 s2 r2 => ?_
    cases r2
    have r1' := RpL.kp (.of_same s2) _ _ r1
    unfold atI at hg
    obtain ⟨n, hn, hg⟩ := Option.bind_eq_some_iff.mp hg
    obtain ⟨v, q1, q2⟩ := r1'.get hg
    refine .inl ⟨p, xs, j, v, rfl, rfl, .inl (.inl (s2 _ _ hp1)), ?_, k v H2 (fun b u q => s2 b u (s1 b u q)) q2⟩
    unfold atI
    rw [r1'.length, hn]
    exact q1
  · cases hg
/-- with lists of its own, lent -/
theorem f_bor {t : TE} {g : OG} {H : Hp} {σ : L2.St} {a : Addr} {io : Bool} {fs : ObF} {fp : List Addr} {d : Dt} {Q : VK} (h : RunsF X.kx nm t g) (h0 : σ[0]? = some (some (.ref a))) (sl : SlOk X.kx H (.ref a) (.ob io nm fs) fp) (hg : g (frzF fs) = some d) (hl : lfree d = true) (k : ∀ v H', Same H H' → Rp X.kx H' d v → Q v H') : tBor t σ H Q := by
  obtain ⟨a', D, dx, vs, as, e, rfl, nd, hcl, hH, hf⟩ := sl
  cases e
  have nd' := List.nodup_cons.mp nd
  refine ⟨as, nd'.2, SlOk.obmut hf, fun H1 l => ?_⟩
  have kp := l.kp (SlOk.obmut hf)
  have hf1 := hf.frz kp l.2
  have hH1 : H1 a = some (.ins D dx vs) := by rw [l.1 a nd'.1]; exact hH
  refine h H1 σ a D dx vs (frzF fs) d _ h0 hcl hH1 hf1 hg fun v H2 sm r => ⟨sm, fun H3 g1 g2 => k v H3 (same3 l sm g1 g2) (Rp.unl g1 (locked l sm hf) d v hl r)⟩
end

/-! ### a desk -/
def dkF (room rule : Dt) (past undone : List Dt) : ObF := [("room", .im room), ("rule", .im rule), ("past", .ow past), ("undone", .ow undone)]
def dkInit (NB : List Dt → Option Dt) : ObF → List Dt → Option (Dt × ObF) := fun fs ds => match fs, ds with
  | [], [d1, d2] => match NB [d1, d2] with
    | some _ => some (.none, dkF d1 d2 [] [])
    | none => none
  | _, _ => none
abbrev dkV (v1 v2 v3 v4 : V) : List (Str × V) := [("room", v1), ("rule", v2), ("past", v3), ("undone", v4)]
theorem dk_put (v1 v2 v3 v4 : V) : putF "undone" v4 (putF "past" v3 (putF "rule" v2 (putF "room" v1 []))) = dkV v1 v2 v3 v4 := by kernel_rfl
theorem dk_undone (v1 v2 v3 v4 v5 : V) : putF "undone" v5 (dkV v1 v2 v3 v4) = dkV v1 v2 v3 v5 := by kernel_rfl
theorem dk_len (v1 v2 v3 : V) : (putF "past" v3 (putF "rule" v2 (putF "room" v1 []))).length < 1000 ∧ (putF "rule" v2 (putF "room" v1 [])).length < 1000 ∧ (putF "room" v1 []).length < 1000 := by
  refine ⟨?_, ?_, ?_⟩
  · rw [show (putF "past" v3 (putF "rule" v2 (putF "room" v1 []))) = ([("room", v1), ("rule", v2), ("past", v3)] : List (Str × V)) by kernel_rfl]; simp
  · rw [show (putF "rule" v2 (putF "room" v1 [])) = ([("room", v1), ("rule", v2)] : List (Str × V)) by kernel_rfl]; simp
  · rw [show (putF "room" v1 []) = ([("room", v1)] : List (Str × V)) by kernel_rfl]; simp
theorem dk_inv {K : Kx} {H : Hp} {room rule : Dt} {past undone : List Dt} {vs : List (Str × V)} {as : List Addr} (h : FdsOk K H (dkF room rule past undone) vs as) :
    ∃ v1 v2 p q xs ys, vs = dkV v1 v2 (.ref p) (.ref q) ∧ as = [p, q] ∧ Rp K H room v1 ∧ Rp K H rule v2 ∧ H p = some (.lst xs) ∧ RpL K H past xs ∧ H q = some (.lst ys) ∧ RpL K H undone ys := by
  obtain ⟨v1, vs1, rfl, h1, v2, vs2, rfl, h2, p, xs, vs3, as3, rfl, rfl, h3, h4, q, ys, vs4, as4, rfl, rfl, h5, h6, rfl, rfl⟩ := h
  exact ⟨v1, v2, p, q, xs, ys, rfl, rfl, h1, h2, h3, h4, h5, h6⟩
structure DkT (K : PySem.W.Frag) (nm : Str) (C : Addr) : Prop where
  cl : ClOk K nm C
  room : NoAttr K C "room"
  rule : NoAttr K C "rule"
  past : NoAttr K C "past"
  undone : NoAttr K C "undone"

def BodyM (X : Cx) (nm : Str) (sts : List Stmt) (g : ObF → List Dt → Option (Dt × ObF)) : Prop := ∃ t, PSs X sts t ∧ ∀ (H : Hp) (a : Addr) (rest : List V) (fs : ObF) (fp : List Addr) (ds : List Dt) (d : Dt) (fs' : ObF) (Q : VK), SlOk X.kx H (.ref a) (.ob true nm fs) fp → RpL X.kx H ds rest → g fs ds = some (d, fs') →
  (∀ v H' fp', (∀ b u, H b = some u → b ∉ fp → H' b = some u) → (∀ b, H b ≠ none → H' b ≠ none) → SlOk X.kx H' (.ref a) (.ob true nm fs') fp' → (∀ b ∈ fp', b ∈ fp ∨ H b = none) → Rp X.kx H' d v → Q v H') → t { nx := fun _ H' => Q .non H', rt := Q } (L2.start X.N (.ref a :: rest)) H
section
variable {X : Cx} {nm : Str} {C : Addr}
theorem init_body {NB : List Dt → Option Dt} {k : Nat} {p1 p2 p3 p4 p5 p6 p7 p8 p9 p10 p11 p12 p13 p14 p15 p16 p17 p18 p19 p20 p21 : Pos} (T : DkT X.K nm C) (G : Good X.prog X.w X.K X.mg X.base k "need_both" ["room", "rule"] (SpP X.kx NB)) (hr : Room k X.A) (hgl : Gl X "need_both")
    (hN : X.N = (["self", "room", "rule"] : List Str)) (hv0 : Vis X.env.scope "self") (hv1 : Vis X.env.scope "room") (hv2 : Vis X.env.scope "rule")
    (hs1 : swapsWith (.Call (.Name "need_both" p1) [.Name "room" p2, .Name "rule" p3] [] p4) none p5.line X.env = pure false := by rfl) (hs2 : swapsWith (.Name "room" p8) (some (.Attribute (.Name "self" p6) "room" p7)) p9.line X.env = pure false := by rfl)
    (hs3 : swapsWith (.Name "rule" p12) (some (.Attribute (.Name "self" p10) "rule" p11)) p13.line X.env = pure false := by rfl) (hs4 : swapsWith (.List [] p16) (some (.Attribute (.Name "self" p14) "past" p15)) p17.line X.env = pure false := by rfl) (hs5 : swapsWith (.List [] p20) (some (.Attribute (.Name "self" p18) "undone" p19)) p21.line X.env = pure false := by rfl) :
    BodyM X nm [.Expr (.Call (.Name "need_both" p1) [.Name "room" p2, .Name "rule" p3] [] p4) p5, .Assign [.Attribute (.Name "self" p6) "room" p7] (.Name "room" p8) p9, .Assign [.Attribute (.Name "self" p10) "rule" p11] (.Name "rule" p12) p13,
      .Assign [.Attribute (.Name "self" p14) "past" p15] (.List [] p16) p17, .Assign [.Attribute (.Name "self" p18) "undone" p19] (.List [] p20) p21] (dkInit NB) := by
  obtain ⟨fa, fda, Fo, Bo, Mo, kpo⟩ := G.ex
  have n0 : X.N[0]? = some ("self" : Str) := by rw [hN]; rfl
  have n1 : X.N[1]? = some ("room" : Str) := by rw [hN]; rfl
  have n2 : X.N[2]? = some ("rule" : Str) := by rw [hN]; rfl
  refine ⟨_, pss_cons (ps_expr (pe_call Fo hr hgl Mo kpo Bo .nil pass0 (pa_cons (pe_var n1 hv1) (pa_cons (pe_var n2 hv2) pa_nil))) hs1)
    (pss_cons (ps_fld (pe_var n0 hv0) (pe_var n1 hv1) hs2) (pss_cons (ps_fld (pe_var n0 hv0) (pe_var n2 hv2) hs3) (pss_cons (ps_fld (pe_var n0 hv0) (pe_lst pa_nil) hs4) (pss_one (ps_fld (pe_var n0 hv0) (pe_lst pa_nil) hs5))))), fun H a rest fs fp ds d fs' Q sl r hg kq => ?_⟩
  unfold dkInit at hg
  split at hg
  · rename_i d1 d2
    split at hg
    · rename_i dz hnb
      cases hg
      obtain ⟨a', D, dx, vs, as, e, rfl, nd, hcl, hH, hf⟩ := sl
      cases e
      obtain ⟨rfl, rfl⟩ := hf
      have eD := T.cl.eq (K := X.kx) hcl
      subst eD
      obtain ⟨v1, r1, rfl, rv1, v2, r2, rfl, rv2, rfl⟩ := r
      have est : L2.start X.N [.ref a, v1, v2] = [some (.ref a), some v1, some v2] := by rw [hN]; rfl
      rw [est]
      have l3 := fun v3 => dk_len v1 v2 v3
      refine ⟨v1, rfl, v2, rfl, [d1, d2], dz, ⟨v1, _, rfl, rv1, v2, _, rfl, rv2, rfl⟩, hnb, fun vz H1 s1 rz => ?_⟩
      have hH1 := s1 _ _ hH
      refine ⟨v1, rfl, .ref a, rfl, a, D, dx, [], rfl, hH1, T.cl.cl, T.room, by decide, ?_⟩
      refine ⟨v2, rfl, .ref a, rfl, a, D, dx, _, rfl, upd_same, T.cl.cl, T.rule, (l3 v1).2.2, ?_⟩
      refine ⟨Nat.zero_le _, fun p hp => ?_⟩
      have npa : a ≠ p := fun z => by rw [← z, upd_same] at hp; cases hp
      refine ⟨.ref a, rfl, a, D, dx, _, rfl, (upd_ne npa).trans upd_same, T.cl.cl, T.past, (l3 v1).2.1, ?_⟩
      refine ⟨Nat.zero_le _, fun u hu => ?_⟩
      have nua : a ≠ u := fun z => by rw [← z, upd_same] at hu; cases hu
      have nup : p ≠ u := fun z => by rw [← z, upd_ne npa.symm, upd_same] at hu; cases hu
      refine ⟨.ref a, rfl, a, D, dx, _, rfl, (upd_ne nua).trans upd_same, T.cl.cl, T.undone, (l3 _).1, ?_⟩
      have hp1 : H1 p = none := by rw [upd_ne npa.symm, upd_ne npa.symm] at hp; exact hp
      have hu1 : H1 u = none := by rw [upd_ne nua.symm, upd_ne nup.symm, upd_ne nua.symm, upd_ne nua.symm] at hu; exact hu
      have free : ∀ b, H1 b = none → H b = none := fun b z => by
        cases q : H b with
        | none => rfl
        | some x => rw [s1 b x q] at z; cases z
      refine kq .non _ [a, p, u] (fun b x hb nb => ?_) (fun b hb => ?_) ⟨a, D, dx, _, [p, u], rfl, rfl, ?_, hcl, upd_same, ?_⟩ (fun b hb => ?_) rfl
      · have hb1 := s1 b x hb
        have nba : b ≠ a := fun z => nb (by simp [z])
        rw [upd_ne nba, upd_ne (ne_of_none hb1 hu1), upd_ne nba, upd_ne (ne_of_none hb1 hp1), upd_ne nba, upd_ne nba]
        exact hb1
      · refine live_upd (live_upd (live_upd (live_upd (live_upd (live_upd ?_)))))
        exact live_same s1 hb
      · simp [npa, nua, nup]
      · rw [dk_put]
        have kp : ∀ (d : Dt) (v : V), Rp X.kx H d v → Rp X.kx (upd (upd (upd (upd (upd (upd H1 a (.ins D dx (putF "room" v1 []))) a (.ins D dx (putF "rule" v2 (putF "room" v1 [])))) p (.lst [])) a (.ins D dx (putF "past" (.ref p) (putF "rule" v2 (putF "room" v1 []))))) u (.lst [])) a (.ins D dx (dkV v1 v2 (.ref p) (.ref u)))) d v := fun d v rv => by
          refine Rp.kp (kp_of (fp := [a]) (fun b hb => by cases List.mem_singleton.mp hb; exact ⟨_, hH, trivial⟩) fun b x hb nb => ?_) d v rv
          have hb1 := s1 b x hb
          have nba : b ≠ a := fun z => nb (by simp [z])
          rw [upd_ne nba, upd_ne (ne_of_none hb1 hu1), upd_ne nba, upd_ne (ne_of_none hb1 hp1), upd_ne nba, upd_ne nba]
          exact hb1
        refine ⟨v1, _, rfl, kp _ _ rv1, v2, _, rfl, kp _ _ rv2, p, [], _, _, rfl, rfl, ?_, rfl, u, [], _, _, rfl, rfl, ?_, rfl, rfl, rfl⟩
        · rw [upd_ne npa.symm, upd_ne nup, upd_ne npa.symm, upd_same]
        · rw [upd_ne nua.symm, upd_same]
      · simp only [List.mem_cons, List.not_mem_nil, or_false] at hb
        rcases hb with rfl | rfl | rfl
        · exact .inl (by simp)
        · exact .inr (free _ hp1)
        · exact .inr (free _ hu1)
    · cases hg
  · cases hg
end
section
variable {P : Program} {w : World} {K : PySem.W.Frag} {mg : Str → Option Value} {base : Heap} {st : Stmt} {N ps : List Str} {k : Nat} {nm m q : Str} {C : Addr}
theorem good_m {g : ObF → List Dt → Option (Dt × ObF)} (h : HasM K C m q st ps) (S : FnScope N ps (defScope st)) (hl : ∀ fs ds o, g fs ds = some o → ds.length + 1 = ps.length)
    (B : ∀ (f : Addr) (cdv : Value) (A : Around) (outer : List Env) (s : Shared) (H : Hp) (E : XK), Room k (A.deeper (PyProof.Rows.envOfC q (defScope st) s.heap.objs.size f cdv)) →
      BodyM (cxOf CX0 P w K mg base N q (defScope st) f cdv A outer s H E).nox nm (defBody st) g) : GoodM P w K mg base (k + 1) C m ps (SpM ⟨K, w⟩ nm g) := by
  obtain ⟨f, fd, F, Bd, M⟩ := h.ex
  refine ⟨f, fd, F.ok S (fun vs H Q E h => ?_) (fun cdv A outer s H vs Q E hr h => ?_), Bd, M⟩
  · obtain ⟨a, rest, fs, fp, ds, d, fs', rfl, _, r, hg, _⟩ := h
    have := hl _ _ _ hg
    have := r.length
    simp
    omega
  · obtain ⟨a, rest, fs, fp, ds, d, fs', rfl, sl, r, hg, kq⟩ := h
    obtain ⟨t, h1, h2⟩ := B f cdv A outer s H E hr
    exact ⟨t, h1, h2 H a rest fs fp ds d fs' Q sl r hg kq⟩
end
theorem dkV_past (v1 v2 v3 v4 : V) : (dkV v1 v2 v3 v4).lookup ("past" : Str) = some v3 := by kernel_rfl
def asDk : ObF → Option (Dt × Dt × List Dt × List Dt)
  | [(n1, .im a), (n2, .im b), (n3, .ow p), (n4, .ow u)] => if n1 = "room" ∧ n2 = "rule" ∧ n3 = "past" ∧ n4 = "undone" then some (a, b, p, u) else none
  | _ => none
theorem asDk_eq {fs : ObF} {a b : Dt} {p u : List Dt} (h : asDk fs = some (a, b, p, u)) : fs = dkF a b p u := by
  unfold asDk at h
  split at h
  · split at h
    · rename_i hc
      obtain ⟨rfl, rfl, rfl, rfl⟩ := hc
      cases h
      rfl
    · cases h
  · cases h
theorem asDk_dk (a b : Dt) (p u : List Dt) : asDk (dkF a b p u) = some (a, b, p, u) := by
  unfold asDk dkF
  simp
def dkTick (F1 : TF) (NO : ObF → Option (List Dt)) : ObF → List Dt → Option (Dt × ObF) := fun fs ds => match asDk fs, ds with
  | some (room, rule, past, undone), [j] => match F1 [none, some (.im j)] with
    | some (false, [none, some (.im _)]) => match dEq (.int (past.length : Int)) (.int 40) with
      | some (.bool false) => if past.length < 10000000 then match gAtN (fun fs => if fs.lookup ("notes" : Str) = none then NO fs else none) (-1) (frzF (dkF room rule (past ++ [j]) [])) with
        | some d => if lfree d = true then some (d, dkF room rule (past ++ [j]) []) else none
        | none => none
        else none
      | _ => none
    | _ => none
  | _, _ => none
theorem runsF_of {K : Kx} {nm : Str} {t : TE} {g g' : OG} (h : RunsF K nm t g) (e : ∀ fs d, g' fs = some d → g fs = some d) : RunsF K nm t g' := fun H σ a C dx fvs fs d Q h0 hc hH hf hg k => h H σ a C dx fvs fs d Q h0 hc hH hf (e _ _ hg) k
section
variable {X : Cx} {nm : Str} {C : Addr}
theorem tick_body {F1 : TF} {NO : ObF → Option (List Dt)} {c1 : Expr} {r1 r2 : Stmt} {k k3 : Nat} {p7 p8 p9 p10 p11 p12 p13 p14 p15 p16 p17 p18 p19 p20 p21 p22 p23 p24 p25 p26 p27 p28 p29 p30 p31 : Pos} {pl : Sem Bool} (T : DkT X.K nm C) (hu : X.A.units + 64 < cLine) (h1 : ET X c1 F1) (hm : X.mg "len" = none) (hgl : Gl X "len") (hgL : Gl X "LONGEST") (hL : CstOk X.K X.mg "LONGEST" (.int 40))
    (G : GoodM X.prog X.w X.K X.mg X.base k C "notes" ["self"] (SpQN X.kx nm NO)) (hr : Room k X.A)
    (hN : X.N = (["self", "job"] : List Str)) (hv0 : Vis X.env.scope "self") (hv1 : Vis X.env.scope "job")
    (hb1 : attributeBase (.Name "self" p9) "past" X.env (eval (.Name "self" p9) X.env) = eval (.Name "self" p9) X.env := by rfl)
    (hs1 : starEach [.Attribute (.Name "self" p9) "past" p10] X.env = (false, eval (.Attribute (.Name "self" p9) "past" p10) X.env) :: starEach [] X.env := by rfl) (hst1 : ((backTo p11 (starEach [] X.env)).any (·.1)) = false := by rfl)
    (hb2 : attributeBase (.Name "self" p15) "past" X.env (eval (.Name "self" p15) X.env) = eval (.Name "self" p15) X.env := by rfl)
    (a1 : attributeBase (.Attribute (.Name "self" p15) "past" p16) ("append" : Str) X.env (eval (.Attribute (.Name "self" p15) "past" p16) X.env) = eval (.Attribute (.Name "self" p15) "past" p16) X.env := by rfl)
    (a2 : (((((backTo p19 (starEach [.Name "job" p18] X.env)).all fun x => !x.fst) && (backToKw p19 (keywordEach [] X.env)).all fun x => x.fst.isSome) && decide (([Expr.Name "job" p18].length + ([] : List Keyword).length + if ([] : List Keyword).isEmpty = true then 0 else 1) < 30)) = true) := by rfl)
    (a3 : (p17.endLine == p19.line) = true := by rfl) (a4 : starEach [.Name "job" p18] X.env = (false, eval (.Name "job" p18) X.env) :: starEach [] X.env := by rfl) (a5 : ((backTo p19 (starEach [] X.env)).any fun x => x.fst) = false := by rfl)
    (a6 : swapsWith (.Call (.Attribute (.Attribute (.Name "self" p15) "past" p16) ("append" : Str) p17) [.Name "job" p18] [] p19) none p20.line X.env = pure false := by rfl)
    (hs5 : swapsWith (.List [] p23) (some (.Attribute (.Name "self" p21) "undone" p22)) p24.line X.env = pure false := by rfl)
    (ht : eval (.Call (.Attribute (.Name "self" p25) "notes" p26) [] [] p27) X.env = (do
      let ov ← eval (.Name "self" p25) X.env
      standAt p26.atName
      let (f, first) ← holding [ov] (getMethod ov "notes" pl)
      callWith p27 f first (backTo p27 (starEach [] X.env)) (backToKw p27 (keywordEach [] X.env))) := by rfl) :
    BodyM X nm [.If c1 [r1] [] p7, .If (.Compare (.Call (.Name "len" p8) [.Attribute (.Name "self" p9) "past" p10] [] p11) [.Eq] [.Name "LONGEST" p12] p13) [r2] [] p14,
      .Expr (.Call (.Attribute (.Attribute (.Name "self" p15) "past" p16) "append" p17) [.Name "job" p18] [] p19) p20, .Assign [.Attribute (.Name "self" p21) "undone" p22] (.List [] p23) p24,
      .Return (some (.Subscript (.Call (.Attribute (.Name "self" p25) "notes" p26) [] [] p27) (.UnaryOp .USub (.Constant (.int 1) k3 p28) p29) p30)) p31] (dkTick F1 NO) := by
  have n0 : X.N[0]? = some ("self" : Str) := by rw [hN]; rfl
  have n1 : X.N[1]? = some ("job" : Str) := by rw [hN]; rfl
  obtain ⟨tc, hc1, hc2⟩ := h1
  obtain ⟨tl, hl1, hl2⟩ := ei_cst (pos := p12) hgL hL
  obtain ⟨tn, hn1, hn2⟩ := f_ixN (pos := p30) (f_methN (pl := pl) T.cl G hr n0 hv0 ht) (f_lift (ei_neg (pos := p29) (ei_int (i := 1) (j := k3) (pos := p28))) (d := .int (-1)) fun env => rfl) (fun _ _ => rfl)
  refine ⟨_, pss_cons (ps_if hc1 (pss_one (st := r1) ps_never) pss_nil) (pss_cons (ps_if (pt_cmpR (op_eqR hu) (pe_callB call_len_seq hgl hm PySem.boot_len (pa_cons (pe_fld (pe_var n0 hv0) hb1) pa_nil hs1) (by decide) (by decide) hs1 hst1) hl1 rfl) (pss_one (st := r2) ps_never) pss_nil)
    (pss_cons (ps_expr (pe_bm PySem.F.plainAttrs_list PySem.F.slot_list_append PySem.F.type_list_append mt_append (pe_fld (pe_var n0 hv0) hb2) (pa_cons (pe_var n1 hv1) pa_nil a4) a1 a2 a3 a4 a5) a6)
    (pss_cons (ps_fld (pe_var n0 hv0) (pe_lst pa_nil) hs5) (pss_one (ps_ret (pe_bor hn1)))))), fun H a rest fs fp ds d fs' Q sl r hg kq => ?_⟩
  unfold dkTick at hg
  split at hg
  · rename_i room rule past undone j hdk
    have efs := asDk_eq hdk
    subst efs
    split at hg
    · rename_i dj hF1
      split at hg
      · rename_i hEq
        split at hg
        · rename_i hlen
          split at hg
          · rename_i d' hd
            split at hg
            · rename_i hlf
              cases hg
              obtain ⟨v1, rr, rfl, rv1, rfl⟩ := r
              have est : L2.start X.N [.ref a, v1] = [some (.ref a), some v1] := by rw [hN]; rfl
              rw [est]
              have S0 : Sg X.kx Ow.nil H H [] [] [] [] := ⟨⟨rfl, ⟨fun _ => [], fun i s h => by simp at h, fun i s h b hb => (nomatch hb), fun i j s t _ _ _ b hb => (nomatch hb)⟩, fun i s a h o _ => by simp at h, fun a u h _ => h, fun _ z => z.elim⟩, rfl⟩
              have S1 : Sg X.kx Ow.nil H H [some (.ref a), some v1] [none, some (.im j)] [] [] := ⟨by
                have := (S0.st.pushN (some (V.ref a))).push (v := v1) rv1
                simpa using this, rfl⟩
              refine hc2 _ _ _ _ _ _ _ _ _ _ S1 hF1 fun H1 S1' => ?_
              have s1 : Same H H1 := fun b u q => S1'.st.frame b u q id
              show (if false = true then _ else _)
              rw [if_neg Bool.false_ne_true]
              obtain ⟨a', D, dx, vs, as, e, rfl, nd, hcl, hH, hf⟩ := sl
              cases e
              have eD := T.cl.eq (K := X.kx) hcl
              subst eD
              obtain ⟨w1, w2, p, q, xs, ys, rfl, rfl, f1, f2, f3, f4, f5, f6⟩ := dk_inv hf
              have hH1 := s1 _ _ hH
              have hp1 := s1 _ _ f3
              have hq1 := s1 _ _ f5
              refine ⟨.ref a, rfl, a, D, dx, _, .ref p, rfl, hH1, T.cl.cl, T.past, dkV_past _ _ _ _, p, xs, rfl, .inl (.inl (.inl hp1)), ?_⟩
              have S2 : Sg X.kx Ow.nil H1 H1 [some (.ref a), some v1] ([some (.ref a), some v1].map fun _ => none) [] [] := ⟨by simpa using sg_none [some (V.ref a), some v1], rfl⟩
              refine hl2 _ _ _ _ _ _ _ _ _ _ S2 rfl fun vl H2 S2' => ?_
              have s2 : Same H1 H2 := fun b u q => S2'.st.frame b u q id
              have hle : xs.length = past.length := f4.length
              refine od_eq H2 (.int xs.length) vl (.int (past.length : Int)) (.int 40) (.bool false) _ (by rw [hle]; rfl) S2'.rp hEq fun vb H3 s3 rb => ?_
              cases rb
              refine ⟨false, rfl, ?_⟩
              show (if false = true then _ else _)
              rw [if_neg Bool.false_ne_true]
              have s13 : Same H H3 := fun b u q => s3 b u (s2 b u (s1 b u q))
              have hH3 := s13 _ _ hH
              have hp3 := s13 _ _ f3
              have hq3 := s13 _ _ f5
              refine ⟨.ref a, rfl, a, D, dx, _, .ref p, rfl, hH3, T.cl.cl, T.past, dkV_past _ _ _ _, .inl ⟨rfl, xs, .inl (.inl hp3)⟩, v1, rfl, p, xs, v1, rfl, rfl, hp3, Nat.lt_of_lt_of_le (by rw [hle]; exact hlen) (by decide), ?_⟩
              simp only [List.nodup_cons, List.mem_cons, List.not_mem_nil, or_false, not_or] at nd
              have npa : p ≠ a := fun z => nd.1.1 z.symm
              have npq : p ≠ q := nd.2.1
              have nqa : q ≠ a := fun z => nd.1.2 z.symm
              refine ⟨Nat.zero_le _, fun u hu => ?_⟩
              have hu3 : H3 u = none := by
                by_cases z : u = p
                · rw [z, upd_same] at hu; cases hu
                · rw [upd_ne z] at hu; exact hu
              have nua : u ≠ a := fun z => by rw [z, hH3] at hu3; cases hu3
              have nup : u ≠ p := fun z => by rw [z, hp3] at hu3; cases hu3
              have nuq : u ≠ q := fun z => by rw [z, hq3] at hu3; cases hu3
              refine ⟨.ref a, rfl, a, D, dx, dkV w1 w2 (.ref p) (.ref q), rfl, by rw [upd_ne nua.symm, upd_ne npa.symm]; exact hH3, T.cl.cl, T.undone, by show 4 < 1000; decide, ?_⟩
              rw [dk_undone]
              have hu0 : H u = none := by
                cases z : H u with
                | none => rfl
                | some x => rw [s13 u x z] at hu3; cases hu3
              have fr : ∀ b x, H b = some x → b ∉ [a, p, q] → (upd (upd (upd H3 p (.lst (xs ++ [v1]))) u (.lst [])) a (.ins D dx (dkV w1 w2 (.ref p) (.ref u)))) b = some x := fun b x hb nb => by
                have hb3 := s13 b x hb
                simp only [List.mem_cons, List.not_mem_nil, or_false, not_or] at nb
                rw [upd_ne nb.1, upd_ne (ne_of_none hb3 hu3), upd_ne nb.2.1]
                exact hb3
              have kp : Kp H (upd (upd (upd H3 p (.lst (xs ++ [v1]))) u (.lst [])) a (.ins D dx (dkV w1 w2 (.ref p) (.ref u)))) := kp_of (fp := [a, p, q]) (fun b hb => by
                simp only [List.mem_cons, List.not_mem_nil, or_false] at hb
                rcases hb with rfl | rfl | rfl
                · exact ⟨_, hH, trivial⟩
                · exact ⟨_, f3, trivial⟩
                · exact ⟨_, f5, trivial⟩) fr
              have sl' : SlOk X.kx (upd (upd (upd H3 p (.lst (xs ++ [v1]))) u (.lst [])) a (.ins D dx (dkV w1 w2 (.ref p) (.ref u)))) (.ref a) (.ob true nm (dkF room rule (past ++ [j]) [])) [a, p, u] := by
                refine ⟨a, D, dx, _, [p, u], rfl, rfl, by simp [npa.symm, nua.symm, nup.symm], hcl, upd_same, w1, _, rfl, Rp.kp kp _ _ f1, w2, _, rfl, Rp.kp kp _ _ f2, p, xs ++ [v1], _, _, rfl, rfl, ?_, (f4.append (.one rv1)).kp kp, u, [], _, _, rfl, rfl, ?_, rfl, rfl, rfl⟩
                · rw [upd_ne npa, upd_ne nup.symm, upd_same]
                · rw [upd_ne nua, upd_same]
              refine f_bor hn2 rfl sl' hd hlf fun v H' s4 rv => ?_
              refine kq v H' [a, p, u] (fun b x hb nb => s4 b x (fr b x hb nb)) (fun b hb => ?_) (sl'.kp (.of_same s4) fun b _ x e => s4 b x e) (fun b hb => ?_) rv
              · refine live_same s4 (live_upd (live_upd (live_upd ?_)))
                exact live_same s13 hb
              · simp only [List.mem_cons, List.not_mem_nil, or_false] at hb
                rcases hb with rfl | rfl | rfl
                · exact .inl (by simp)
                · exact .inl (by simp)
                · exact .inr hu0
            · cases hg
          · cases hg
        · cases hg
      · cases hg
    · cases hg
  · cases hg
end
section
variable {P : Program} {w : World} {K : PySem.W.Frag} {mg : Str → Option Value} {base : Heap} {st : Stmt} {x : Str} {k : Nat} {nm m q : Str} {C : Addr}
/-- a method whose body is x = e; and then something without self -/
theorem good_q2 {g : OG} (h : HasM K C m q st ["self"]) (S : FnScope ["self", x] ["self"] (defScope st))
    (B : ∀ (f : Addr) (cdv : Value) (A : Around) (outer : List Env) (s : Shared) (H : Hp) (E : XK), Room k (A.deeper (PyProof.Rows.envOfC q (defScope st) s.heap.objs.size f cdv)) →
      ∃ t, PSs (cxOf CX0 P w K mg base ["self", x] q (defScope st) f cdv A outer s H E).nox (defBody st) t ∧ ∀ (H : Hp) (v0 : Option V) (a C dx : Addr) (fvs : List (Str × V)) (fs : ObF) (d : Dt) (D : Ends), ClsAt ⟨K, w⟩ nm C → H a = some (.ins C dx fvs) → FdsOk ⟨K, w⟩ H fs fvs [] → g fs = some d → (∀ v H', Same H H' → Rp ⟨K, w⟩ H' d v → D.rt v H') → (d = .none → ∀ σ H', Same H H' → D.nx σ H') → t D [some (.ref a), v0] H) :
    GoodM P w K mg base (k + 1) C m ["self"] (SpQ ⟨K, w⟩ nm g) := by
  obtain ⟨f, fd, F, Bd, M⟩ := h.ex
  refine ⟨f, fd, F.ok S (fun vs H Q E h => ?_) (fun cdv A outer s H vs Q E hr h => ?_), Bd, M⟩
  · obtain ⟨a, C', dx, fvs, fs, d, rfl, _⟩ := h
    rfl
  · obtain ⟨a, C', dx, fvs, fs, d, rfl, hc, hH, hf, hg, kq⟩ := h
    obtain ⟨t, h1, h2⟩ := B f cdv A outer s H E hr
    exact ⟨t, h1, h2 H none a C' dx fvs fs d _ hc hH hf hg kq fun e σ H' sm => by subst e; exact kq .non H' sm rfl⟩
end
def F_notes_ofN : List Dt → Option (List Dt) := fnN 3 3 (nLc [3, 4, 5] (itD (eCall F_run (aI (eVar 0) (aI (eVar 1) (aI (eVar 2) aNil))))) (gTp (gsCons (gNm 3) (gsCons (gNm 4) (gsCons (gNm 5) gsNil)))) tYesF (eVar 4))
def G_Desk_notes : ObF → Option (List Dt) := gCallN F_notes_ofN (gCons (gFld "room") (gCons (gFld "rule") (gCons (gFld "past") gNil)))
def G_Desk_tick : ObF → List Dt → Option (Dt × ObF) := dkTick (tNotF (tVal (eCall F_is_int (aI (eVar 1) (aI (eC (.int 0)) (aI (eC (.int 3)) aNil)))))) G_Desk_notes
def G_Desk_place : OG := gSetRet (gCall F_run (gCons (gFld "room") (gCons (gFld "rule") (gCons (gFld "past") gNil)))) (sRet (eIf (tVal (eOp dNe (eVar 1) (eNew (nLst aNil)))) (eOp dIx (eOp dIx (eVar 1) (eUn dNeg (eC (.int 1)))) (eC (.int 0))) (eCall F_begun aNil)))
def G_Desk_lines : OG := gCut (gMeth "place" G_Desk_place) 2
def G_Desk___init__ : ObF → List Dt → Option (Dt × ObF) := dkInit F_need_both
def G_Desk_jobs : ObF → Option (List Dt) := gSeq (gFld "past")
def G_Desk_works : OG := gCall F_works_of (gCons (gMeth "place" G_Desk_place) gNil)
def G_Desk___len__ : OG := gLen (gFld "past")
section
variable {X : Cx} {e a b c o : Expr} {es rest : List Expr} {pos : Pos}
/-- len(o) by an own __len__ -/
def rLenO (C : Addr) (sp : Sp) : List V → Hp → VK → Prop := fun xs H Q => ∃ a dx fs, xs = [.ref a] ∧ H a = some (.ins C dx fs) ∧ sp [.ref a] H (fun v H' => ∃ n : Nat, v = .int (n : Int) ∧ n < 1000000 ∧ Q (.int (n : Int)) H') (fun _ _ _ => False)
theorem call_lenO {k : Nat} {C : Addr} {sp : Sp} (G : GoodM X.prog X.w X.K X.mg X.base k C "__len__" ["self"] sp) (hr : Room k X.A.in1) : CallR X (.builtin "len") (rLenO C sp) := by
  intro pins s σ H vs us Q I r h
  obtain ⟨a, dx, fs, rfl, ha, hsp⟩ := h
  rw [Vals.ref1 r]
  obtain ⟨f, fd, F, B, M⟩ := G.ex
  obtain ⟨mA, J, _⟩ := ins_get I.hok ha
  obtain ⟨od, J, _⟩ := J.look
  obtain ⟨m, hF⟩ := I.fr
  refine PySem.W.len_K hF I.ok.mod.kin J M.at_ M.fn ?_
  have e0 : Env0 X.prog X.w X.K X.mg X.base X.A.in1 X.stack s H := by
    have e := I.env0
    exact ⟨e.frames, e.mod, e.bs, e.bsz, e.funs, e.frf, e.hok, e.bare⟩
  have hl := F.len _ _ _ _ hsp
  have r2 : Vals [V.ref a] [Value.ref a] := .cons rfl .nil
  refine wpAny_call (codeAny_mono (F.run X.A.in1 X.stack s H ⟨[.ref a], []⟩ [.ref a] [.ref a] _ _ hr e0 (by
    have := B s [.ref a] I.kIn (by simpa using hl)
    simpa using this) r2 hsp) fun r s' hq => ?_)
  cases r with
  | error e => exact pass0 pins σ H s e s' I hq
  | ok fl =>
    cases fl with
    | ret w =>
      obtain ⟨z, H', I', rz, n, ez, hn, q⟩ := I.after hq
      subst ez
      obtain ⟨tk, rfl⟩ := rz
      exact ⟨⟨by omega, by omega⟩, .int n, H', I'.tok _, ⟨_, rfl⟩, q⟩
    | next => exact False.elim hq
    | brk => exact False.elim hq
    | cont => exact False.elim hq

def eLenB (nm : Str) (i : Nat) (g : OG) : EF := fun env => match obAt env i nm "__len__" with
  | some (_, fs) => match g (frzF fs) with
    | some (.int n) => if 0 ≤ n ∧ n < 1000000 then some (.int n, env) else none
    | _ => none
  | none => none
theorem ei_lenB {k i : Nat} {C : Addr} {nm x : Str} {g : OG} {p q : Pos} (hC : ClOk X.K nm C) (G : GoodM X.prog X.w X.K X.mg X.base k C "__len__" ["self"] (SpQ X.kx nm g)) (hr : Room (k + 1) X.A) (hm : X.mg "len" = none) (hg : Gl X "len") (hN : X.N[i]? = some x)
    (hv : Vis X.env.scope x := by first | exact Or.inl rfl | exact Or.inr (Or.inl rfl) | exact Or.inr (Or.inr rfl)) (hd : (x == ("__debug__" : Str)) = false := by decide) (hcd : (x == ("__classdict__" : Str)) = false := by decide)
    (hs : starEach [.Name x q] X.env = (false, eval (.Name x q) X.env) :: starEach [] X.env := by rfl) (hst : ((backTo pos (starEach [] X.env)).any (·.1)) = false := by rfl) :
    EI X (.Call (.Name "len" p) [.Name x q] [] pos) (eLenB nm i g) := by
  refine ⟨_, pe_bor (pe_callB (call_lenO G hr.in1) hg hm PySem.boot_len (pa_cons (pe_var hN hv hd hcd) pa_nil hs) (by decide) (by decide) hs hst), fun O H0 H σ env τ ts d env' Q S h k => ?_⟩
  unfold eLenB at h
  split at h
  · rename_i io fs ho
    split at h
    · rename_i n hg
      split at h
      · rename_i hn
        cases h
        obtain ⟨he, hno⟩ := obAt_eq ho
        obtain ⟨v, fp, hw, ⟨a, D, dx, vs, as, rfl, rfl, nd, hcl, hH, hf⟩, fin⟩ := S.stepX he
        have eD := hC.eq hcl
        subst eD
        have nd' := List.nodup_cons.mp nd
        refine ⟨as, nd'.2, SlOk.obmut hf, fun H1 l => ?_⟩
        have kp := l.kp (SlOk.obmut hf)
        have hf1 := hf.frz kp l.2
        have hH1 : H1 a = some (.ins D dx vs) := by rw [l.1 a nd'.1]; exact hH
        obtain ⟨m, rfl⟩ := Int.eq_ofNat_of_zero_le hn.1
        refine ⟨.ref a, hw, a, dx, vs, rfl, hH1, a, D, dx, vs, frzF fs, .int m, rfl, hcl, hH1, hf1, hg, fun v H2 sm r => ⟨m, r, by omega, sm, fun H3 g1 g2 => k _ H3 ?_⟩⟩
        exact (S.same (same3 l sm g1 g2)).push rfl
      · cases h
    · cases h
  · cases h
/-- (a new list).append(x) -/
def sAppT (f : NF) (fx : EF) : SF := fun env => match f env with
  | some (ds, e1) => if ds.length < 10000000 then match fx e1 with
    | some (_, e2) => some (.nx e2)
    | none => none
    else none
  | none => none
theorem sx_appT {f : NF} {fx : EF} {apos cpos spos : Pos} (ho : EN X o f) (h : EI X e fx)
    (h1 : attributeBase o ("append" : Str) X.env (eval o X.env) = eval o X.env := by rfl)
    (h2 : (((((backTo cpos (starEach [e] X.env)).all fun x => !x.fst) && (backToKw cpos (keywordEach [] X.env)).all fun x => x.fst.isSome) && decide (([e].length + ([] : List Keyword).length + if ([] : List Keyword).isEmpty = true then 0 else 1) < 30)) = true) := by rfl)
    (h3 : (apos.endLine == cpos.line) = true := by rfl) (h4 : starEach [e] X.env = (false, eval e X.env) :: starEach [] X.env := by rfl) (h5 : ((backTo cpos (starEach [] X.env)).any fun x => x.fst) = false := by rfl)
    (h6 : swapsWith (.Call (.Attribute o ("append" : Str) apos) [e] [] cpos) none spos.line X.env = pure false := by rfl) :
    SX X (.Expr (.Call (.Attribute o ("append" : Str) apos) [e] [] cpos) spos) (sAppT f fx) := by
  obtain ⟨to, k1, k2⟩ := ho
  obtain ⟨t, g1, g2⟩ := h
  refine ⟨_, ps_expr (pe_bm PySem.F.plainAttrs_list PySem.F.slot_list_append PySem.F.type_list_append mt_append k1 (pa_cons g1 pa_nil h4) h1 h2 h3 h4 h5) h6, fun O H0 H σ env τ ts out D S h k => ?_⟩
  unfold sAppT at h
  split at h
  · rename_i ds e1 he1
    split at h
    · rename_i hlen
      split at h
      · rename_i xd e2 he2
        cases h
        refine k2 O H0 H σ env τ ts ds e1 _ S he1 fun v H1 S1 => ?_
        obtain ⟨p, xs, rfl, hp, hr⟩ := S1.topO
        refine ⟨.inl ⟨rfl, xs, .inl (.inl hp)⟩, g2 O H0 H1 σ e1 _ _ xd e2 _ S1 he2 fun v H2 S2 => ?_⟩
        have S3 := S2.pop
        obtain ⟨p', xs', e, hp', hr'⟩ := S3.topO
        cases e
        refine ⟨p, xs', v, rfl, rfl, hp', Nat.lt_of_lt_of_le (by rw [hr'.length]; exact hlen) (by decide), k σ _ ?_⟩
        exact (S3.writeT (hr'.append (.one S2.rp))).pop
      · cases h
    · cases h
  · cases h
end
section
variable {X : Cx} {e a b c o : Expr} {es rest : List Expr} {pos : Pos}
/-! ### quiet tests -/
def RunsQT (K : Kx) (t : TT) (f : QF) : Prop := ∀ (O : Ow) (H0 H : Hp) (σ : L2.St) (env : Nv) (τ : L2.St) (ts : Nv) (b : Bool) (Q : Bool → Hp → Prop), Sg K O H0 H σ env τ ts → f env = some (.bool b) → (∀ H', Same H H' → Q b H') → t σ H Q
def EQT (X : Cx) (e : Expr) (f : QF) : Prop := ∃ t, PT X e t ∧ RunsQT X.kx t f
theorem eqt_cmp {op : CmpOp} {r : R2} {g : Dt → Dt → Option Dt} {fa fb : QF} (ho : OpR X (compareOp op) r) (hr : OpD X.kx r g) (ha : EQ X a fa) (hb : EQ X b fb) (hm : behindInMarks op b = false) : EQT X (.Compare a [op] [b] pos) (qOp g fa fb) := by
  obtain ⟨ta, h1, h2⟩ := ha
  obtain ⟨tb, h3, h4⟩ := hb
  refine ⟨_, pt_cmpR ho h1 h3 hm, fun O H0 H σ env τ ts b Q S hf k => ?_⟩
  exact runs_qop hr h2 h4 O H0 H σ env τ ts _ _ S hf fun v H' sm r => ⟨b, r, k H' sm⟩
def cQT (K : Kx) (f : QF) : TT := fun σ H Q => ∃ (O : Ow) (H0 : Hp) (env : Nv) (τ : L2.St) (ts : Nv) (b : Bool), Sg K O H0 H σ env τ ts ∧ f env = some (.bool b) ∧ ∀ H', Same H H' → Q b H'
theorem EQT.can {f : QF} (h : EQT X e f) : PT X e (cQT X.kx f) := by
  obtain ⟨t, h1, h2⟩ := h
  refine ⟨fun pins s σ H Q I q => ?_⟩
  obtain ⟨O, H0, env, τ, ts, b, S, hf, k⟩ := q
  exact h1.run pins s σ H Q I (h2 O H0 H σ env τ ts b Q S hf k)
theorem eq_non {j : Nat} : EQ X (.Constant .none j pos) (qC .none) := ⟨_, pe_non, fun O H0 H σ env τ ts d Q S h k => by cases h; exact k _ H (Same.refl H) rfl⟩
theorem eq_nilL : EQ X (.List [] pos) (qC (.list [])) := ⟨_, pe_frz (pe_lst pa_nil), fun O H0 H σ env τ ts d Q S h k => by
  cases h
  refine ⟨Nat.zero_le _, fun p hp => ⟨p, [], rfl, upd_same, fun o => k _ _ (fun b u q => ?_) ⟨p, [], rfl, .inl ⟨o, upd_same⟩, rfl⟩⟩⟩
  have ne := ne_of_none q hp
  rw [upd_ne ne, upd_ne ne]
  exact q⟩
theorem eq_call0 {k : Nat} {x : Str} {ps : List Str} {g : List Dt → Option Dt} {p : Pos} (G : Good X.prog X.w X.K X.mg X.base k x ps (SpP X.kx g)) (hr : Room k X.A) (hg : Gl X x)
    (hd : (x == ("__debug__" : Str)) = false := by decide) : EQ X (.Call (.Name x p) [] [] pos) (qCall g []) := by
  obtain ⟨fa, fd, F, B, M, kp⟩ := G.ex
  refine ⟨_, pe_call0 F hr hg M kp B .nil pass0 hd, fun O H0 H σ env τ ts d Q S h k => ?_⟩
  exact ⟨[], d, rfl, h, k⟩
/-- tests with lists that are lent -/
def tBorT (t : TT) : TT := fun σ H Q => ∃ fp, fp.Nodup ∧ (∀ b ∈ fp, ∃ u, H b = some u ∧ Mut (some u)) ∧ ∀ H1, LockAll H H1 fp → t σ H1 fun v H2 => Same H1 H2 ∧ ∀ H3, (∀ b, b ∉ fp → H3 b = H2 b) → (∀ b ∈ fp, ∀ o u, H2 b = some (.frz o u) → H3 b = some u) → Q v H3
theorem pt_bor {t : TT} (h : PT X e t) : PT X e (tBorT t) := ⟨fun pins s σ H Q I q => by
  obtain ⟨fp, nd, hm, q⟩ := q
  obtain ⟨H1, l, I1⟩ := lockAll nd hm I
  refine thn (h.run pins s σ H1 _ I1 (q H1 l)) fun u s' ⟨H2, I2, sm, q2⟩ => ?_
  have un : ∀ b ∈ fp, (∀ o' u', X.H_0 b ≠ some (.frz o' u')) ∧ ∃ o u, H2 b = some (.frz o u) := fun b hb => by
    obtain ⟨u, h1, h2⟩ := hm b hb
    obtain ⟨o, u', _, h4⟩ := l.2 b hb
    exact ⟨I.nofrz h1 h2, o, u', sm b _ h4⟩
  obtain ⟨H3, g1, g2, I3⟩ := unlockAll nd un I2
  exact ⟨H3, I3, q2 H3 g1 g2⟩⟩
end

/-! ### the first row that passes takes one more; else a new row -/
def flagsQ (f : QF) (m : List Dt → Nv) : List (List Dt) → Option (List Bool)
  | [] => some []
  | ds :: r => match f (m ds) with
    | some (.bool b) => match flagsQ f m r with
      | some bs => some (b :: bs)
      | none => none
    | _ => none
def selA {α : Type} : List α → List Bool → List α
  | a :: as, b :: bs => if b = true then a :: selA as bs else selA as bs
  | _, _ => []
/-- the first place that is true -/
def fstT : List Bool → Option Nat
  | [] => none
  | b :: bs => if b = true then some 0 else (fstT bs).map (· + 1)
def sAlk (i j o ru : Nat) (f : QF) : SF := fun env => match olAt env i with
  | some (io, dss) => match env[ru]? with
    | some (some (.im r)) => match flagsQ f (fun ds => ((env.set i (some (.im (.list (lls dss))))).set j none).set j (some (.im (.list ds)))) dss with
      | some fl => match dEq (.list (lls (selA dss fl))) (.list []) with
        | some (.bool true) => if dss.length < 1000000 ∧ j < env.length ∧ o < env.length then some (.nx ((env.set o none).set i (some (.ol io (dss ++ [[r]]))))) else none
        | some (.bool false) => match fstT fl with
          | some m => match dss[m]? with
            | some ds => if ds.length < 1000000 ∧ dss.length < 1000000 ∧ j < env.length ∧ o < env.length then some (.nx ((env.set o none).set i (some (.ol io (dss.set m (ds ++ [r])))))) else none
            | none => none
          | none => none
        | _ => none
      | none => none
    | _ => none
  | none => none
theorem flagsQ_len {f : QF} {m : List Dt → Nv} : ∀ {dss : List (List Dt)} {fl : List Bool}, flagsQ f m dss = some fl → fl.length = dss.length
  | [], fl, h => by cases h; rfl
  | ds :: r, fl, h => by
    unfold flagsQ at h
    split at h
    · split at h
      · rename_i bs hb
        cases h
        simp [flagsQ_len hb]
      · cases h
    · cases h
theorem flagsQ_at {f : QF} {m : List Dt → Nv} : ∀ {dss : List (List Dt)} {fl : List Bool} {k : Nat} {ds : List Dt}, flagsQ f m dss = some fl → dss[k]? = some ds → ∃ b, fl[k]? = some b ∧ f (m ds) = some (.bool b)
  | [], fl, k, ds, _, hd => by simp at hd
  | d :: r, fl, k, ds, h, hd => by
    unfold flagsQ at h
    split at h
    · rename_i b hb
      split at h
      · rename_i bs hbs
        cases h
        cases k with
        | zero => simp at hd; subst hd; exact ⟨b, rfl, hb⟩
        | succ k =>
          obtain ⟨b', g1, g2⟩ := flagsQ_at (k := k) hbs (by simpa using hd)
          exact ⟨b', by simpa using g1, g2⟩
      · cases h
    · cases h
theorem selA_take {α : Type} : ∀ (as : List α) (fl : List Bool) (k : Nat) (a : α) (b : Bool), as[k]? = some a → fl[k]? = some b → selA (as.take (k + 1)) fl = selA (as.take k) fl ++ (if b = true then [a] else [])
  | [], fl, k, a, b, h, _ => by simp at h
  | x :: as, [], k, a, b, _, h => by simp at h
  | x :: as, y :: fl, 0, a, b, h, g => by
    simp at h g
    subst h; subst g
    simp only [List.take_succ_cons, List.take_zero, selA]
    split <;> simp [selA]
  | x :: as, y :: fl, k + 1, a, b, h, g => by
    have ih := selA_take as fl k a b (by simpa using h) (by simpa using g)
    rw [List.take_succ_cons, List.take_succ_cons]
    simp only [selA]
    split
    · rw [ih]; rfl
    · exact ih
theorem selA_map {α β : Type} (f : α → β) : ∀ (as : List α) (fl : List Bool), selA (as.map f) fl = (selA as fl).map f
  | [], fl => by cases fl <;> rfl
  | x :: as, [] => rfl
  | x :: as, y :: fl => by
    simp only [List.map_cons, selA, selA_map f as fl]
    split <;> rfl
theorem selA_fst {α : Type} : ∀ {as : List α} {fl : List Bool} {m : Nat}, as.length = fl.length → fstT fl = some m → ∃ a r, as[m]? = some a ∧ selA as fl = a :: r
  | [], [], m, _, h => by cases h
  | x :: as, [], m, hl, _ => by simp at hl
  | [], y :: fl, m, hl, _ => by simp at hl
  | x :: as, y :: fl, m, hl, h => by
    unfold fstT at h
    simp only [selA]
    split at h
    · rename_i q
      cases h
      rw [if_pos q]
      exact ⟨x, _, rfl, rfl⟩
    · rename_i q
      obtain ⟨m', h', rfl⟩ := Option.map_eq_some_iff.mp h
      rw [if_neg q]
      obtain ⟨a, r, h1, h2⟩ := selA_fst (by simpa using hl) h'
      exact ⟨a, r, by simpa using h1, h2⟩
theorem selA_rp {K : Kx} {H : Hp} : ∀ {ds : List Dt} {vs : List V} (fl : List Bool), RpL K H ds vs → RpL K H (selA ds fl) (selA vs fl)
  | [], _, fl, h => by cases h; cases fl <;> exact rfl
  | d :: ds, _, [], h => by
    obtain ⟨v, r, rfl, h1, h2⟩ := h
    exact rfl
  | d :: ds, _, y :: fl, h => by
    obtain ⟨v, r, rfl, h1, h2⟩ := h
    simp only [selA]
    split
    · exact ⟨v, _, rfl, h1, selA_rp fl h2⟩
    · exact selA_rp fl h2
theorem selA_len {α : Type} : ∀ (as : List α) (fl : List Bool), (selA as fl).length ≤ as.length
  | [], fl => by cases fl <;> simp [selA]
  | x :: as, [] => by simp [selA]
  | x :: as, y :: fl => by
    have := selA_len as fl
    simp only [selA]
    split <;> simp <;> omega
section
variable {X : Cx} {e a b c o : Expr} {es rest : List Expr} {pos : Pos}
theorem wipe1_set {σ : L2.St} {j : Nat} {x : Option V} : L2.wipe ((L2.wipe σ [j]).set j x) [j] = L2.wipe σ [j] := by
  refine (wipe_eq (σ := L2.wipe σ [j]) (by simp) fun k hk => ?_).trans (wipe_eq (by rw [wipe_length]) fun k hk => wipe_get hk)
  rw [List.getElem?_set_ne (fun z => hk (by simp [z]))]
/-- own = [row for row in lists if c]: own holds the rows that pass, as they stand -/
theorem alk_own {f : QF} {i j : Nat} {K : Kx} {O : Ow} {H0 H : Hp} {σ τ : L2.St} {env ts : Nv} {io : Bool} {dss : List (List Dt)} {fl : List Bool} {Q : VK} (S : Sg K O H0 H σ env τ ts) (ho : olAt env i = some (io, dss)) (hij : i ≠ j) (hjl : j < σ.length) (hfl : flagsQ f (fun ds => ((env.set i (some (.im (.list (lls dss))))).set j none).set j (some (.im (.list ds)))) dss = some fl) (hlen : dss.length < 1000000)
    (k : ∀ (a0 D : Addr) (as : List Addr) (H3 : Hp), σ[i]? = some (some (.ref a0)) → Same H H3 → H D = none → H3 D = some (.lst (selA (as.map V.ref) fl)) → SlOk K H3 (.ref a0) (.ol io dss) (a0 :: as) → Q (.ref D) H3) :
    tBor (tLc (iList K (tVar i)) (gName j) (cQT K f) (tVar j) [j]) σ H Q := by
  obtain ⟨v, fp, hw, ⟨a0, as, rfl, rfl, nd, hH, hr⟩, fin⟩ := S.stepX (olAt_eq ho)
  refine ⟨a0 :: as, nd, ol_mut hH hr, fun H1 l => ?_⟩
  have kp := l.kp (ol_mut hH hr)
  have rd := ol_frz hH hr l
  have hrows : RpL K H1 (lls dss) (as.map V.ref) := hr.frozen kp fun b hb => l.2 b (List.mem_cons_of_mem _ hb)
  have S1 := fin H1 (.im (.list (lls dss))) kp l.live (fun b u hb q => by rw [l.1 b hb]; exact q) ⟨[], ⟨rd, rfl⟩, fun b hb => by cases hb⟩ (fun z => by cases z)
  have sq : SqL K H1 a0 (as.map V.ref) := by
    obtain ⟨oo, u, q1, q2⟩ := l.2 a0 List.mem_cons_self
    rw [hH] at q1; cases q1
    exact .inl (.inr ⟨oo, q2⟩)
  have hla : as.length = dss.length := hr.length
  refine ⟨.ref a0, hw, a0, rfl, ⟨_, sq⟩, fun D hD => ?_⟩
  have hDf : D ∉ a0 :: as := fun z => by
    obtain ⟨oo, u, _, q2⟩ := l.2 D z
    rw [hD] at q2; cases q2
  have hD0 : H D = none := by rw [← l.1 D hDf]; exact hD
  refine lc_it walk_list (fun k Hk => k ≤ as.length ∧ Same H1 Hk ∧ Hk D = some (.lst (selA ((as.take k).map V.ref) fl))) ⟨Nat.zero_le _, same_upd hD, by rw [upd_same]; cases fl <;> rfl⟩ (fun k Hk _ ⟨_, sm, _⟩ => sq.ext sm) (fun k x Hk Hk' hk ⟨hkl, sm, hDk⟩ y => ?_) (fun Hk ⟨_, sm, hDk⟩ => ?_)
  · obtain ⟨rfl, hx⟩ := y
    rw [List.length_map] at hk
    have hak : as[k]? = some as[k] := List.getElem?_eq_getElem hk
    have hx' : x = .ref as[k] := by rw [List.getElem?_map, hak] at hx; cases hx; rfl
    subst hx'
    have hdk : dss[k]? = some (dss[k]'(by omega)) := List.getElem?_eq_getElem (by omega)
    obtain ⟨b, hb1, hb2⟩ := flagsQ_at hfl hdk
    obtain ⟨v, hv1, hv2⟩ := hrows.get (i := k) (d := .list (dss[k]'(by omega))) (by unfold lls; rw [List.getElem?_map, hdk]; rfl)
    rw [List.getElem?_map, hak] at hv1
    cases hv1
    have S2 := ((S1.same sm).wipe [j]).push (Rp.kp (.of_same sm) _ _ hv2)
    have S3 := S2.put j
    have ew : wip (env.set i (some (.im (.list (lls dss))))) [j] = (env.set i (some (.im (.list (lls dss))))).set j none := rfl
    rw [ew] at S3
    refine ⟨wipe1_set, O, H0, _, τ, ts, b, S3, hb2, fun H3 s3 => ?_⟩
    have sm3 : Same H1 H3 := fun b u q => s3 b u (sm b u q)
    have hD3 := s3 _ _ hDk
    have et := selA_take as fl k as[k] b hak hb1
    cases b with
    | true =>
      show (if true = true then _ else _)
      rw [if_pos rfl]
      refine ⟨.ref as[k], by rw [List.getElem?_set_self (by rw [wipe_length]; exact hjl)], _, hD3, Nat.lt_of_le_of_lt (selA_len _ _) (by rw [List.length_map, List.length_take]; exact Nat.lt_of_le_of_lt (Nat.min_le_right _ _) (by rw [hla]; exact Nat.lt_of_lt_of_le hlen (by decide))), by omega, fun b u q => ?_, ?_⟩
      · rw [upd_ne (ne_of_none q hD)]; exact sm3 b u q
      · rw [upd_same, selA_map, selA_map, et, if_pos rfl, List.map_append]
        rfl
    | false =>
      show (if false = true then _ else _)
      rw [if_neg Bool.false_ne_true]
      refine ⟨by omega, sm3, ?_⟩
      rw [hD3, selA_map, selA_map, et, if_neg Bool.false_ne_true, List.append_nil]
  · rw [List.length_map, List.take_length] at hDk
    refine ⟨sm, fun H3 g1 g2 => ?_⟩
    have s3 := same3 l sm g1 g2
    exact k a0 D as H3 hw s3 hD0 (by rw [g1 D hDf]; exact hDk) ⟨a0, as, rfl, rfl, nd, s3 _ _ hH, hr.kp (.of_same s3) fun b _ u q => s3 b u q⟩
end
section
variable {X : Cx} {e a b c o : Expr} {es rest : List Expr} {pos : Pos}
/-- a statement with lists that are lent -/
def tBorS (t : TS) : TS := fun D σ H => ∃ fp, fp.Nodup ∧ (∀ b ∈ fp, ∃ u, H b = some u ∧ Mut (some u)) ∧ ∀ H1, LockAll H H1 fp → t { nx := fun σ' H2 => Same H1 H2 ∧ ∀ H3, (∀ b, b ∉ fp → H3 b = H2 b) → (∀ b ∈ fp, ∀ o u, H2 b = some (.frz o u) → H3 b = some u) → D.nx σ' H3, rt := fun _ _ => False } σ H1
theorem ps_bor {st : Stmt} {t : TS} (h : PS X st t) : PS X st (tBorS t) := ⟨fun pins s σ H D I q => by
  obtain ⟨fp, nd, hm, q⟩ := q
  obtain ⟨H1, l, I1⟩ := lockAll nd hm I
  refine thn (h.run pins s σ H1 _ I1 (q H1 l)) fun fl s' hq => ?_
  cases fl with
  | next =>
    obtain ⟨σ', H2, I2, sm, q2⟩ := hq
    have un : ∀ b ∈ fp, (∀ o' u', X.H_0 b ≠ some (.frz o' u')) ∧ ∃ o u, H2 b = some (.frz o u) := fun b hb => by
      obtain ⟨u, h1, h2⟩ := hm b hb
      obtain ⟨o, u', _, h4⟩ := l.2 b hb
      exact ⟨I.nofrz h1 h2, o, u', sm b _ h4⟩
    obtain ⟨H3, g1, g2, I3⟩ := unlockAll nd un I2
    exact ⟨σ', H3, I3, q2 H3 g1 g2⟩
  | brk => obtain ⟨_, _, _, z⟩ := hq; exact z.elim
  | cont => obtain ⟨_, _, _, z⟩ := hq; exact z.elim
  | ret u => obtain ⟨_, _, _, _, _, z⟩ := hq; exact z.elim⟩
theorem bor_asg {t : TE} {i : Nat} {D : Ends} {σ : L2.St} {H : Hp} (h : tBor t σ H fun v H' => D.nx (σ.set i (some v)) H') : tBorS (tAsg t (gName i)) D σ H := by
  obtain ⟨fp, nd, hm, q⟩ := h
  exact ⟨fp, nd, hm, fun H1 l => q H1 l⟩
theorem alk_state {f : QF} {i j ow : Nat} {K : Kx} {O : Ow} {H0 H : Hp} {σ τ : L2.St} {env ts : Nv} {io : Bool} {dss : List (List Dt)} {fl : List Bool} {tt : TT} {bb : Bool} {R : V → Bool → Hp → Prop} (S : Sg K O H0 H σ env τ ts) (ho : olAt env i = some (io, dss)) (hij : i ≠ j) (hio : i ≠ ow) (hjl : j < env.length) (hol : ow < env.length)
    (hfl : flagsQ f (fun ds => ((env.set i (some (.im (.list (lls dss))))).set j none).set j (some (.im (.list ds)))) dss = some fl) (hlen : dss.length < 1000000) (q2 : RunsQT K tt (qOp dEq (qVar ow) (qC (.list [])))) (hEq : dEq (.list (lls (selA dss fl))) (.list []) = some (.bool bb))
    (k : ∀ (a0 Da : Addr) (as : List Addr) (H6 : Hp), Sg K O H0 H6 (σ.set ow (some (.ref Da))) (env.set ow none) τ ts → σ[i]? = some (some (.ref a0)) → H6 a0 = some (.lst (as.map V.ref)) → H6 Da = some (.lst (selA (as.map V.ref) fl)) → R (.ref Da) bb H6) :
    tBor (tLc (iList K (tVar i)) (gName j) (cQT K f) (tVar j) [j]) σ H (fun v H' => tBorT tt (σ.set ow (some v)) H' (fun b H6 => R v b H6)) := by
  have le := S.le
  refine alk_own S ho hij (by omega) hfl hlen fun a0 Da as H3 hwi s3 hD hD3 sl3 => ?_
  have S3 := (S.same s3).wipe1 ow (some (.ref Da))
  obtain ⟨a0', as', e, ef, nd, hH3, hr3⟩ := sl3
  cases e
  cases ef
  have hDf : Da ∉ a0 :: as := fun z => by
    obtain ⟨v, fp, hw, ⟨a1, as1, rfl, rfl, nd1, hH1, hr1⟩, _⟩ := S.stepX (olAt_eq ho)
    rw [hwi] at hw; cases hw
    have e1 := s3 _ _ hH1
    rw [hH3] at e1
    have e2 : as = as1 := refs_inj (by injection e1 with e1; injection e1)
    subst e2
    rcases List.mem_cons.mp z with rfl | z
    · rw [hH1] at hD; cases hD
    · obtain ⟨ys, q⟩ := hr1.there Da z
      rw [q] at hD; cases hD
  refine ⟨Da :: a0 :: as, List.nodup_cons.mpr ⟨hDf, nd⟩, fun b hb => ?_, fun H4 l => ?_⟩
  · rcases List.mem_cons.mp hb with rfl | hb
    · exact ⟨_, hD3, trivial⟩
    · exact ol_mut hH3 hr3 b hb
  have hm : ∀ b ∈ Da :: a0 :: as, ∃ u, H3 b = some u ∧ Mut (some u) := fun b hb => by
    rcases List.mem_cons.mp hb with rfl | hb
    · exact ⟨_, hD3, trivial⟩
    · exact ol_mut hH3 hr3 b hb
  have kp := l.kp hm
  have hrows : RpL K H4 (lls dss) (as.map V.ref) := hr3.frozen kp fun b hb => l.2 b (List.mem_cons_of_mem _ (List.mem_cons_of_mem _ hb))
  have rD : Rp K H4 (.list (lls (selA dss fl))) (.ref Da) := by
    obtain ⟨oo, u, z1, z2⟩ := l.2 Da List.mem_cons_self
    rw [hD3] at z1; cases z1
    refine ⟨Da, _, rfl, .inl ⟨oo, z2⟩, ?_⟩
    have := selA_rp fl hrows
    unfold lls at this ⊢
    rw [selA_map] at this
    exact this
  have S5 : Sg K Ow.nil H4 H4 (σ.set ow (some (.ref Da))) (((σ.set ow (some (.ref Da))).map fun _ => none).set ow (some (.im (.list (lls (selA dss fl)))))) [] [] := by
    have z : Sg K Ow.nil H4 H4 (σ.set ow (some (.ref Da))) ((σ.set ow (some (.ref Da))).map fun _ => none) [] [] := ⟨by simpa using sg_none (K := K) (H := H4) (σ.set ow (some (V.ref Da))), by simp⟩
    have z2 := (z.push rD).put ow
    rw [List.set_set] at z2
    exact z2
  refine q2 Ow.nil H4 H4 _ _ [] [] bb _ S5 ?_ fun H5 s5 => ⟨s5, fun H6 g1 g2 => ?_⟩
  · have : (((σ.set ow (some (V.ref Da))).map fun _ => (none : Option Sl)).set ow (some (.im (.list (lls (selA dss fl))))))[ow]? = some (some (.im (.list (lls (selA dss fl))))) := List.getElem?_set_self (by simp; omega)
    unfold qOp qVar qC
    rw [this]
    exact hEq
  · have s6 := same3 l s5 g1 g2
    exact k a0 Da as H6 (S3.same s6) hwi (s6 _ _ hH3) (s6 _ _ hD3)
theorem sxs_alk {i j ow ru : Nat} {xi xj xo xr : Str} {f : QF} {scope : Scope} {k0 : Nat} {p1 p2 p3 p4 p5 p6 p7 p8 p9 p10 p11 p12 p13 p14 p15 p16 p17 p18 p19 p20 p21 p22 p23 : Pos} (hc : X.calm = true) (hu : X.A.units + 64 < cLine) (nd : X.N.Nodup) (hni : X.N[i]? = some xi) (hnj : X.N[j]? = some xj) (hno : X.N[ow]? = some xo) (hnr : X.N[ru]? = some xr) (hij : i ≠ j) (hio : i ≠ ow) (hro : ru ≠ ow) (hri : ru ≠ i) (hyo : X.env.scope.names.lookup xo = some .local)
    (hsw : swapsWith (.ListComp (.Name xj p2) [⟨.Name xj p3, .Name xi p4, [c], 0⟩] scope p5) (some (.Name xo p1)) p6.line X.env = pure true) (ok : BlkOk X.N X.env.scope scope [(xj, j)])
    (hg : ∀ (s : Shared) (H : Hp) (C : Addr) (cl : List (Str × Addr)) (fp : List Addr), PG (X.blk s H scope (compEnvC scope cl C X.env) fp) (.Name xj p3) (gName j))
    (ht : ∀ (s : Shared) (H : Hp) (C : Addr) (cl : List (Str × Addr)) (fp : List Addr), EQT (X.blk s H scope (compEnvC scope cl C X.env) fp) c f)
    (he : ∀ (s : Shared) (H : Hp) (C : Addr) (cl : List (Str × Addr)) (fp : List Addr), PE (X.blk s H scope (compEnvC scope cl C X.env) fp) (.Name xj p2) (tVar j))
    (hvi : Vis X.env.scope xi) (hvo : Vis X.env.scope xo) (hvr : Vis X.env.scope xr) (hdi : (xi == ("__debug__" : Str)) = false := by decide) (hci : (xi == ("__classdict__" : Str)) = false := by decide) (hdo : (xo == ("__debug__" : Str)) = false := by decide) (hco : (xo == ("__classdict__" : Str)) = false := by decide) (hdr : (xr == ("__debug__" : Str)) = false := by decide) (hcr : (xr == ("__classdict__" : Str)) = false := by decide)
    (hs : ∀ x, foldedSetIterable (.Name xi p4) X.env x = pure x := by intro _; rfl)
    (a1 : attributeBase (.Name xi p10) ("append" : Str) X.env (eval (.Name xi p10) X.env) = eval (.Name xi p10) X.env := by rfl)
    (a2 : (((((backTo p14 (starEach [.List [.Name xr p12] p13] X.env)).all fun x => !x.fst) && (backToKw p14 (keywordEach [] X.env)).all fun x => x.fst.isSome) && decide (([Expr.List [.Name xr p12] p13].length + ([] : List Keyword).length + if ([] : List Keyword).isEmpty = true then 0 else 1) < 30)) = true) := by rfl)
    (a3 : (p11.endLine == p14.line) = true := by rfl) (a4 : starEach [.List [.Name xr p12] p13] X.env = (false, eval (.List [.Name xr p12] p13) X.env) :: starEach [] X.env := by rfl) (a5 : ((backTo p14 (starEach [] X.env)).any fun x => x.fst) = false := by rfl)
    (a6 : swapsWith (.Call (.Attribute (.Name xi p10) ("append" : Str) p11) [.List [.Name xr p12] p13] [] p14) none p15.line X.env = pure false := by rfl) (a7 : starEach [.Name xr p12] X.env = (false, eval (.Name xr p12) X.env) :: starEach [] X.env := by rfl)
    (b1 : attributeBase (.Subscript (.Name xo p16) (.Constant (.int 0) k0 p17) p18) ("append" : Str) X.env (eval (.Subscript (.Name xo p16) (.Constant (.int 0) k0 p17) p18) X.env) = eval (.Subscript (.Name xo p16) (.Constant (.int 0) k0 p17) p18) X.env := by rfl)
    (b2 : (((((backTo p21 (starEach [.Name xr p20] X.env)).all fun x => !x.fst) && (backToKw p21 (keywordEach [] X.env)).all fun x => x.fst.isSome) && decide (([Expr.Name xr p20].length + ([] : List Keyword).length + if ([] : List Keyword).isEmpty = true then 0 else 1) < 30)) = true) := by rfl)
    (b3 : (p19.endLine == p21.line) = true := by rfl) (b4 : starEach [.Name xr p20] X.env = (false, eval (.Name xr p20) X.env) :: starEach [] X.env := by rfl) (b5 : ((backTo p21 (starEach [] X.env)).any fun x => x.fst) = false := by rfl)
    (b6 : swapsWith (.Call (.Attribute (.Subscript (.Name xo p16) (.Constant (.int 0) k0 p17) p18) ("append" : Str) p19) [.Name xr p20] [] p21) none p22.line X.env = pure false := by rfl) :
    SXs X [.Assign [.Name xo p1] (.ListComp (.Name xj p2) [⟨.Name xj p3, .Name xi p4, [c], 0⟩] scope p5) p6,
      .If (.Compare (.Name xo p7) [.Eq] [.List [] p8] p9) [.Expr (.Call (.Attribute (.Name xi p10) "append" p11) [.List [.Name xr p12] p13] [] p14) p15]
        [.Expr (.Call (.Attribute (.Subscript (.Name xo p16) (.Constant (.int 0) k0 p17) p18) "append" p19) [.Name xr p20] [] p21) p22] p23] (sAlk i j ow ru f) := by
  obtain ⟨tt, q1, q2⟩ := eqt_cmp (X := X) (pos := p9) (op_eqR hu) od_eq (eq_var (pos := p7) ow hno hvo hdo hco) (eq_nilL (pos := p8)) rfl
  refine ⟨_, pss_cons (ps_bor (ps_setLc (own := [(xj, j)]) (tt := cQT X.kx f) hc nd hno hyo hsw (pi_list (pe_var hni hvi hdi hci)) ok hg (fun s H C cl fp => pts_one (ht s H C cl fp).can) he hs))
    (pss_one (ps_if (pt_bor q1) (pss_one (ps_expr (pe_bm PySem.F.plainAttrs_list PySem.F.slot_list_append PySem.F.type_list_append mt_append (pe_var hni hvi hdi hci) (pa_cons (pe_lst (pa_cons (pe_var hnr hvr hdr hcr) pa_nil a7)) pa_nil a4) a1 a2 a3 a4 a5) a6))
      (pss_one (ps_expr (pe_bm PySem.F.plainAttrs_list PySem.F.slot_list_append PySem.F.type_list_append mt_append (pe_ix ix_seq (pe_var hno hvo hdo hco) pe_int (fun _ _ => rfl)) (pa_cons (pe_var hnr hvr hdr hcr) pa_nil b4) b1 b2 b3 b4 b5) b6)))), fun O H0 H σ env τ ts out D S h k => ?_⟩
  have le := S.le
  unfold sAlk at h
  split at h
  · rename_i io dss ho
    split at h
    · rename_i r hru
      split at h
      · rename_i fl hfl
        split at h
        · rename_i hEq
          split at h
          · rename_i hcc
            cases h
            refine bor_asg (alk_state S ho hij hio hcc.2.1 hcc.2.2 hfl hcc.1 q2 hEq fun a0 Da as H6 S6 hwi hH6 hD6 => ?_)
            show (if true = true then _ else _)
            rw [if_pos rfl]
            have ho6 : (env.set ow none)[i]? = some (some (.ol io dss)) := by rw [List.getElem?_set_ne (Ne.symm hio)]; exact olAt_eq ho
            have hr6 : (env.set ow none)[ru]? = some (some (.im r)) := by rw [List.getElem?_set_ne (Ne.symm hro)]; exact hru
            obtain ⟨vr, hwr, rr⟩ := S6.slotI hr6
            obtain ⟨v, fp, hw, ⟨a1, as1, rfl, rfl, nd1, hH1, hr1⟩, fin⟩ := S6.stepX ho6
            have hwi' : (σ.set ow (some (V.ref Da)))[i]? = some (some (.ref a0)) := by rw [List.getElem?_set_ne (Ne.symm hio)]; exact hwi
            rw [hwi'] at hw; cases hw
            have hla := hr1.length
            refine ⟨.ref a0, hwi', .inl ⟨rfl, _, .inl (.inl hH1)⟩, vr, hwr, by show 1 ≤ _; decide, fun p hp => ?_⟩
            have hpf : p ∉ a0 :: as1 := fun z => by
              rcases List.mem_cons.mp z with rfl | z
              · rw [hH1] at hp; cases hp
              · obtain ⟨ys, q⟩ := hr1.there p z
                rw [q] at hp; cases hp
            have npa : p ≠ a0 := fun z => hpf (by simp [z])
            refine ⟨a0, as1.map V.ref, .ref p, rfl, rfl, by rw [upd_ne npa.symm]; exact hH1, Nat.lt_of_lt_of_le (by rw [List.length_map, hla]; exact hcc.1) (by decide), k _ _ ?_⟩
            have kp7 : Kp H6 (upd (upd H6 p (.lst [vr])) a0 (.lst (as1.map V.ref ++ [.ref p]))) := (Kp.new hp).trans (.lst (xs := as1.map V.ref) (by rw [upd_ne npa.symm]; exact hH1))
            refine fin _ (.ol io (dss ++ [[r]])) kp7 (fun b hb => live_upd (live_upd hb)) (fun b u hb q => ?_) ⟨a0 :: (as1 ++ [p]), ⟨a0, as1 ++ [p], rfl, rfl, ?_, by rw [upd_same]; simp, ?_⟩, fun b hb => ?_⟩ id
            · rw [upd_ne (fun z => hb (by simp [z])), upd_ne (ne_of_none q hp)]
              exact q
            · have n1 := List.nodup_cons.mp nd1
              refine List.nodup_cons.mpr ⟨fun z => ?_, List.nodup_append.mpr ⟨n1.2, by simp, fun x hx y hy z => ?_⟩⟩
              · rcases List.mem_append.mp z with z | z
                · exact n1.1 z
                · exact npa (List.mem_singleton.mp z).symm
              · cases List.mem_singleton.mp hy
                exact hpf (List.mem_cons_of_mem _ (z ▸ hx))
            · refine Rows.snoc (ys := [vr]) (by rw [upd_ne npa, upd_same]) (.one (Rp.kp kp7 _ _ rr)) (hr1.kp kp7 fun c hc u q => ?_)
              rw [upd_ne (fun z => by subst z; exact (List.nodup_cons.mp nd1).1 hc), upd_ne (ne_of_none q hp)]
              exact q
            · rcases List.mem_cons.mp hb with rfl | hb
              · exact .inl List.mem_cons_self
              · rcases List.mem_append.mp hb with hb | hb
                · exact .inl (List.mem_cons_of_mem _ hb)
                · rw [List.mem_singleton.mp hb]; exact .inr hp
          · cases h
        · rename_i hEq
          split at h
          · rename_i m hm
            split at h
            · rename_i ds hds
              split at h
              · rename_i hcc
                cases h
                refine bor_asg (alk_state S ho hij hio hcc.2.2.1 hcc.2.2.2 hfl hcc.2.1 q2 hEq fun a0 Da as H6 S6 hwi hH6 hD6 => ?_)
                show (if false = true then _ else _)
                rw [if_neg Bool.false_ne_true]
                have ho6 : (env.set ow none)[i]? = some (some (.ol io dss)) := by rw [List.getElem?_set_ne (Ne.symm hio)]; exact olAt_eq ho
                have hr6 : (env.set ow none)[ru]? = some (some (.im r)) := by rw [List.getElem?_set_ne (Ne.symm hro)]; exact hru
                obtain ⟨vr, hwr, rr⟩ := S6.slotI hr6
                obtain ⟨v, fp, hw, ⟨a1, as1, rfl, rfl, nd1, hH1, hr1⟩, fin⟩ := S6.stepX ho6
                have hwi' : (σ.set ow (some (V.ref Da)))[i]? = some (some (.ref a0)) := by rw [List.getElem?_set_ne (Ne.symm hio)]; exact hwi
                rw [hwi'] at hw; cases hw
                have e2 : as = as1 := refs_inj (by rw [hH6] at hH1; injection hH1 with hH1; injection hH1)
                subst e2
                have hla := hr1.length
                have nd' := List.nodup_cons.mp nd1
                obtain ⟨a2, ys, g1, g2, g3, g4⟩ := hr1.at nd'.2 hds
                have hlf : (as.map V.ref).length = fl.length := by rw [List.length_map, hla, flagsQ_len hfl]
                obtain ⟨w, rw_, z1, z2⟩ := selA_fst hlf hm
                rw [List.getElem?_map, g1] at z1
                cases z1
                rw [z2] at hD6
                have hwo : (σ.set ow (some (V.ref Da)))[ow]? = some (some (.ref Da)) := List.getElem?_set_self (by omega)
                have hat : atI (V.ref a2 :: rw_) 0 = some (.ref a2) := by simp [atI, ixN]
                refine ⟨.ref Da, hwo, .inl ⟨Da, _, 0, .ref a2, rfl, rfl, .inl (.inl hD6), hat, .inl ⟨rfl, ys, .inl (.inl g2)⟩, vr, hwr, a2, ys, vr, rfl, rfl, g2, Nat.lt_of_lt_of_le (by rw [g3.length]; exact hcc.1) (by decide), k _ _ ?_⟩⟩
                have ma : a2 ∈ as := List.mem_of_getElem? g1
                have ne0 : a0 ≠ a2 := fun z => by subst z; exact nd'.1 ma
                have kp7 : Kp H6 (upd H6 a2 (.lst (ys ++ [vr]))) := .lst g2
                refine fin _ (.ol io (dss.set m (ds ++ [r]))) kp7 (fun b hb => live_upd hb) (fun b u hb q => ?_) ⟨a0 :: as, ⟨a0, as, rfl, rfl, nd1, by rw [upd_ne ne0]; exact hH1, g4 _ _ _ kp7 (fun b hb ne u q => by rw [upd_ne ne]; exact q) upd_same ((g3.append (.one rr)).kp kp7)⟩, fun b hb => .inl hb⟩ id
                rw [upd_ne (fun z => hb (by subst z; exact List.mem_cons_of_mem _ ma))]
                exact q
              · cases h
            · cases h
          · cases h
        · cases h
      · cases h
    · cases h
  · cases h
end
section
variable {X : Cx} {e a b c o : Expr} {es rest : List Expr} {pos : Pos}
/-- x = [], a list of lists -/
def sNilL (i : Nat) : SF := fun env => some (.nx (env.set i (some (.ol false []))))
theorem sx_nilL {i : Nat} {x : Str} {pos' pos2 : Pos} (hN : X.N.Nodup) (hi : X.N[i]? = some x) (hx : Loc X.env.scope x) (hs : swapsWith (.List [] pos2) (some (.Name x pos')) pos.line X.env = pure false := by rfl)
    (hf : X.fn x = true ∨ X.env.scope.names.lookup x = some .local := by first | exact .inl rfl | exact .inr rfl | assumption) : SX X (.Assign [.Name x pos'] (.List [] pos2) pos) (sNilL i) := by
  refine ⟨_, ps_set hN hi hx (pe_lst pa_nil) hs hf, fun O H0 H σ env τ ts out D S h k => ?_⟩
  cases h
  refine ⟨Nat.zero_le _, fun p hp => k _ _ ?_⟩
  exact (S.pushO (same_upd hp) (s := .ol false []) (v := .ref p) (fp := [p]) ⟨p, [], rfl, rfl, by simp, upd_same, rfl⟩ (fun b hb => by cases List.mem_singleton.mp hb; exact hp) rfl).put i
end
def B_alike_lists_l1 : SF := (sAlk 2 5 4 3 (qOp dIs (qCall F_parted [(qVar 0), (qOp dIx (qVar 5) (qC (.int 0))), (qVar 3), (qVar 1), (qTup [(qCall F_begun []), (qCall F_begun [])])]) (qC .none)))
def B_alike_lists : SF := (sSeq (sExpr (eCall F_need_room (aI (eVar 0) aNil)))
    (sSeq (sExpr (eCall F_need_kind (aI (eVar 1) aNil)))
    (sSeq (sNilL 2)
    (sSeq (sFor (itD (eCall F_family aNil)) (gNm 3) B_alike_lists_l1)
    (sRet (eVarL 2))))))
def F_alike_lists : List Dt → Option Dt := fnP 2 4 B_alike_lists

section
variable {X : Cx} {st : Stmt} {rest : List Stmt} {e a b c o : Expr} {es : List Expr} {pos : Pos}
/-! ### own[lo:] as a new list, the own list stays -/
def nSlV (j : Nat) (fl : OF) : NF := fun env => match owAt env j with
  | some _ => match fl env with
    | some (l, e) => match owAt e j with
      | some (_, ds) => some (cutD ds l none, e)
      | none => none
    | none => none
  | none => none
theorem en_slV {j : Nat} {y : Str} {lo : Option Expr} {fl : OF} {p p2 : Pos} (hl : EO X lo fl) (hN : X.N[j]? = some y := by rfl) (hv : Vis X.env.scope y := by first | exact Or.inl rfl | exact Or.inr (Or.inl rfl) | exact Or.inr (Or.inr rfl)) (hd : (y == ("__debug__" : Str)) = false := by decide) (hcd : (y == ("__classdict__" : Str)) = false := by decide) :
    EN X (.Subscript (.Name y p) (.Slice lo none none p2) pos) (nSlV j fl) := by
  obtain ⟨tl, h3, h4⟩ := hl
  refine ⟨_, pe_slice sl_list (pe_var hN hv hd hcd) h3 po_none, fun O H0 H σ env τ ts ds env' Q S h k => ?_⟩
  unfold nSlV at h
  split at h
  · rename_i p0 ho0
    split at h
    · rename_i l e1 he1
      split at h
      · rename_i io1 ds1 ho1
        cases h
        obtain ⟨a0, xs0, hw, hH0, _⟩ := S.own (io := p0.1) (ds := p0.2) ho0
        refine ⟨.ref a0, hw, h4 O H0 H σ env τ ts _ _ _ S he1 fun H1 S1 => ?_⟩
        obtain ⟨a, xs, hw1, hH1, hr1⟩ := S1.own ho1
        rw [hw] at hw1; cases hw1
        exact ⟨a0, xs, rfl, .inl (.inl hH1), fun q hq => k _ _ (S1.pushNew hq (cut_rp l none hr1))⟩
      · cases h
    · cases h
  · cases h
/-! ### x = [[], []] -/
def sNil2 (i : Nat) : SF := fun env => some (.nx (env.set i (some (.ol false [[], []]))))
theorem sx_nil2 {i : Nat} {x : Str} {pos' pos2 p3 p4 : Pos} (hN : X.N.Nodup) (hi : X.N[i]? = some x) (hx : Loc X.env.scope x) (hs : swapsWith (.List [.List [] p3, .List [] p4] pos2) (some (.Name x pos')) pos.line X.env = pure false := by rfl)
    (hf : X.fn x = true ∨ X.env.scope.names.lookup x = some .local := by first | exact .inl rfl | exact .inr rfl | assumption)
    (n1 : starEach [.List [] p3, .List [] p4] X.env = (false, eval (.List [] p3) X.env) :: starEach [.List [] p4] X.env := by rfl) (n2 : starEach [.List [] p4] X.env = (false, eval (.List [] p4) X.env) :: starEach [] X.env := by rfl) : SX X (.Assign [.Name x pos'] (.List [.List [] p3, .List [] p4] pos2) pos) (sNil2 i) := by
  refine ⟨_, ps_set hN hi hx (pe_lst (pa_cons (pe_lst pa_nil) (pa_cons (pe_lst pa_nil) pa_nil n2) n1)) hs hf, fun O H0 H σ env τ ts out D S h k => ?_⟩
  cases h
  refine ⟨Nat.zero_le _, fun p hp => ⟨Nat.zero_le _, fun q hq => ⟨by show 2 ≤ sizeLine; decide, fun r hr => k _ _ ?_⟩⟩⟩
  have hpq : q ≠ p := fun z => by subst z; rw [upd_same] at hq; cases hq
  have hq0 : H q = none := by rw [upd_ne hpq] at hq; exact hq
  have hrq : r ≠ q := fun z => by subst z; rw [upd_same] at hr; cases hr
  have hr1 : upd H p (.lst []) r = none := by rw [upd_ne hrq] at hr; exact hr
  have hrp : r ≠ p := fun z => by subst z; rw [upd_same] at hr1; cases hr1
  have hr0 : H r = none := by rw [upd_ne hrp] at hr1; exact hr1
  refine (S.pushO (H' := upd (upd (upd H p (.lst [])) q (.lst [])) r (.lst [.ref p, .ref q])) (fun b u e => ?_) (s := .ol false [[], []]) (v := .ref r) (fp := [r, p, q]) ⟨r, [p, q], rfl, rfl, ?_, upd_same, ?_⟩ (fun b hb => ?_) rfl).put i
  · have nb : ∀ {c}, H c = none → b ≠ c := fun {c} z w => by subst w; rw [z] at e; cases e
    rw [upd_ne (nb hr0), upd_ne (nb hq0), upd_ne (nb hp)]
    exact e
  · simp [hrp, hrq, Ne.symm hpq]
  · exact ⟨p, [q], [], rfl, by rw [upd_ne (Ne.symm hrp), upd_ne (Ne.symm hpq), upd_same], rfl, q, [], [], rfl, by rw [upd_ne (Ne.symm hrq), upd_same], rfl, rfl⟩
  · have : b = r ∨ b = p ∨ b = q := by simpa using hb
    rcases this with rfl | rfl | rfl
    · exact hr0
    · exact hp
    · exact hq0
end
/-! ### z, y = e, rows[w]: a row is lent to y for the rest of the suite -/
def RunsK2 (i j : Nat) (K : Kx) (t : TS) (g : SF) : Prop := ∀ (O : Ow) (H0 H : Hp) (σ : L2.St) (env : Nv) (τ : L2.St) (ts : Nv) (e : Nv) (D : Ends), Sg K O H0 H σ env τ ts → g env = some (.nx e) → (∀ σ' H', Sg K O H0 H' σ' e τ ts → σ'[i]? = σ[i]? → σ'[j]? = σ[j]? → D.nx σ' H') → t D σ H
def SXk2 (X : Cx) (i j : Nat) (sts : List Stmt) (g : SF) : Prop := ∃ t, PSs X sts t ∧ RunsK2 i j X.kx t g
section
variable {X : Cx} {st : Stmt} {rest : List Stmt} {e a b c o : Expr} {es : List Expr} {pos : Pos} {i j : Nat}
theorem k2_nil : SXk2 X i j [] sSkip := ⟨_, pss_nil, fun O H0 H σ env τ ts e D S h k => by cases h; exact k σ H S rfl rfl⟩
theorem seq_inv {f g : SF} {env e : Nv} (h : sSeq f g env = some (.nx e)) : ∃ e1, f env = some (.nx e1) ∧ g e1 = some (.nx e) := by
  unfold sSeq at h
  cases hf : f env with
  | none => rw [hf] at h; cases h
  | some o =>
    rw [hf] at h
    cases o with
    | nx e1 => exact ⟨e1, rfl, h⟩
    | _ => cases h
theorem k2_k {f g : SF} (h : SXk X st f) (h' : SXk2 X i j rest g) : SXk2 X i j (st :: rest) (sSeq f g) := by
  obtain ⟨t, h1, h2⟩ := h
  obtain ⟨u, h3, h4⟩ := h'
  refine ⟨_, pss_cons h1 h3, fun O H0 H σ env τ ts e D S h k => ?_⟩
  obtain ⟨e1, q1, q2⟩ := seq_inv h
  show t { D with nx := u D } σ H
  exact h2 O H0 H σ env τ ts e1 _ S q1 fun H1 S1 => h4 O H0 H1 σ e1 τ ts e D S1 q2 k
theorem k2_new {n : Nat} {x : Str} {f : NF} {g : SF} {pos' : Pos} (hni : n ≠ i) (hnj : n ≠ j) (hN : X.N.Nodup) (hi : X.N[n]? = some x) (hx : Loc X.env.scope x) (h : EN X e f) (h' : SXk2 X i j rest g) (hs : swapsWith e (some (.Name x pos')) pos.line X.env = pure false := by rfl)
    (hf : X.fn x = true ∨ X.env.scope.names.lookup x = some .local := by first | exact .inl rfl | exact .inr rfl | assumption) : SXk2 X i j (.Assign [.Name x pos'] e pos :: rest) (sSeq (sNew n f) g) := by
  obtain ⟨t, h1, h2⟩ := h
  obtain ⟨u, h3, h4⟩ := h'
  refine ⟨_, pss_cons (ps_set hN hi hx h1 hs hf) h3, fun O H0 H σ env τ ts e D S h k => ?_⟩
  obtain ⟨e1, q1, q2⟩ := seq_inv h
  unfold sNew at q1
  split at q1
  · rename_i d e2 he
    cases q1
    refine h2 O H0 H σ env τ ts d e2 _ S he fun v H1 S1 => ?_
    refine h4 O H0 H1 _ _ τ ts e D (S1.put n) q2 fun σ' H' S' w1 w2 => k σ' H' S' ?_ ?_
    · rw [w1, List.getElem?_set_ne hni]
    · rw [w2, List.getElem?_set_ne hnj]
  · cases q1
theorem sxsk_ret {f : EF} (h : EI X e f) : SXsk X [.Return (some e) pos] (sRet f) := by
  obtain ⟨t, h1, h2⟩ := h
  refine ⟨_, pss_one (ps_ret h1), fun O H0 H σ env τ ts e D S h k => ?_⟩
  unfold sRet at h
  split at h <;> cases h
def sLend (i j l m : Nat) (f1 : EF) (g : SF) : SF := fun env => match f1 env with
  | some (d1, e1) => match olAt e1 i, valAt e1 m with
    | some (io, dss), some (.int k) => match ixN dss.length k with
      | some n => match dss[n]? with
        | some ds => if j < e1.length then (match g ((((e1.set l (some (.im d1))).set j none).set i none).set j (some (.ow false ds))) with
          | some (.nx e3) => match owAt e3 j with
            | some (false, ds') => if (offAt e3 i && e3.all noIo) = true then some (.nx ((e3.set j none).set i (some (.ol io (dss.set n ds'))))) else none
            | _ => none
          | _ => none) else none
        | none => none
      | none => none
    | _, _ => none
  | none => none
theorem valAt_int {env : Nv} {m : Nat} {k : Int} (h : valAt env m = some (.int k)) : env[m]? = some (some (.im (.int k))) := by
  unfold valAt at h
  split at h
  · rename_i d hd; cases h; exact hd
  · cases h
  · cases h
theorem sxs_lend {l m : Nat} {x y z w : Str} {f1 : EF} {g : SF} {px py pz pw ps pt pt2 : Pos} {kt k2 : Nat} (hij : i ≠ j) (hil : i ≠ l) (hjl : j ≠ l) (hc : X.calm = true) (hN : X.N.Nodup) (hi : X.N[i]? = some x) (hvx : Vis X.env.scope x) (hj : X.N[j]? = some y) (hl : X.N[l]? = some z) (hm : X.N[m]? = some w) (hvw : Vis X.env.scope w)
    (hz : X.env.scope.names.lookup z = some .local) (hy : X.env.scope.names.lookup y = some .local) (h1 : EI X a f1) (hr : SXk2 X i j rest g)
    (hw : swappedStores [.Tuple [.Name z pz, .Name y py] kt pt] (.Tuple [a, .Subscript (.Name x px) (.Name w pw) ps] k2 pt2) X.env = pure (some [z, y]))
    (hs : swapsWithSole [.Tuple [.Name z pz, .Name y py] kt pt] (.Tuple [a, .Subscript (.Name x px) (.Name w pw) ps] k2 pt2) pos.line X.env = pure false := by rfl)
    (n1 : starEach [a, .Subscript (.Name x px) (.Name w pw) ps] X.env = (false, eval a X.env) :: starEach [.Subscript (.Name x px) (.Name w pw) ps] X.env := by rfl) (n2 : starEach [.Subscript (.Name x px) (.Name w pw) ps] X.env = (false, eval (.Subscript (.Name x px) (.Name w pw) ps) X.env) :: starEach [] X.env := by rfl)
    (hpi : PlainIx (.Name w pw) := by intro _ _; rfl)
    (hd : (x == ("__debug__" : Str)) = false := by decide) (hcd : (x == ("__classdict__" : Str)) = false := by decide) (hd2 : (w == ("__debug__" : Str)) = false := by decide) (hcd2 : (w == ("__classdict__" : Str)) = false := by decide) :
    SXs X (.Assign [.Tuple [.Name z pz, .Name y py] kt pt] (.Tuple [a, .Subscript (.Name x px) (.Name w pw) ps] k2 pt2) pos :: rest) (sLend i j l m f1 g) := by
  obtain ⟨t1, g1, g2⟩ := h1
  obtain ⟨u, h3, h4⟩ := hr
  refine ⟨_, pss_cons (ps_par hc hN hl hj (Ne.symm hjl) hz hy (pa_cons g1 (pa_cons (pe_ix ix_list (pe_var hi hvx hd hcd) (pe_var hm hvw hd2 hcd2) hpi) pa_nil n2) n1) hw hs) h3, fun O H0 H σ env τ ts out D S h k => ?_⟩
  unfold sLend at h
  split at h
  rotate_left
  · cases h
  rename_i d1 e1 he1
  split at h
  rotate_left
  · cases h
  rename_i io dss kk ho hv
  split at h
  rotate_left
  · cases h
  rename_i n hn
  split at h
  rotate_left
  · cases h
  rename_i ds hds
  split at h
  rotate_left
  · cases h
  rename_i jl
  split at h
  rotate_left
  · cases h
  rename_i e3 he3
  split at h
  rotate_left
  · cases h
  rename_i ds' ho3
  split at h
  rotate_left
  · cases h
  rename_i hchk
  cases h
  rw [Bool.and_eq_true] at hchk
  have ho := olAt_eq ho
  refine g2 O H0 H σ env τ ts d1 e1 _ S he1 fun v1 H1 S1 => ?_
  obtain ⟨v, hwi, fp, a0, as, rfl, hfp, nd, hH, hrw⟩ := S1.slot ho
  rw [hfp] at nd
  obtain ⟨vk, hwm, rk⟩ := S1.slotI (valAt_int hv)
  cases rk
  have hlen := hrw.length
  have nd' := List.nodup_cons.mp nd
  obtain ⟨b0, ys, q1, q2, q3, q4⟩ := hrw.at nd'.2 hds
  have hat : atI (as.map V.ref) kk = some (.ref b0) := by
    unfold atI
    rw [List.length_map, hlen, hn]
    show (as.map V.ref)[n]? = _
    rw [List.getElem?_map, q1]; rfl
  refine ⟨_, hwi, .int kk, hwm, a0, as.map V.ref, kk, .ref b0, rfl, rfl, .inl (.inl hH), hat, v1, .ref b0, rfl, ?_⟩
  have S2 := (S1.put l).wipe1 j (some (.ref b0))
  have il : i < e1.length := (List.getElem?_eq_some_iff.mp ho).1
  have le1 := S1.le
  have gi : (((e1.set l (some (.im d1))).set j none) ++ ts)[i]? = some (some (.ol io dss)) := get_left (by rw [List.getElem?_set_ne (Ne.symm hij), List.getElem?_set_ne (Ne.symm hil)]; exact ho)
  have gj : (((e1.set l (some (.im d1))).set j none) ++ ts)[j]? = some none := get_left (by rw [List.getElem?_set_self (by simpa using jl)])
  have wi : ((σ.set l (some v1)).set j (some (.ref b0)))[i]? = some (some (.ref a0)) := by rw [List.getElem?_set_ne (Ne.symm hij), List.getElem?_set_ne (Ne.symm hil)]; exact hwi
  have wj : ((σ.set l (some v1)).set j (some (.ref b0)))[j]? = some (some (.ref b0)) := by rw [List.getElem?_set_self (by simp; omega)]
  obtain ⟨O1, Sa, close⟩ := S2.st.lend hij gi (get_left wi) gj hH q1 hds
  have Sb : Sg X.kx O1 H1 H1 ((σ.set l (some v1)).set j (some (.ref b0))) ((((e1.set l (some (.im d1))).set j none).set i none).set j (some (.ow false ds))) τ ts := by
    refine ⟨?_, by simp; omega⟩
    have := Sa
    rw [List.set_append_left (s := (σ.set l (some v1)).set j (some (.ref b0))) _ _ (by simp; omega), List.set_set, List.set_append_left (s := (e1.set l (some (.im d1))).set j none) _ _ (by simpa using il), List.set_append_left _ _ (by simpa using jl)] at this
    exact this
  refine h4 O1 H1 H1 _ _ τ ts e3 D Sb he3 fun σ' H2 Sc w1 w2 => k σ' H2 ?_
  have lc := Sc.le
  have l0 := Sc.st.len
  have l1 := S2.st.len
  have l2 := S2.le
  have s1 : τ.length = ts.length := by simp at l1 l2; omega
  have wi' : σ'[i]? = some (some (.ref a0)) := by rw [w1]; exact wi
  have wj' : σ'[j]? = some (some (.ref b0)) := by rw [w2]; exact wj
  have j3 : j < e3.length := (List.getElem?_eq_some_iff.mp (owAt_eq ho3)).1
  have i3 : i < e3.length := (List.getElem?_eq_some_iff.mp (offAt_eq hchk.1)).1
  have hio : ∀ l' s, l' ≠ j → (e3 ++ ts)[l']? = some (some s) → s.io = true → ∀ c, (σ' ++ τ)[l']? = some (some (.ref c)) → O.top c := fun l' s hlj hl o c q => by
    by_cases hle : l' < e3.length
    · rw [List.getElem?_append_left hle] at hl
      have := List.all_eq_true.mp hchk.2 _ (List.mem_of_getElem? hl)
      simp only [noIo, Bool.not_eq_true'] at this
      rw [this] at o; cases o
    · rw [List.getElem?_append_right (by omega)] at hl q
      refine S2.st.root (((e1.set l (some (.im d1))).set j none).length + (l' - e3.length)) s c ?_ o ?_
      · rw [List.getElem?_append_right (by omega)]
        simpa using hl
      · rw [List.getElem?_append_right (by omega)]
        rw [l2, Nat.add_sub_cancel_left]
        rw [lc] at q
        exact q
  obtain ⟨Sd, ha2⟩ := close H2 _ _ ds' Sc.st (get_left wi') (get_left wj') (get_left (owAt_eq ho3)) hio
  refine ⟨?_, by simp; omega⟩
  rw [List.set_append_left _ _ j3, List.set_append_left _ _ (by simpa using i3)] at Sd
  exact Sd
end

def B_law_l1 : SF := (sLend 6 11 10 9 (eOp dIx (eMethB "Desk" "lines" 5 G_Desk_lines) (eVar 9)) (sSeq (sIf (tOrF (tVal (eOp dGt (eCall dLen (aI (eVar 10) aNil)) (eLenV 11))) (tVal (eOp dIn (eC (.int 0)) (eVar 10)))) (sRet (eC (.bool false))) sSkip) (sSeq (sNew 12 (nSlV 11 (oAt (eOp dSub (eLenV 11) (eCall dLen (aI (eVar 10) aNil)))))) (sSeq (sIf (tOrF (tVal (eOp dNe (eNew (nCall seqOf (aI (eSl (eVar 10) (oAt (eC (.int 1))) oNo) aNil))) (eSl (eVar 12) (oAt (eC (.int 1))) oNo))) (tAndF (tVal (eOp dNe (eVar 10) (eTup aNil))) (tVal (eOp dGt (eOp dIx (eVar 10) (eC (.int 0))) (eOp dIx (eVar 12) (eC (.int 0))))))) (sRet (eC (.bool false))) sSkip) sSkip))))
def B_law_l2 : SF := (sSeq (sExpr (eMethM "Desk" "tick" 5 G_Desk_tick (aI (eVar 7) aNil)))
    (sSeq (sIf (tAndF (tVal (eOp dIsn (eVar 8) (eC .none))) (tNotF (tVal (eOp dIx (eVar 8) (eC (.int 1)))))) (sAppL 6 (qOp dIx (qVar 8) (qC (.int 0))) (qVar 7)) sSkip)
    (sFor (itD (eTup (aI (eC (.int 0)) (aI (eC (.int 1)) aNil)))) (gNm 9) B_law_l1)))
def B_law : SF := (sSeq (sNew 1 (nLst (aI (eC (.int 0)) (aI (eC (.int 0)) aNil))))
    (sSeq (sPar [2, 3] (aI (eCallT 1 F__law_room (eVar 0) aNil) (aI (eCallT 1 F__law_rule (eVar 0) aNil) aNil)))
    (sSeq (sPar [4, 5] (aI (eCallT 1 F__law_jobs (eVar 0) (aI (eC (.int 30)) aNil)) (aB "Desk" (bMake G_Desk___init__ (aI (eVar 2) (aI (eVar 3) aNil))) aNil)))
    (sSeq (sNil2 6)
    (sSeq (sFor (itZ (aI (eVar 4) (aI (eCall F_notes_along (aI (eVar 2) (aI (eVar 3) (aI (eVar 4) aNil)))) aNil))) (gTp (gsCons (gNm 7) (gsCons (gNm 8) gsNil))) B_law_l2)
    (sRet (eOp dEq (eLenB "Desk" 5 G_Desk___len__) (eCall dLen (aI (eVar 4) aNil)))))))))
def F_law : List Dt → Option Dt := fnP 1 12 B_law
def topS (i : Nat) : Stmt := PySem.Challenge.pw_jobsenders_k46_whole_fifo.main.body.getD i (.Pass ⟨0, 0, 0, 0⟩)
structure Txt (K : PySem.W.Frag) (mg : Str → Option Value) (CD : Addr) : Prop where
  k_Desk : ClOk K "Desk" CD
  dk_Desk : DkT K "Desk" CD
  mk_Desk : PySem.W.makesIn K CD = true
  kc_Desk : PySem.W.keepIn K (.ref CD) = true
  mg_Desk : mg "Desk" = some (.ref CD)
  f_is_int : Has K mg "is_int" (topS 11) ["value", "least", "most"]
  f_is_room : Has K mg "is_room" (topS 12) ["candidate"]
  f_need_room : Has K mg "need_room" (topS 15) ["value"]
  f_is_rule : Has K mg "is_rule" (topS 13) ["candidate"]
  f_need_rule : Has K mg "need_rule" (topS 16) ["value"]
  f_need_both : Has K mg "need_both" (topS 17) ["room", "rule"]
  f_are_jobs : Has K mg "are_jobs" (topS 14) ["candidate"]
  f_need_jobs : Has K mg "need_jobs" (topS 18) ["value"]
  f_need_run : Has K mg "need_run" (topS 25) ["room", "rule", "jobs"]
  f_begun : Has K mg "begun" (topS 20) []
  f_named : Has K mg "named" (topS 21) ["rule", "place", "job"]
  f_worked : Has K mg "worked" (topS 22) ["line"]
  f_tick : Has K mg "tick" (topS 23) ["room", "rule", "place", "job"]
  f_run : Has K mg "run" (topS 24) ["room", "rule", "jobs"]
  f_notes_of : Has K mg "notes_of" (topS 26) ["room", "rule", "jobs"]
  f_notes_along : Has K mg "notes_along" (topS 27) ["room", "rule", "jobs"]
  f__law_draw : Has K mg "_law_draw" (topS 31) ["script", "town", "many"]
  f__law_room : Has K mg "_law_room" (topS 33) ["script", "town"]
  f__law_pick : Has K mg "_law_pick" (topS 32) ["script", "town", "some"]
  f__law_rule : Has K mg "_law_rule" (topS 34) ["script", "town"]
  f__law_jobs : Has K mg "_law_jobs" (topS 35) ["script", "town", "most"]
  m_Desk_notes : HasM K CD "notes" "Desk.notes" (inClass (topS 29) 3) ["self"]
  m_Desk_tick : HasM K CD "tick" "Desk.tick" (inClass (topS 29) 1) ["self", "job"]
  m_Desk_place : HasM K CD "place" "Desk.place" (inClass (topS 29) 4) ["self"]
  m_Desk_lines : HasM K CD "lines" "Desk.lines" (inClass (topS 29) 6) ["self"]
  m_Desk___init__ : HasM K CD "__init__" "Desk.__init__" (inClass (topS 29) 0) ["self", "room", "rule"]
  m_Desk___len__ : HasM K CD "__len__" "Desk.__len__" (inClass (topS 29) 11) ["self"]
  f_law : Has K mg "law" (topS 36) ["script"]
  m_all : mg "all" = none
  m_bool : mg "bool" = none
  m_int : mg "int" = none
  m_isinstance : mg "isinstance" = none
  m_len : mg "len" = none
  m_list : mg "list" = none
  m_min : mg "min" = none
  m_range : mg "range" = none
  m_str : mg "str" = none
  m_sum : mg "sum" = none
  m_tuple : mg "tuple" = none
  m_zip : mg "zip" = none
  c_HANDED : CstOk K mg "HANDED" (.tuple [.str "fewer", .str "least", .str "sizes", .str "turns"])
  c_LONGEST : CstOk K mg "LONGEST" (.int 40)
section
variable {P : Program} {w : World} {K : PySem.W.Frag} {mg : Str → Option Value} {base : Heap} {CD : Addr}
theorem sc_is_int : FnScope ["value", "least", "most"] ["value", "least", "most"] (defScope (topS 11)) := ⟨rfl, rfl, rfl, by decide +kernel, rfl, by decide +kernel, by decide +kernel⟩
theorem ok_is_int (T : Txt K mg CD) : Good P w K mg base 1 "is_int" ["value", "least", "most"] (SpP ⟨K, w⟩ F_is_int) := by
  have nd := sc_is_int.nd
  refine good_fn T.f_is_int sc_is_int rfl rfl fun f cdv A outer s H E hr => ?_
  have hu := hr.units
  exact (sxs_one (sx_ret (ei_and (ei_isi kit_int T.m_isinstance rfl T.m_int rfl (by decide +kernel) (ei_var 0)) (ei_and (ei_not (ei_isi kit_bool T.m_isinstance rfl T.m_bool rfl (by decide +kernel) (ei_var 0))) (ei_one (ei_chain (op_leR hu) od_cmp (op_leR hu) od_cmp (ei_var 1) (ei_var 0) (ei_var 2)))))))
theorem sc_is_room : FnScope ["candidate"] ["candidate"] (defScope (topS 12)) := ⟨rfl, rfl, rfl, by decide +kernel, rfl, by decide +kernel, by decide +kernel⟩
theorem ok_is_room (T : Txt K mg CD) : Good P w K mg base 2 "is_room" ["candidate"] (SpP ⟨K, w⟩ F_is_room) := by
  have nd := sc_is_room.nd
  refine good_fn T.f_is_room sc_is_room rfl rfl fun f cdv A outer s H E hr => ?_
  have hu := hr.units
  exact (sxs_one (sx_ret (ei_call (ok_is_int T) (hr.mono (by decide)) rfl (ea_i (ei_var 0) (ea_i ei_int (ea_i ei_int ea_nil))))))
theorem sc_need_room : FnScope ["value"] ["value"] (defScope (topS 15)) := ⟨rfl, rfl, rfl, by decide +kernel, rfl, by decide +kernel, by decide +kernel⟩
theorem ok_need_room (T : Txt K mg CD) : Good P w K mg base 3 "need_room" ["value"] (SpP ⟨K, w⟩ F_need_room) := by
  have nd := sc_need_room.nd
  refine good_fn T.f_need_room sc_need_room rfl rfl fun f cdv A outer s H E hr => ?_
  have hu := hr.units
  exact (sxs_one (sx_if (et_not (et_val (ei_call (ok_is_room T) (hr.mono (by decide)) rfl (ea_i (ei_var 0) ea_nil)))) (sxs_one sx_never) sxs_nil))
theorem sc_is_rule : FnScope ["candidate", "word", "number"] ["candidate"] (defScope (topS 13)) := ⟨rfl, rfl, rfl, by decide +kernel, rfl, by decide +kernel, by decide +kernel⟩
theorem ok_is_rule (T : Txt K mg CD) : Good P w K mg base 2 "is_rule" ["candidate"] (SpP ⟨K, w⟩ F_is_rule) := by
  have nd := sc_is_rule.nd
  refine good_fn T.f_is_rule sc_is_rule rfl rfl fun f cdv A outer s H E hr => ?_
  have hu := hr.units
  exact (sxs_cons (sx_if (et_w (ew_or (et_not (et_val (ei_isi kit_tup T.m_isinstance rfl T.m_tuple rfl (by decide +kernel) (ei_var 0)))) (ew_or (et_cmp (op_neR hu) od_ne (ei_len T.m_len rfl (ea_i (ei_var 0) ea_nil)) ei_int rfl) (ew_or1 (et_not (et_val (ei_isi kit_str T.m_isinstance rfl T.m_str rfl (by decide +kernel) (ei_ix (ei_var 0) ei_int (fun _ _ => rfl))))))))) (sxs_one (sx_ret ei_bl)) sxs_nil)
    (sxs_cons (sx_asg (ei_var 0) (eg_tup rfl (egs_cons (eg_name (i := 1) nd rfl (by first | exact Or.inl rfl | exact Or.inr rfl)) (egs_cons (eg_name (i := 2) nd rfl (by first | exact Or.inl rfl | exact Or.inr rfl)) egs_nil)) (gsCons_len (gsCons_len (fun _ _ _ h => gsNil_len h)))))
    (sxs_cons (sx_if (et_cmp (op_inR hu) od_in (ei_var 1) (ei_cst rfl T.c_HANDED) rfl) (sxs_one (sx_ret (ei_call (ok_is_int T) (hr.mono (by decide)) rfl (ea_i (ei_var 2) (ea_i ei_int (ea_i ei_int ea_nil)))))) sxs_nil)
    (sxs_one (sx_ret (ei_and (ei_cmp (op_inR hu) od_in (ei_var 1) (ei_tup (ea_i ei_str (ea_i ei_str ea_nil))) rfl) (ei_one (ei_call (ok_is_int T) (hr.mono (by decide)) rfl (ea_i (ei_var 2) (ea_i ei_int (ea_i ei_int ea_nil)))))))))))
theorem sc_need_rule : FnScope ["value"] ["value"] (defScope (topS 16)) := ⟨rfl, rfl, rfl, by decide +kernel, rfl, by decide +kernel, by decide +kernel⟩
theorem ok_need_rule (T : Txt K mg CD) : Good P w K mg base 3 "need_rule" ["value"] (SpP ⟨K, w⟩ F_need_rule) := by
  have nd := sc_need_rule.nd
  refine good_fn T.f_need_rule sc_need_rule rfl rfl fun f cdv A outer s H E hr => ?_
  have hu := hr.units
  exact (sxs_one (sx_if (et_not (et_val (ei_call (ok_is_rule T) (hr.mono (by decide)) rfl (ea_i (ei_var 0) ea_nil)))) (sxs_one sx_never) sxs_nil))
theorem sc_need_both : FnScope ["room", "rule"] ["room", "rule"] (defScope (topS 17)) := ⟨rfl, rfl, rfl, by decide +kernel, rfl, by decide +kernel, by decide +kernel⟩
theorem ok_need_both (T : Txt K mg CD) : Good P w K mg base 4 "need_both" ["room", "rule"] (SpP ⟨K, w⟩ F_need_both) := by
  have nd := sc_need_both.nd
  refine good_fn T.f_need_both sc_need_both rfl rfl fun f cdv A outer s H E hr => ?_
  have hu := hr.units
  exact (sxs_cons (sx_expr (ei_call (ok_need_room T) (hr.mono (by decide)) rfl (ea_i (ei_var 0) ea_nil)))
    (sxs_one (sx_expr (ei_call (ok_need_rule T) (hr.mono (by decide)) rfl (ea_i (ei_var 1) ea_nil)))))
theorem sc_are_jobs : FnScope ["candidate", "one"] ["candidate"] (defScope (topS 14)) := ⟨rfl, rfl, rfl, by decide +kernel, rfl, by decide +kernel, by decide +kernel⟩
theorem ok_are_jobs (T : Txt K mg CD) : Good P w K mg base 2 "are_jobs" ["candidate"] (SpP ⟨K, w⟩ F_are_jobs) := by
  have nd := sc_are_jobs.nd
  refine good_fn T.f_are_jobs sc_are_jobs rfl rfl fun f cdv A outer s H E hr => ?_
  have hu := hr.units
  exact (sxs_cons (sx_if (et_w (ew_or (et_not (et_val (ei_isi kit_list T.m_isinstance rfl T.m_list rfl (by decide +kernel) (ei_var 0)))) (ew_or1 (et_cmp (op_gtR hu) od_cmp (ei_len T.m_len rfl (ea_i (ei_var 0) ea_nil)) (ei_cst rfl T.c_LONGEST) rfl)))) (sxs_one (sx_ret ei_bl)) sxs_nil)
    (sxs_one (sx_ret (ei_all rfl T.m_all rfl (ea_i (ei_new (en_lc (ol := [("one", 1)]) rfl nd (el_data (ei_var 0)) (blkOk_by (N := ["candidate", "one"]) (sc := defScope (topS 14)) (by decide +kernel)) (by decide) (fun _ _ _ _ _ => (eg_name (i := 1) nd rfl (by first | exact Or.inl rfl | exact Or.inr rfl))) (fun _ _ _ _ _ => (ei_call (ok_is_int T) (hr.mono (by decide)) rfl (ea_i (ei_var 1) (ea_i ei_int (ea_i ei_int ea_nil))))))) ea_nil)))))
theorem sc_need_jobs : FnScope ["value"] ["value"] (defScope (topS 18)) := ⟨rfl, rfl, rfl, by decide +kernel, rfl, by decide +kernel, by decide +kernel⟩
theorem ok_need_jobs (T : Txt K mg CD) : Good P w K mg base 3 "need_jobs" ["value"] (SpP ⟨K, w⟩ F_need_jobs) := by
  have nd := sc_need_jobs.nd
  refine good_fn T.f_need_jobs sc_need_jobs rfl rfl fun f cdv A outer s H E hr => ?_
  have hu := hr.units
  exact (sxs_one (sx_if (et_not (et_val (ei_call (ok_are_jobs T) (hr.mono (by decide)) rfl (ea_i (ei_var 0) ea_nil)))) (sxs_one sx_never) sxs_nil))
theorem sc_need_run : FnScope ["room", "rule", "jobs"] ["room", "rule", "jobs"] (defScope (topS 25)) := ⟨rfl, rfl, rfl, by decide +kernel, rfl, by decide +kernel, by decide +kernel⟩
theorem ok_need_run (T : Txt K mg CD) : Good P w K mg base 5 "need_run" ["room", "rule", "jobs"] (SpP ⟨K, w⟩ F_need_run) := by
  have nd := sc_need_run.nd
  refine good_fn T.f_need_run sc_need_run rfl rfl fun f cdv A outer s H E hr => ?_
  have hu := hr.units
  exact (sxs_cons (sx_expr (ei_call (ok_need_both T) (hr.mono (by decide)) rfl (ea_i (ei_var 0) (ea_i (ei_var 1) ea_nil))))
    (sxs_one (sx_expr (ei_call (ok_need_jobs T) (hr.mono (by decide)) rfl (ea_i (ei_var 2) ea_nil)))))
theorem sc_begun : FnScope [] [] (defScope (topS 20)) := ⟨rfl, rfl, rfl, by decide +kernel, rfl, by decide +kernel, by decide +kernel⟩
theorem ok_begun (T : Txt K mg CD) : Good P w K mg base 1 "begun" [] (SpP ⟨K, w⟩ F_begun) := by
  have nd := sc_begun.nd
  refine good_fn T.f_begun sc_begun rfl rfl fun f cdv A outer s H E hr => ?_
  have hu := hr.units
  exact (sxs_one (sx_ret (ei_tup (ea_i (ei_tup ea_nil) (ea_i (ei_tup ea_nil) (ea_i ei_non ea_nil))))))
theorem sc_named : FnScope ["rule", "place", "job", "word", "number", "last", "one", "other"] ["rule", "place", "job"] (defScope (topS 21)) := ⟨rfl, rfl, rfl, by decide +kernel, rfl, by decide +kernel, by decide +kernel⟩
theorem ok_named (T : Txt K mg CD) : Good P w K mg base 1 "named" ["rule", "place", "job"] (SpP ⟨K, w⟩ F_named) := by
  have nd := sc_named.nd
  refine good_fn T.f_named sc_named rfl rfl fun f cdv A outer s H E hr => ?_
  have hu := hr.units
  exact (sxs_cons (sx_asg (ei_var 0) (eg_tup rfl (egs_cons (eg_name (i := 3) nd rfl (by first | exact Or.inl rfl | exact Or.inr rfl)) (egs_cons (eg_name (i := 4) nd rfl (by first | exact Or.inl rfl | exact Or.inr rfl)) egs_nil)) (gsCons_len (gsCons_len (fun _ _ _ h => gsNil_len h)))))
    (sxs_cons (sx_set (i := 5) nd rfl (by first | exact Or.inl rfl | exact Or.inr rfl) (ei_ix (ei_var 1) ei_int (fun _ _ => rfl)))
    (sxs_cons (sx_if (et_cmp (op_eqR hu) od_eq (ei_var 3) ei_str rfl) (sxs_one (sx_ret (ei_if (et_cmp op_isA od_is (ei_var 5) ei_non rfl) (ei_var 4) (ei_sub ei_int (ei_var 5))))) sxs_nil)
    (sxs_cons (sx_if (et_cmp (op_eqR hu) od_eq (ei_var 3) ei_str rfl) (sxs_one (sx_ret (ei_if (et_cmp (op_eqR hu) od_eq (ei_var 2) ei_int rfl) (ei_var 4) (ei_sub ei_int (ei_var 4))))) sxs_nil)
    (sxs_cons (sx_if (et_cmp (op_eqR hu) od_eq (ei_var 3) ei_str rfl) (sxs_one (sx_ret (ei_if (et_cmp (op_leR hu) od_cmp (ei_add (ei_sum rfl T.m_sum rfl (ea_i (ei_ix (ei_var 1) ei_int (fun _ _ => rfl)) ea_nil)) (ei_var 2)) (ei_var 4) rfl) ei_int ei_int))) sxs_nil)
    (sxs_cons (sx_if (et_cmp (op_eqR hu) od_eq (ei_var 3) ei_str rfl) (sxs_cons (sx_set (i := 5) nd rfl (by first | exact Or.inl rfl | exact Or.inr rfl) (ei_if (et_cmp op_isA od_is (ei_var 5) ei_non rfl) ei_int (ei_var 5)))
    (sxs_one (sx_ret (ei_if (et_cmp (op_leR hu) od_cmp (ei_add (ei_sum rfl T.m_sum rfl (ea_i (ei_ix (ei_var 1) (ei_var 5) (fun _ _ => rfl)) ea_nil)) (ei_var 2)) (ei_var 4) rfl) (ei_var 5) (ei_sub ei_int (ei_var 5)))))) sxs_nil)
    (sxs_cons (sx_asg (ei_if (et_cmp (op_eqR hu) od_eq (ei_var 3) ei_str rfl) (ei_tup (ea_i (ei_sum rfl T.m_sum rfl (ea_i (ei_ix (ei_var 1) ei_int (fun _ _ => rfl)) ea_nil)) (ea_i (ei_sum rfl T.m_sum rfl (ea_i (ei_ix (ei_var 1) ei_int (fun _ _ => rfl)) ea_nil)) ea_nil))) (ei_tup (ea_i (ei_len T.m_len rfl (ea_i (ei_ix (ei_var 1) ei_int (fun _ _ => rfl)) ea_nil)) (ea_i (ei_len T.m_len rfl (ea_i (ei_ix (ei_var 1) ei_int (fun _ _ => rfl)) ea_nil)) ea_nil)))) (eg_tup rfl (egs_cons (eg_name (i := 6) nd rfl (by first | exact Or.inl rfl | exact Or.inr rfl)) (egs_cons (eg_name (i := 7) nd rfl (by first | exact Or.inl rfl | exact Or.inr rfl)) egs_nil)) (gsCons_len (gsCons_len (fun _ _ _ h => gsNil_len h)))))
    (sxs_cons (sx_if (et_cmp (op_eqR hu) od_eq (ei_var 6) (ei_var 7) rfl) (sxs_one (sx_ret (ei_var 4))) sxs_nil)
    (sxs_one (sx_ret (ei_if (et_cmp (op_ltR hu) od_cmp (ei_var 6) (ei_var 7) rfl) ei_int ei_int)))))))))))
theorem sc_worked : FnScope ["line"] ["line"] (defScope (topS 22)) := ⟨rfl, rfl, rfl, by decide +kernel, rfl, by decide +kernel, by decide +kernel⟩
theorem ok_worked (T : Txt K mg CD) : Good P w K mg base 1 "worked" ["line"] (SpP ⟨K, w⟩ F_worked) := by
  have nd := sc_worked.nd
  refine good_fn T.f_worked sc_worked rfl rfl fun f cdv A outer s H E hr => ?_
  have hu := hr.units
  exact (sxs_cons (sx_if (et_cmp (op_eqR hu) od_eq (ei_var 0) (ei_tup ea_nil) rfl) (sxs_one (sx_ret (ei_var 0))) sxs_nil)
    (sxs_one (sx_ret (ei_if (et_cmp (op_eqR hu) od_eq (ei_ix (ei_var 0) ei_int (fun _ _ => rfl)) ei_int rfl) (ei_sl (ei_var 0) (eo_at ei_int) eo_no) (ei_add (ei_tup (ea_i (ei_sub (ei_ix (ei_var 0) ei_int (fun _ _ => rfl)) ei_int) ea_nil)) (ei_sl (ei_var 0) (eo_at ei_int) eo_no))))))
theorem sc_tick : FnScope ["room", "rule", "place", "job", "lines", "last", "note", "counts", "work", "is_lost", "kept"] ["room", "rule", "place", "job"] (defScope (topS 23)) := ⟨rfl, rfl, rfl, by decide +kernel, rfl, by decide +kernel, by decide +kernel⟩
theorem ok_tick (T : Txt K mg CD) : Good P w K mg base 2 "tick" ["room", "rule", "place", "job"] (SpP ⟨K, w⟩ F_tick) := by
  have nd := sc_tick.nd
  refine good_fn T.f_tick sc_tick rfl rfl fun f cdv A outer s H E hr => ?_
  have hu := hr.units
  exact (sxs_cons (sx_parN (is := [4, 5, 6, 7]) (n := 0) rfl (pgs_cons (pg_name (i := 4) nd rfl (by first | exact Or.inl rfl | exact Or.inr rfl)) (pgs_cons (pg_name (i := 5) nd rfl (by first | exact Or.inl rfl | exact Or.inr rfl)) (pgs_cons (pg_name (i := 6) nd rfl (by first | exact Or.inl rfl | exact Or.inr rfl)) (pgs_cons (pg_name (i := 7) nd rfl (by first | exact Or.inl rfl | exact Or.inr rfl)) pgs_nil)))) (ea_n (en_lst (ea_i (ei_ix (ei_var 2) ei_int (fun _ _ => rfl)) (ea_i (ei_ix (ei_var 2) ei_int (fun _ _ => rfl)) ea_nil))) (ea_i (ei_ix (ei_var 2) ei_int (fun _ _ => rfl)) (ea_i ei_non (ea_i (ei_tup (ea_i ei_int (ea_i ei_int ea_nil))) ea_nil)))) (by decide))
    (sxs_cons (sx_if (et_cmp (op_gtR hu) od_cmp (ei_var 3) ei_int rfl) (sxs_cons (sx_set (i := 5) nd rfl (by first | exact Or.inl rfl | exact Or.inr rfl) (ei_call (ok_named T) (hr.mono (by decide)) rfl (ea_i (ei_var 1) (ea_i (ei_var 2) (ea_i (ei_var 3) ea_nil)))))
    (sxs_cons (sx_set (i := 8) nd rfl (by first | exact Or.inl rfl | exact Or.inr rfl) (ei_sum rfl T.m_sum rfl (ea_i (ei_ixV (i := 4) (ei_var 5) (fun _ _ => rfl)) ea_nil)))
    (sxs_cons (sx_set (i := 9) nd rfl (by first | exact Or.inl rfl | exact Or.inr rfl) (ei_cmp (op_gtR hu) od_cmp (ei_add (ei_var 8) (ei_var 3)) (ei_var 0) rfl))
    (sxs_cons (sx_set (i := 6) nd rfl (by first | exact Or.inl rfl | exact Or.inr rfl) (ei_tup (ea_i (ei_var 5) (ea_i (ei_var 9) ea_nil))))
    (sxs_cons (sx_set (i := 7) nd rfl (by first | exact Or.inl rfl | exact Or.inr rfl) (ei_if (et_val (ei_var 9)) (ei_tup (ea_i (ei_var 3) (ea_i ei_int ea_nil))) (ei_tup (ea_i ei_int (ea_i (ei_sub (ei_var 8) (ei_min rfl hu T.m_min rfl (ea_i (ei_var 8) (ea_i (ei_sum rfl T.m_sum rfl (ea_i (ei_ixV (i := 4) (ei_sub ei_int (ei_var 5)) (fun _ _ => rfl)) ea_nil)) ea_nil)))) ea_nil)))))
    (sxs_one (sx_if (et_not (et_val (ei_var 9))) (sxs_one (sx_setI (i := 4) rfl (by first | exact Or.inl rfl | exact Or.inr (Or.inl rfl) | exact Or.inr (Or.inr rfl)) (ei_var 5) (ei_add (ei_ixV (i := 4) (ei_var 5) (fun _ _ => rfl)) (ei_tup (ea_i (ei_var 3) ea_nil))))) sxs_nil))))))) sxs_nil)
    (sxs_cons (sx_set (i := 10) nd rfl (by first | exact Or.inl rfl | exact Or.inr rfl) (ei_if (et_cmp (op_inR hu) od_in (ei_ix (ei_var 1) ei_int (fun _ _ => rfl)) (ei_tup (ea_i ei_str (ea_i ei_str ea_nil))) rfl) (ei_var 5) ei_non))
    (sxs_one (sx_ret (ei_tup (ea_i (ei_tup (ea_i (ei_call (ok_worked T) (hr.mono (by decide)) rfl (ea_i (ei_ixV (i := 4) ei_int (fun _ _ => rfl)) ea_nil)) (ea_i (ei_call (ok_worked T) (hr.mono (by decide)) rfl (ea_i (ei_ixV (i := 4) ei_int (fun _ _ => rfl)) ea_nil)) (ea_i (ei_var 10) ea_nil)))) (ea_i (ei_var 6) (ea_i (ei_var 7) ea_nil)))))))))
theorem sc_run : FnScope ["room", "rule", "jobs", "place", "found", "job", "note", "counts"] ["room", "rule", "jobs"] (defScope (topS 24)) := ⟨rfl, rfl, rfl, by decide +kernel, rfl, by decide +kernel, by decide +kernel⟩
theorem ok_run (T : Txt K mg CD) : Good P w K mg base 3 "run" ["room", "rule", "jobs"] (SpP ⟨K, w⟩ F_run) := by
  have nd := sc_run.nd
  refine good_fn T.f_run sc_run rfl rfl fun f cdv A outer s H E hr => ?_
  have hu := hr.units
  exact (sxs_cons (sx_par2 (i := 3) (j := 4) rfl nd rfl rfl (by decide) rfl rfl (ea_i (ei_call0 (ok_begun T) (hr.mono (by decide)) rfl) (ea_n (en_lst ea_nil) ea_nil)) (by rfl))
    (sxs_cons (sx_for PassesOwn.never rfl (el_data (ei_var 2)) (eg_name (i := 5) nd rfl (by first | exact Or.inl rfl | exact Or.inr rfl)) (sxs_cons (sx_asg (ei_call (ok_tick T) (hr.mono (by decide)) rfl (ea_i (ei_var 0) (ea_i (ei_var 1) (ea_i (ei_var 3) (ea_i (ei_var 5) ea_nil))))) (eg_tup rfl (egs_cons (eg_name (i := 3) nd rfl (by first | exact Or.inl rfl | exact Or.inr rfl)) (egs_cons (eg_name (i := 6) nd rfl (by first | exact Or.inl rfl | exact Or.inr rfl)) (egs_cons (eg_name (i := 7) nd rfl (by first | exact Or.inl rfl | exact Or.inr rfl)) egs_nil))) (gsCons_len (gsCons_len (gsCons_len (fun _ _ _ h => gsNil_len h))))))
    (sxs_one (sx_app (i := 4) rfl (by first | exact Or.inl rfl | exact Or.inr (Or.inl rfl) | exact Or.inr (Or.inr rfl)) (ei_tup (ea_i (ei_var 3) (ea_i (ei_var 6) (ea_i (ei_var 7) ea_nil))))))))
    (sxs_one (sx_ret (ei_var 4)))))
theorem sc_notes_of : FnScope ["room", "rule", "jobs", "place", "note", "counts"] ["room", "rule", "jobs"] (defScope (topS 26)) := ⟨rfl, rfl, rfl, by decide +kernel, rfl, by decide +kernel, by decide +kernel⟩
theorem ok_notes_of (T : Txt K mg CD) : Good P w K mg base 4 "notes_of" ["room", "rule", "jobs"] (SpP ⟨K, w⟩ F_notes_of) := by
  have nd := sc_notes_of.nd
  refine good_fn T.f_notes_of sc_notes_of rfl rfl fun f cdv A outer s H E hr => ?_
  have hu := hr.units
  exact (sxs_one (sx_ret (ei_new (en_lc (ol := [("place", 3), ("note", 4), ("counts", 5)]) rfl nd (el_data (ei_call (ok_run T) (hr.mono (by decide)) rfl (ea_i (ei_var 0) (ea_i (ei_var 1) (ea_i (ei_var 2) ea_nil))))) (blkOk_by (N := ["room", "rule", "jobs", "place", "note", "counts"]) (sc := defScope (topS 26)) (by decide +kernel)) (by decide) (fun _ _ _ _ _ => (eg_tup rfl (egs_cons (eg_name (i := 3) nd rfl (by first | exact Or.inl rfl | exact Or.inr rfl)) (egs_cons (eg_name (i := 4) nd rfl (by first | exact Or.inl rfl | exact Or.inr rfl)) (egs_cons (eg_name (i := 5) nd rfl (by first | exact Or.inl rfl | exact Or.inr rfl)) egs_nil))) (gsCons_len (gsCons_len (gsCons_len (fun _ _ _ h => gsNil_len h)))))) (fun _ _ _ _ _ => (ei_var 4))))))
theorem sc_notes_along : FnScope ["room", "rule", "jobs"] ["room", "rule", "jobs"] (defScope (topS 27)) := ⟨rfl, rfl, rfl, by decide +kernel, rfl, by decide +kernel, by decide +kernel⟩
theorem ok_notes_along (T : Txt K mg CD) : Good P w K mg base 6 "notes_along" ["room", "rule", "jobs"] (SpP ⟨K, w⟩ F_notes_along) := by
  have nd := sc_notes_along.nd
  refine good_fn T.f_notes_along sc_notes_along rfl rfl fun f cdv A outer s H E hr => ?_
  have hu := hr.units
  exact (sxs_cons (sx_expr (ei_call (ok_need_run T) (hr.mono (by decide)) rfl (ea_i (ei_var 0) (ea_i (ei_var 1) (ea_i (ei_var 2) ea_nil)))))
    (sxs_one (sx_ret (ei_call (ok_notes_of T) (hr.mono (by decide)) rfl (ea_i (ei_var 0) (ea_i (ei_var 1) (ea_i (ei_var 2) ea_nil)))))))
theorem sc__law_draw : FnScope ["script", "town", "many", "one", "at", "mixed"] ["script", "town", "many"] (defScope (topS 31)) := ⟨rfl, rfl, rfl, by decide +kernel, rfl, by decide +kernel, by decide +kernel⟩
theorem ok__law_draw (T : Txt K mg CD) : Good P w K mg base 1 "_law_draw" ["script", "town", "many"] (SpT ⟨K, w⟩ F__law_draw) := by
  have nd := sc__law_draw.nd
  refine good_fnT T.f__law_draw sc__law_draw rfl rfl fun f cdv A outer s H E hr => ?_
  have hu := hr.units
  exact (sxs_cons (sx_if (et_cmp (op_gtR hu) od_cmp (ei_ixV (i := 1) ei_int (fun _ _ => rfl)) ei_int rfl) (sxs_cons (sx_set (i := 3) nd rfl (by first | exact Or.inl rfl | exact Or.inr rfl) (ei_mod (ei_ixV (i := 1) ei_int (fun _ _ => rfl)) (ei_var 2)))
    (sxs_cons (sx_setI (i := 1) rfl (by first | exact Or.inl rfl | exact Or.inr (Or.inl rfl) | exact Or.inr (Or.inr rfl)) ei_int (ei_fdiv (ei_ixV (i := 1) ei_int (fun _ _ => rfl)) (ei_var 2)))
    (sxs_one (sx_ret (ei_var 3))))) sxs_nil)
    (sxs_cons (sx_set (i := 4) nd rfl (by first | exact Or.inl rfl | exact Or.inr rfl) (ei_ixV (i := 1) ei_int (fun _ _ => rfl)))
    (sxs_cons (sx_augI (i := 1) ip_add rfl (by first | exact Or.inl rfl | exact Or.inr (Or.inl rfl) | exact Or.inr (Or.inr rfl)) ei_int ei_int)
    (sxs_cons (sx_if (et_cmp (op_eqR hu) od_eq (ei_var 0) (ei_new (en_lst ea_nil)) rfl) (sxs_one (sx_ret (ei_mod (ei_var 4) (ei_var 2)))) sxs_nil)
    (sxs_cons (sx_if (et_w (ew_and (et_cmp (op_ltR hu) od_cmp (ei_var 4) (ei_len T.m_len rfl (ea_i (ei_var 0) ea_nil)) rfl) (ew_and1 (et_cmp (op_geR hu) od_cmp (ei_ix (ei_var 0) (ei_var 4) (fun _ _ => rfl)) (ei_pow ei_int ei_int) rfl)))) (sxs_cons (sx_setI (i := 1) rfl (by first | exact Or.inl rfl | exact Or.inr (Or.inl rfl) | exact Or.inr (Or.inr rfl)) ei_int (ei_mod (ei_fdiv (ei_ix (ei_var 0) (ei_var 4) (fun _ _ => rfl)) (ei_var 2)) (ei_mul (ei_pow ei_int ei_int) (ei_pow ei_int ei_int))))
    (sxs_one (sx_ret (ei_mod (ei_ix (ei_var 0) (ei_var 4) (fun _ _ => rfl)) (ei_var 2))))) sxs_nil)
    (sxs_cons (sx_set (i := 5) nd rfl (by first | exact Or.inl rfl | exact Or.inr rfl) (ei_mod (ei_add (ei_add (ei_mul (ei_ix (ei_var 0) (ei_mod (ei_var 4) (ei_len T.m_len rfl (ea_i (ei_var 0) ea_nil))) (fun _ _ => rfl)) ei_int) (ei_mul ei_int (ei_var 4))) ei_int) ei_int))
    (sxs_one (sx_ret (ei_mod (ei_mod (ei_mod (ei_pow (ei_var 5) ei_int) ei_int) ei_int) (ei_var 2))))))))))
theorem sc__law_room : FnScope ["script", "town"] ["script", "town"] (defScope (topS 33)) := ⟨rfl, rfl, rfl, by decide +kernel, rfl, by decide +kernel, by decide +kernel⟩
theorem ok__law_room (T : Txt K mg CD) : Good P w K mg base 2 "_law_room" ["script", "town"] (SpT ⟨K, w⟩ F__law_room) := by
  have nd := sc__law_room.nd
  refine good_fnT T.f__law_room sc__law_room rfl rfl fun f cdv A outer s H E hr => ?_
  have hu := hr.units
  exact (sxs_one (sx_ret (ei_add ei_int (ei_callT (i := 1) (ok__law_draw T) (hr.mono (by decide)) rfl (ei_var 0) rfl (by first | exact Or.inl rfl | exact Or.inr (Or.inl rfl) | exact Or.inr (Or.inr rfl)) (ea_i ei_int ea_nil)))))
theorem sc__law_pick : FnScope ["script", "town", "some"] ["script", "town", "some"] (defScope (topS 32)) := ⟨rfl, rfl, rfl, by decide +kernel, rfl, by decide +kernel, by decide +kernel⟩
theorem ok__law_pick (T : Txt K mg CD) : Good P w K mg base 2 "_law_pick" ["script", "town", "some"] (SpT ⟨K, w⟩ F__law_pick) := by
  have nd := sc__law_pick.nd
  refine good_fnT T.f__law_pick sc__law_pick rfl rfl fun f cdv A outer s H E hr => ?_
  have hu := hr.units
  exact (sxs_one (sx_ret (ei_ix (ei_var 2) (ei_callT (i := 1) (ok__law_draw T) (hr.mono (by decide)) rfl (ei_var 0) rfl (by first | exact Or.inl rfl | exact Or.inr (Or.inl rfl) | exact Or.inr (Or.inr rfl)) (ea_i (ei_len T.m_len rfl (ea_i (ei_var 2) ea_nil)) ea_nil)) (fun _ _ => rfl))))
theorem sc__law_rule : FnScope ["script", "town", "word"] ["script", "town"] (defScope (topS 34)) := ⟨rfl, rfl, rfl, by decide +kernel, rfl, by decide +kernel, by decide +kernel⟩
theorem ok__law_rule (T : Txt K mg CD) : Good P w K mg base 3 "_law_rule" ["script", "town"] (SpT ⟨K, w⟩ F__law_rule) := by
  have nd := sc__law_rule.nd
  refine good_fnT T.f__law_rule sc__law_rule rfl rfl fun f cdv A outer s H E hr => ?_
  have hu := hr.units
  exact (sxs_cons (sx_set (i := 2) nd rfl (by first | exact Or.inl rfl | exact Or.inr rfl) (ei_callT (i := 1) (ok__law_pick T) (hr.mono (by decide)) rfl (ei_var 0) rfl (by first | exact Or.inl rfl | exact Or.inr (Or.inl rfl) | exact Or.inr (Or.inr rfl)) (ea_i (ei_new (en_lst (ea_i ei_str (ea_i ei_str (ea_i ei_str (ea_i ei_str (ea_i ei_str (ea_i ei_str ea_nil)))))))) ea_nil)))
    (sxs_one (sx_ret (ei_tup (ea_i (ei_var 2) (ea_i (ei_if (et_cmp (op_inR hu) od_in (ei_var 2) (ei_tup (ea_i ei_str (ea_i ei_str ea_nil))) rfl) (ei_add ei_int (ei_callT (i := 1) (ok__law_draw T) (hr.mono (by decide)) rfl (ei_var 0) rfl (by first | exact Or.inl rfl | exact Or.inr (Or.inl rfl) | exact Or.inr (Or.inr rfl)) (ea_i ei_int ea_nil))) (ei_callT (i := 1) (ok__law_draw T) (hr.mono (by decide)) rfl (ei_var 0) rfl (by first | exact Or.inl rfl | exact Or.inr (Or.inl rfl) | exact Or.inr (Or.inr rfl)) (ea_i ei_int ea_nil))) ea_nil))))))
theorem sc__law_jobs : FnScope ["script", "town", "most", "heavy", "row", "turn", "job"] ["script", "town", "most"] (defScope (topS 35)) := ⟨rfl, rfl, rfl, by decide +kernel, rfl, by decide +kernel, by decide +kernel⟩
theorem ok__law_jobs (T : Txt K mg CD) : Good P w K mg base 2 "_law_jobs" ["script", "town", "most"] (SpT ⟨K, w⟩ F__law_jobs) := by
  have nd := sc__law_jobs.nd
  refine good_fnT T.f__law_jobs sc__law_jobs rfl rfl fun f cdv A outer s H E hr => ?_
  have hu := hr.units
  exact (sxs_cons (sx_par2 (i := 3) (j := 4) rfl nd rfl rfl (by decide) rfl rfl (ea_i (ei_callT (i := 1) (ok__law_draw T) (hr.mono (by decide)) rfl (ei_var 0) rfl (by first | exact Or.inl rfl | exact Or.inr (Or.inl rfl) | exact Or.inr (Or.inr rfl)) (ea_i ei_int ea_nil)) (ea_n (en_lst ea_nil) ea_nil)) (by rfl))
    (sxs_cons (sx_for PassesOwn.never rfl (el_range T.m_range rfl (ea_i (ei_callT (i := 1) (ok__law_draw T) (hr.mono (by decide)) rfl (ei_var 0) rfl (by first | exact Or.inl rfl | exact Or.inr (Or.inl rfl) | exact Or.inr (Or.inr rfl)) (ea_i (ei_add (ei_var 2) ei_int) ea_nil)) ea_nil)) (eg_name (i := 5) nd rfl (by first | exact Or.inl rfl | exact Or.inr rfl)) (sxs_cons (sx_set (i := 6) nd rfl (by first | exact Or.inl rfl | exact Or.inr rfl) (ei_callT (i := 1) (ok__law_draw T) (hr.mono (by decide)) rfl (ei_var 0) rfl (by first | exact Or.inl rfl | exact Or.inr (Or.inl rfl) | exact Or.inr (Or.inr rfl)) (ea_i ei_int ea_nil)))
    (sxs_one (sx_app (i := 4) rfl (by first | exact Or.inl rfl | exact Or.inr (Or.inl rfl) | exact Or.inr (Or.inr rfl)) (ei_if (et_w (ew_or (et_cmp (op_ltR hu) od_cmp (ei_var 3) ei_int rfl) (ew_or1 (et_cmp (op_eqR hu) od_eq (ei_callT (i := 1) (ok__law_draw T) (hr.mono (by decide)) rfl (ei_var 0) rfl (by first | exact Or.inl rfl | exact Or.inr (Or.inl rfl) | exact Or.inr (Or.inr rfl)) (ea_i ei_int ea_nil)) ei_int rfl)))) (ei_var 6) ei_int)))))
    (sxs_one (sx_ret (ei_var 4)))))
theorem ok_notes_ofN (T : Txt K mg CD) : Good P w K mg base 5 "notes_of" ["room", "rule", "jobs"] (SpN ⟨K, w⟩ F_notes_ofN) := by
  have nd := sc_notes_of.nd
  refine good_fnN T.f_notes_of sc_notes_of rfl rfl fun f cdv A outer s H E hr => ?_
  have hu := hr.units
  exact rn_ret (en_lc (ol := [("place", 3), ("note", 4), ("counts", 5)]) rfl nd (el_data (ei_call (ok_run T) (hr.mono (by decide)) rfl (ea_i (ei_var 0) (ea_i (ei_var 1) (ea_i (ei_var 2) ea_nil))))) (blkOk_by (N := ["room", "rule", "jobs", "place", "note", "counts"]) (sc := defScope (topS 26)) (by decide +kernel)) (by decide) (fun _ _ _ _ _ => (eg_tup rfl (egs_cons (eg_name (i := 3) nd rfl (by first | exact Or.inl rfl | exact Or.inr rfl)) (egs_cons (eg_name (i := 4) nd rfl (by first | exact Or.inl rfl | exact Or.inr rfl)) (egs_cons (eg_name (i := 5) nd rfl (by first | exact Or.inl rfl | exact Or.inr rfl)) egs_nil))) (gsCons_len (gsCons_len (gsCons_len (fun _ _ _ h => gsNil_len h)))))) (fun _ _ _ _ _ => (ei_var 4)))
theorem sc_Desk_notes : FnScope ["self"] ["self"] (defScope (inClass (topS 29) 3)) := ⟨rfl, rfl, rfl, by decide +kernel, rfl, by decide +kernel, by decide +kernel⟩
theorem ok_Desk_notes (T : Txt K mg CD) : GoodM P w K mg base 6 CD "notes" ["self"] (SpQN ⟨K, w⟩ "Desk" G_Desk_notes) := by
  refine good_qN T.m_Desk_notes sc_Desk_notes fun f cdv A outer s H E hr => ?_
  exact rf_retN (f_callN (ok_notes_ofN T) (hr.mono (by decide)) rfl (f_cons (f_fld T.k_Desk T.dk_Desk.room) (f_cons (f_fld T.k_Desk T.dk_Desk.rule) (f_cons (f_fld T.k_Desk T.dk_Desk.past) f_nil))))
theorem sc_Desk_tick : FnScope ["self", "job"] ["self", "job"] (defScope (inClass (topS 29) 1)) := ⟨rfl, rfl, rfl, by decide +kernel, rfl, by decide +kernel, by decide +kernel⟩
theorem ok_Desk_tick (T : Txt K mg CD) : GoodM P w K mg base 7 CD "tick" ["self", "job"] (SpM ⟨K, w⟩ "Desk" G_Desk_tick) := by
  refine good_m T.m_Desk_tick sc_Desk_tick (fun fs ds o h => ?_) fun f cdv A outer s H E hr => ?_
  · unfold G_Desk_tick dkTick at h
    split at h
    · rfl
    · cases h
  · have hu := hr.units
    exact tick_body T.dk_Desk hu (et_not (et_val (ei_call (ok_is_int T) (hr.mono (by decide)) rfl (ea_i (ei_var 1) (ea_i ei_int (ea_i ei_int ea_nil)))))) T.m_len rfl rfl T.c_LONGEST (ok_Desk_notes T) (hr.mono (by decide)) rfl (by first | exact Or.inl rfl | exact Or.inr (Or.inl rfl) | exact Or.inr (Or.inr rfl)) (by first | exact Or.inl rfl | exact Or.inr (Or.inl rfl) | exact Or.inr (Or.inr rfl))
theorem sc_Desk_place : FnScope ["self", "found"] ["self"] (defScope (inClass (topS 29) 4)) := ⟨rfl, rfl, rfl, by decide +kernel, rfl, by decide +kernel, by decide +kernel⟩
theorem ok_Desk_place (T : Txt K mg CD) : GoodM P w K mg base 4 CD "place" ["self"] (SpQ ⟨K, w⟩ "Desk" G_Desk_place) := by
  have nd := sc_Desk_place.nd
  refine good_q2 T.m_Desk_place sc_Desk_place fun f cdv A outer s H E hr => ?_
  have hu := hr.units
  exact rf_set nd rfl (by first | exact Or.inl rfl | exact Or.inr rfl) (f_call (ok_run T) (hr.mono (by decide)) rfl (f_cons (f_fld T.k_Desk T.dk_Desk.room) (f_cons (f_fld T.k_Desk T.dk_Desk.rule) (f_cons (f_fld T.k_Desk T.dk_Desk.past) f_nil)))) (sxs_one (sx_ret (ei_if (et_cmp (op_neR hu) od_ne (ei_var 1) (ei_new (en_lst ea_nil)) rfl) (ei_ix (ei_ix (ei_var 1) (ei_neg ei_int) (fun _ _ => rfl)) ei_int (fun _ _ => rfl)) (ei_call0 (ok_begun T) (hr.mono (by decide)) rfl))))
theorem sc_Desk_lines : FnScope ["self"] ["self"] (defScope (inClass (topS 29) 6)) := ⟨rfl, rfl, rfl, by decide +kernel, rfl, by decide +kernel, by decide +kernel⟩
theorem ok_Desk_lines (T : Txt K mg CD) : GoodM P w K mg base 5 CD "lines" ["self"] (SpQ ⟨K, w⟩ "Desk" G_Desk_lines) := by
  refine good_q T.m_Desk_lines sc_Desk_lines fun f cdv A outer s H E hr => ?_
  exact rf_ret (f_cut (f_meth T.k_Desk (ok_Desk_place T) (hr.mono (by decide))))
theorem sc_Desk___init__ : FnScope ["self", "room", "rule"] ["self", "room", "rule"] (defScope (inClass (topS 29) 0)) := ⟨rfl, rfl, rfl, by decide +kernel, rfl, by decide +kernel, by decide +kernel⟩
theorem ok_Desk___init__ (T : Txt K mg CD) : GoodM P w K mg base 5 CD "__init__" ["self", "room", "rule"] (SpM ⟨K, w⟩ "Desk" G_Desk___init__) := by
  refine good_m T.m_Desk___init__ sc_Desk___init__ (fun fs ds o h => ?_) fun f cdv A outer s H E hr => ?_
  · unfold G_Desk___init__ dkInit at h
    split at h
    · rfl
    · cases h
  · exact init_body T.dk_Desk (ok_need_both T) (hr.mono (by decide)) rfl rfl (by first | exact Or.inl rfl | exact Or.inr (Or.inl rfl) | exact Or.inr (Or.inr rfl)) (by first | exact Or.inl rfl | exact Or.inr (Or.inl rfl) | exact Or.inr (Or.inr rfl)) (by first | exact Or.inl rfl | exact Or.inr (Or.inl rfl) | exact Or.inr (Or.inr rfl))
theorem sc_Desk___len__ : FnScope ["self"] ["self"] (defScope (inClass (topS 29) 11)) := ⟨rfl, rfl, rfl, by decide +kernel, rfl, by decide +kernel, by decide +kernel⟩
theorem ok_Desk___len__ (T : Txt K mg CD) : GoodM P w K mg base 1 CD "__len__" ["self"] (SpQ ⟨K, w⟩ "Desk" G_Desk___len__) := by
  refine good_q T.m_Desk___len__ sc_Desk___len__ fun f cdv A outer s H E hr => ?_
  exact rf_ret (f_len T.m_len rfl (f_fld T.k_Desk T.dk_Desk.past))
theorem sc_law : FnScope ["script", "town", "room", "rule", "jobs", "desk", "joined", "job", "note", "hand", "line", "all_jobs", "tail"] ["script"] (defScope (topS 36)) := ⟨rfl, rfl, rfl, by decide +kernel, rfl, by decide +kernel, by decide +kernel⟩
theorem ok_law (T : Txt K mg CD) {f : Addr} {fd : FuncData} (F : Fun K "law" "law" (topS 36) f fd) : FnOk P w K mg base CX0 8 f fd ["script"] (SpP ⟨K, w⟩ F_law) := by
  have nd := sc_law.nd
  refine fnok_of F sc_law rfl rfl fun f cdv A outer s H E hr => ?_
  have hu := hr.units
  exact (sxs_cons (sx_setN (i := 1) nd rfl (by first | exact Or.inl rfl | exact Or.inr rfl) (en_lst (ea_i ei_int (ea_i ei_int ea_nil))))
    (sxs_cons (sx_par2 (i := 2) (j := 3) rfl nd rfl rfl (by decide) rfl rfl (ea_i (ei_callT (i := 1) (ok__law_room T) (hr.mono (by decide)) rfl (ei_var 0) rfl (by first | exact Or.inl rfl | exact Or.inr (Or.inl rfl) | exact Or.inr (Or.inr rfl)) ea_nil) (ea_i (ei_callT (i := 1) (ok__law_rule T) (hr.mono (by decide)) rfl (ei_var 0) rfl (by first | exact Or.inl rfl | exact Or.inr (Or.inl rfl) | exact Or.inr (Or.inr rfl)) ea_nil) ea_nil)) (by rfl))
    (sxs_cons (sx_par2 (i := 4) (j := 5) rfl nd rfl rfl (by decide) rfl rfl (ea_i (ei_callT (i := 1) (ok__law_jobs T) (hr.mono (by decide)) rfl (ei_var 0) rfl (by first | exact Or.inl rfl | exact Or.inr (Or.inl rfl) | exact Or.inr (Or.inr rfl)) (ea_i ei_int ea_nil)) (ea_b (eb_make T.k_Desk T.mk_Desk T.kc_Desk T.mg_Desk (ok_Desk___init__ T) (hr.mono (by decide)) rfl (ea_i (ei_var 2) (ea_i (ei_var 3) ea_nil))) ea_nil)) (by rfl))
    (sxs_cons (sx_nil2 (i := 6) nd rfl (by first | exact Or.inl rfl | exact Or.inr rfl))
    (sxs_cons (sx_for PassesOwn.never rfl (el_zip T.m_zip rfl (ea_i (ei_var 4) (ea_i (ei_call (ok_notes_along T) (hr.mono (by decide)) rfl (ea_i (ei_var 2) (ea_i (ei_var 3) (ea_i (ei_var 4) ea_nil)))) ea_nil))) (eg_tup rfl (egs_cons (eg_name (i := 7) nd rfl (by first | exact Or.inl rfl | exact Or.inr rfl)) (egs_cons (eg_name (i := 8) nd rfl (by first | exact Or.inl rfl | exact Or.inr rfl)) egs_nil)) (gsCons_len (gsCons_len (fun _ _ _ h => gsNil_len h)))) (sxs_cons (sx_expr (ei_methM (i := 5) T.k_Desk (ok_Desk_tick T) (hr.mono (by decide)) rfl (ea_i (ei_var 7) ea_nil)))
    (sxs_cons (sx_if (et_w (ew_and (et_cmp op_isnA od_isn (ei_var 8) ei_non rfl) (ew_and1 (et_not (et_val (ei_ix (ei_var 8) ei_int (fun _ _ => rfl))))))) (sxs_one (sx_appL (i := 6) (eq_ix (eq_var 8) eq_int (fun _ _ => rfl)) (fun _ _ => rfl) (eq_var 7))) sxs_nil)
    (sxs_one (sx_for PassesOwn.never rfl (el_data (ei_tup (ea_i ei_int (ea_i ei_int ea_nil)))) (eg_name (i := 9) nd rfl (by first | exact Or.inl rfl | exact Or.inr rfl)) (sxs_lend (i := 6) (j := 11) (l := 10) (m := 9) (by decide) (by decide) (by decide) rfl nd rfl (by first | exact Or.inl rfl | exact Or.inr (Or.inl rfl) | exact Or.inr (Or.inr rfl)) rfl rfl rfl (by first | exact Or.inl rfl | exact Or.inr (Or.inl rfl) | exact Or.inr (Or.inr rfl)) rfl rfl (ei_ix (ei_methB (i := 5) T.k_Desk (ok_Desk_lines T) (hr.mono (by decide)) rfl) (ei_var 9) (fun _ _ => rfl)) (k2_k (sxk_if (et_w (ew_or (et_cmp (op_gtR hu) od_cmp (ei_len T.m_len rfl (ea_i (ei_var 10) ea_nil)) (ei_lenV (i := 11) T.m_len rfl) rfl) (ew_or1 (et_cmp (op_inR hu) od_in ei_int (ei_var 10) rfl)))) (sxsk_ret ei_bl) sxsk_nil) (k2_new (n := 12) (by decide) (by decide) nd rfl (by first | exact Or.inl rfl | exact Or.inr rfl) (en_slV (j := 11) (eo_at (ei_sub (ei_lenV (i := 11) T.m_len rfl) (ei_len T.m_len rfl (ea_i (ei_var 10) ea_nil))))) (k2_k (sxk_if (et_w (ew_or (et_cmp (op_neR hu) od_ne (ei_new (en_list T.m_list rfl (ea_i (ei_sl (ei_var 10) (eo_at ei_int) eo_no) ea_nil))) (ei_sl (ei_var 12) (eo_at ei_int) eo_no) rfl) (ew_or1 (et_w (ew_and (et_cmp (op_neR hu) od_ne (ei_var 10) (ei_tup ea_nil) rfl) (ew_and1 (et_cmp (op_gtR hu) od_cmp (ei_ix (ei_var 10) ei_int (fun _ _ => rfl)) (ei_ix (ei_var 12) ei_int (fun _ _ => rfl)) rfl))))))) (sxsk_ret ei_bl) sxsk_nil) k2_nil))) (by rfl)))))))
    (sxs_one (sx_ret (ei_cmp (op_eqR hu) od_eq (ei_lenB (i := 5) T.k_Desk (ok_Desk___len__ T) (hr.mono (by decide)) T.m_len rfl rfl) (ei_len T.m_len rfl (ea_i (ei_var 4) ea_nil)) rfl))))))))
end
/-! ### sorting -/
theorem leP_total : PySem.W.TotalLe leP := by
  unfold leP PySem.W.dataLe
  exact PySem.W.sortLe_total _ _ _
theorem sort_is {ps qs : List (Str × Int)} (hp : qs.Perm ps) (hs : qs.Pairwise (fun a b => leP a b = true)) (ha : ∀ a b, a ∈ qs → b ∈ qs → leP a b = true → leP b a = true → a = b) : ps.mergeSort leP = qs := by
  have h1 := List.pairwise_mergeSort (le := leP) leP_total.trans (fun a b => by rcases leP_total.total a b with h | h <;> simp [h]) ps
  have h2 := List.mergeSort_perm ps leP
  refine List.Perm.eq_of_pairwise (le := fun a b => leP a b = true) (fun a b h3 h4 => ha a b ?_ h4) h1 hs (h2.trans hp.symm)
  exact hp.symm.subset (h2.subset h3)
def fam : List Ru := [(.fewer, 0), (.fewer, 1), (.fill, 2), (.fill, 3), (.fill, 4), (.least, 0), (.least, 1), (.sizes, 0), (.sizes, 1), (.stay, 2), (.stay, 3), (.stay, 4), (.turns, 0), (.turns, 1)]
def prR (r : Ru) : Str × Int := (wS r.1, r.2)
theorem encP_R (r : Ru) : encP (prR r) = eRu r := rfl
theorem fam_ord : ((fam.map prR).all fun a => (fam.map prR).all fun b => !(leP a b && leP b a) || decide (a = b)) = true := by decide +kernel
theorem fam_anti : ∀ a b, a ∈ fam.map prR → b ∈ fam.map prR → leP a b = true → leP b a = true → a = b := by
  intro a b ha hb h1 h2
  have := List.all_eq_true.mp (List.all_eq_true.mp fam_ord a ha) b hb
  simpa [h1, h2] using this
theorem fam_pw : (fam.map prR).Pairwise (fun a b => leP a b = true) := by decide +kernel
theorem fam_ok {r : Ru} (h : r ∈ fam) : RuOk r := by
  simp only [fam, List.mem_cons, List.not_mem_nil, or_false] at h
  rcases h with rfl | rfl | rfl | rfl | rfl | rfl | rfl | rfl | rfl | rfl | rfl | rfl | rfl | rfl <;> first | exact .inl rfl | exact .inr rfl | exact ⟨by decide, by decide⟩
/-- sorted of a part of the family, as it stands -/
theorem sort_part {ps : List Ru} (h : ps.Sublist fam) : lSorted [.list (ps.map eRu)] = some (ps.map eRu) := by
  have e : ps.map eRu = (ps.map prR).map encP := by rw [List.map_map]; rfl
  have hl : (ps.map prR).length ≤ 1000 := by
    have := h.length_le
    simp [fam] at this ⊢; omega
  unfold lSorted
  rw [e]
  simp only [prOf_map, hl, if_true]
  rw [List.mergeSort_of_pairwise]
  exact fam_pw.sublist (h.map prR)
/-- sorted of all the family, in any order -/
theorem sort_fam {ps : List (Str × Int)} (h : (fam.map prR).Perm ps) : lSorted [.list (ps.map encP)] = some (fam.map eRu) := by
  have hl : ps.length ≤ 1000 := by rw [← h.length_eq]; simp [fam]
  unfold lSorted
  simp only [prOf_map, hl, if_true, sort_is h fam_pw fam_anti]
  rw [List.map_map]
  rfl
def fam0 : List (Str × Int) := [("fewer", 0), ("fewer", 1), ("least", 0), ("least", 1), ("sizes", 0), ("sizes", 1), ("turns", 0), ("turns", 1), ("fill", 2), ("fill", 3), ("fill", 4), ("stay", 2), ("stay", 3), ("stay", 4)]
theorem fam0_perm : (fam.map prR).Perm fam0 := by decide +kernel
theorem family_ok : F_family [] = some (.list (fam.map eRu)) := by
  have h := sort_fam fam0_perm
  have e : (fam0.map encP : List Dt) = [.tuple [.str "fewer", .int 0], .tuple [.str "fewer", .int 1], .tuple [.str "least", .int 0], .tuple [.str "least", .int 1], .tuple [.str "sizes", .int 0], .tuple [.str "sizes", .int 1], .tuple [.str "turns", .int 0], .tuple [.str "turns", .int 1], .tuple [.str "fill", .int 2], .tuple [.str "fill", .int 3], .tuple [.str "fill", .int 4], .tuple [.str "stay", .int 2], .tuple [.str "stay", .int 3], .tuple [.str "stay", .int 4]] := rfl
  rw [e] at h
  have e1 : nLc2 [1, 2] [2] (itD C_HANDED) (gNm 1) (itD (eTup (aI (eC (.int 0)) (aI (eC (.int 1)) aNil)))) (gNm 2) (eTup (aI (eVar 1) (aI (eVar 2) aNil))) [none, none, none, none] = some ([.tuple [.str "fewer", .int 0], .tuple [.str "fewer", .int 1], .tuple [.str "least", .int 0], .tuple [.str "least", .int 1], .tuple [.str "sizes", .int 0], .tuple [.str "sizes", .int 1], .tuple [.str "turns", .int 0], .tuple [.str "turns", .int 1]], [none, none, none, none]) := by kernel_rfl
  have e2 : ∀ l : List Dt, nLc2 [1, 3] [3] (itD (eTup (aI (eC (.str "fill")) (aI (eC (.str "stay")) aNil)))) (gNm 1) (itD (eTup (aI (eC (.int 2)) (aI (eC (.int 3)) (aI (eC (.int 4)) aNil))))) (gNm 3) (eTup (aI (eVar 1) (aI (eVar 3) aNil))) [some (.ow false l), none, none, none] = some ([.tuple [.str "fill", .int 2], .tuple [.str "fill", .int 3], .tuple [.str "fill", .int 4], .tuple [.str "stay", .int 2], .tuple [.str "stay", .int 3], .tuple [.str "stay", .int 4]], [some (.ow false l), none, none, none]) := fun l => by kernel_rfl
  simp only [C_HANDED] at e1
  unfold F_family B_family
  wp_walk using e1, e2, h
/-! ### equality of notes and rules -/
theorem eqv_int (a b : Int) : PyData.eqv (.int a) (.int b) = decide (a = b) := by
  simp only [PyData.eqv]
  rfl
theorem eqv_no (a b : No) : PyData.eqv (eNo a) (eNo b) = decide (a = b) := by
  rcases a with _ | ⟨h, b1⟩ <;> rcases b with _ | ⟨h', b2⟩
  · rfl
  · rfl
  · rfl
  · show (PyData.eqv (.int h) (.int h') && (PyData.eqv (.bool b1) (.bool b2) && true)) = _
    rw [eqv_int]
    have : PyData.eqv (.bool b1) (.bool b2) = decide (b1 = b2) := by cases b1 <;> cases b2 <;> rfl
    rw [this]
    by_cases h1 : h = h' <;> by_cases h2 : b1 = b2 <;> simp [h1, h2]
theorem eqv_list {α : Type} [DecidableEq α] (f : α → Dt) (hf : ∀ a b, PyData.eqv (f a) (f b) = decide (a = b)) : ∀ xs ys : List α, PyData.eqv (.list (xs.map f)) (.list (ys.map f)) = decide (xs = ys)
  | [], [] => rfl
  | [], y :: ys => rfl
  | x :: xs, [] => rfl
  | x :: xs, y :: ys => by
    show (PyData.eqv (f x) (f y) && PyData.eqvAll (xs.map f) (ys.map f)) = _
    have ih := eqv_list f hf xs ys
    rw [show PyData.eqv (.list (xs.map f)) (.list (ys.map f)) = PyData.eqvAll (xs.map f) (ys.map f) from rfl] at ih
    rw [ih, hf]
    by_cases h1 : x = y <;> by_cases h2 : xs = ys <;> simp [h1, h2]
abbrev nts (ns : List No) : Dt := .list (ns.map eNo)
theorem okD_nts (ns : List No) : okD 40 (nts ns) = true := okD_list (okL_map _ _ fun n _ => okD_no n)
theorem dEq_nts (a b : List No) : dEq (nts a) (nts b) = some (.bool (decide (a = b))) := by rw [dEq_ok (okD_nts a) (okD_nts b), eqv_list eNo eqv_no]
theorem dNe_nts (a b : List No) : dNe (nts a) (nts b) = some (.bool (!decide (a = b))) := by rw [dNe_ok (okD_nts a) (okD_nts b), eqv_list eNo eqv_no]
theorem wS_inj {v w : W6} (h : wS v = wS w) : v = w := by
  have := weq v w
  rw [h] at this
  simp at this
  exact this
theorem eqv_ru (a b : Ru) : PyData.eqv (eRu a) (eRu b) = decide (a = b) := by
  show (PyData.eqv (.str (wS a.1)) (.str (wS b.1)) && (PyData.eqv (.int a.2) (.int b.2) && true)) = _
  rw [str_eqv, weq, eqv_int, Bool.and_true]
  obtain ⟨w, n⟩ := a
  obtain ⟨w', n'⟩ := b
  by_cases h1 : w = w' <;> by_cases h2 : n = n' <;> simp [h1, h2]
theorem okD_ru {k : Nat} (r : Ru) : okD (k + 1) (eRu r) = true := rfl
abbrev rus (rs : List Ru) : Dt := .list (rs.map eRu)
theorem okD_rus (rs : List Ru) : okD 40 (rus rs) = true := okD_list (okL_map _ _ fun n _ => okD_ru n)
theorem dEq_rus (a b : List Ru) : dEq (rus a) (rus b) = some (.bool (decide (a = b))) := by rw [dEq_ok (okD_rus a) (okD_rus b), eqv_list eRu eqv_ru]
theorem dNe_rus (a b : List Ru) : dNe (rus a) (rus b) = some (.bool (!decide (a = b))) := by rw [dNe_ok (okD_rus a) (okD_rus b), eqv_list eRu eqv_ru]

theorem dIn_ru (r : Ru) (rs : List Ru) : dIn (eRu r) (rus rs) = some (.bool (decide (r ∈ rs))) := by
  show (if (okD 40 (eRu r) && okL 40 (rs.map eRu)) = true then some (PyData.bool ((rs.map eRu).any fun y => y.eqv (eRu r))) else none) = _
  rw [show okD 40 (eRu r) = true from rfl, show okL 40 (rs.map eRu) = true from okL_map _ _ fun n _ => okD_ru n]
  simp only [Bool.and_self, if_true]
  congr 2
  rw [List.any_map]
  induction rs with
  | nil => rfl
  | cons x xs ih =>
    rw [List.any_cons, ih]
    simp only [Function.comp, eqv_ru, List.mem_cons]
    by_cases h : x = r
    · subst h; simp
    · have h' : ¬ r = x := fun z => h z.symm
      simp [h, h']
theorem dNi_ru (r : Ru) (rs : List Ru) : dNi (eRu r) (rus rs) = some (.bool (!decide (r ∈ rs))) := by
  have h : (if (okD 40 (eRu r) && okL 40 (rs.map eRu)) = true then some (PyData.bool ((rs.map eRu).any fun y => y.eqv (eRu r))) else none) = _ := dIn_ru r rs
  show (if (okD 40 (eRu r) && okL 40 (rs.map eRu)) = true then some (PyData.bool (!(rs.map eRu).any fun y => y.eqv (eRu r))) else none) = _
  rw [show okD 40 (eRu r) = true from rfl, show okL 40 (rs.map eRu) = true from okL_map _ _ fun n _ => okD_ru n] at h ⊢
  simp only [Bool.and_self, if_true, Option.some.injEq, PyData.bool.injEq] at h ⊢
  rw [h]
/-! ### notes -/
def NoOk (n : No) : Prop := ∀ h b, n = some (h, b) → HandOk h
theorem is_note_ok {n : No} (h : NoOk n) : F_is_note [eNo n] = some (.bool true) := by
  unfold F_is_note B_is_note
  rcases n with _ | ⟨h', b⟩
  · wp_walk using dIs_eNo, Option.isNone
  · have hh := h h' b rfl
    have e : F_is_int [.int h', .int 0, .int 1] = some (.bool true) := by
      rw [is_int_int]
      congr 2
      exact decide_eq_true (by rcases hh with rfl | rfl <;> omega)
    simp only [eNo]
    have e0 : dIs (.tuple [.int h', .bool b]) .none = some (.bool false) := rfl
    have h22 : (((2 : Nat) : Int) = 2) = True := eq_true rfl
    wp_walk using e0, dLen_tup, e, h22
theorem dAll_true {α : Type} (xs : List α) : (xs.all fun _ => true) = true := by simp
theorem need_notes_ok {ns : List No} (h : ∀ n ∈ ns, NoOk n) (hl : ns.length ≤ 40) : F_need_notes [nts ns] = some .none := by
  have key := lcD_mp (vs := [1]) (g := gNm 1) (f := eCall F_is_note (aI (eVar 1) aNil)) (env := [some (.im (nts ns)), none]) eNo (fun _ => PyData.bool true) ns fun n hn => ⟨_, rfl, rfl, by wp_walk using is_note_ok (h n hn)⟩
  have h1 : ((40 : Int) < (ns.length : Int)) = False := eq_false (by omega)
  have h2 : (ns.length < 10000000) = True := eq_true (by omega)
  unfold F_need_notes B_need_notes
  wp_walk using dLen_list, List.length_map, h1, h2, key, dAll_bools, dAll_true
theorem noteM_ok {room : Int} {r : Ru} {p : Pl} {j : Int} (hr : RuOk r) (hp : LastOk p.2.2) : NoOk (noteM room r p j) := by
  intro h b e
  unfold noteM at e
  split at e
  · simp only [Option.some.injEq, Prod.mk.injEq] at e
    rw [← e.1]
    exact namedM_ok hr hp
  · cases e
def notesM (room : Int) (r : Ru) (js : List Int) : List No := (runM room r p0 js).map fun t => t.2.1
theorem notesM_length (room : Int) (r : Ru) (js : List Int) : (notesM room r js).length = js.length := by unfold notesM; rw [List.length_map, runM_length]
theorem notesM_take (room : Int) (r : Ru) (js : List Int) (n : Nat) : notesM room r (js.take n) = (notesM room r js).take n := by unfold notesM; rw [runM_take, List.map_take]
theorem run_notes {room : Int} {r : Ru} (h3 : 0 ≤ room) (hr : RuOk r) : ∀ {js : List Int} {p : Pl}, JobsOk js → PlOk room p → ∀ t ∈ runM room r p js, NoOk t.2.1
  | [], _, _, _, t, ht => by cases ht
  | j :: js, p, hj, hp, t, ht => by
    unfold runM at ht
    rcases List.mem_cons.mp ht with rfl | ht
    · exact noteM_ok hr hp.la
    · exact run_notes h3 hr (fun x hx => hj x (List.mem_cons_of_mem _ hx)) (placeM_ok h3 hr hp (hj j List.mem_cons_self).1) t ht
theorem notesM_ok {room : Int} {r : Ru} {js : List Int} (h3 : 0 ≤ room) (hr : RuOk r) (hj : JobsOk js) : ∀ n ∈ notesM room r js, NoOk n := by
  intro n hn
  obtain ⟨t, ht, rfl⟩ := List.mem_map.mp hn
  exact run_notes h3 hr hj (p0_ok h3) t ht
theorem notes_of_nts {room : Int} {r : Ru} {js : List Int} (h3 : 0 ≤ room) (h5 : room ≤ 5) (hr : RuOk r) (hj : JobsOk js) (hl : js.length ≤ 1000) : F_notes_of [.int room, eRu r, .list (js.map PyData.int)] = some (nts (notesM room r js)) := by
  rw [notes_of_ok h3 h5 hr hj hl]
  unfold nts notesM
  rw [List.map_map]
  rfl
theorem notes_along_nts {room : Int} {r : Ru} {js : List Int} (h3 : 3 ≤ room) (h5 : room ≤ 5) (hr : RuOk r) (hj : JobsOk js) (hl : js.length ≤ 40) : F_notes_along [.int room, eRu r, .list (js.map PyData.int)] = some (nts (notesM room r js)) := by
  rw [notes_along_ok h3 h5 hr hj hl]
  unfold nts notesM
  rw [List.map_map]
  rfl
/-! ### could_be -/
def beM (room : Int) (js : List Int) (ns : List No) : List Ru := fam.filter fun r => decide (notesM room r js = ns)
theorem need_room_ok {room : Int} (h3 : 3 ≤ room) (h5 : room ≤ 5) : F_need_room [.int room] = some .none := by
  have e : decide (3 ≤ room ∧ room ≤ 5) = true := decide_eq_true ⟨h3, h5⟩
  unfold F_need_room B_need_room
  wp_walk using is_room_int, e
theorem need_jobs_ok {js : List Int} (hj : JobsOk js) (hl : js.length ≤ 40) : F_need_jobs [.list (js.map PyData.int)] = some .none := by
  unfold F_need_jobs B_need_jobs
  wp_walk using are_jobs_ok hj hl
theorem could_be_ok {room : Int} {js : List Int} {ns : List No} (h3 : 3 ≤ room) (h5 : room ≤ 5) (hj : JobsOk js) (hl : js.length ≤ 40) (hn : ∀ n ∈ ns, NoOk n) (hnl : ns.length ≤ 40) : F_could_be [.int room, .list (js.map PyData.int), nts ns] = some (rus (beM room js ns)) := by
  have key := lcD_filt (vs := [3]) (g := gNm 3) (c := tVal (eOp dEq (eCall F_notes_of (aI (eVar 0) (aI (eVar 3) (aI (eVar 1) aNil)))) (eVar 2))) (f := eVar 3) (env := [some (.im (.int room)), some (.im (.list (js.map PyData.int))), some (.im (nts ns)), none]) eRu eRu (fun r => decide (notesM room r js = ns)) fam fun r hr => ⟨_, rfl, rfl, (by wp_walk using notes_of_nts (by omega : 0 ≤ room) h5 (fam_ok hr) hj (by omega : js.length ≤ 1000), dEq_nts), fun _ => rfl⟩
  have hf : ((fam.map eRu).length < 10000000) = True := eq_true (by decide)
  unfold F_could_be B_could_be
  wp_walk using need_room_ok h3 h5, need_jobs_ok hj hl, need_notes_ok hn hnl, family_ok, hf, key
  rfl
/-! ### places as keys -/
def kL (l : List Int) : NestedKey := .tup (l.map NestedKey.num)
def kO : Option Int → NestedKey
  | none => .none
  | some i => .num i
def kPl (p : Pl) : NestedKey := .tup [kL p.1, kL p.2.1, kO p.2.2]
theorem ksOf_ints : ∀ l : List Int, ksOf (l.map PyData.int) = some (l.map NestedKey.num)
  | [] => rfl
  | x :: r => by
    rw [List.map_cons]
    show pAll (kOf (.int x)) (ksOf (r.map PyData.int)) = _
    rw [ksOf_ints r]
    rfl
theorem kOf_L (l : List Int) : kOf (eL l) = some (kL l) := by
  show pTup (ksOf (l.map PyData.int)) = _
  rw [ksOf_ints]; rfl
theorem kOf_O (o : Option Int) : kOf (eO o) = some (kO o) := by cases o <;> rfl
theorem depth_nums : ∀ l : List Int, NestedKey.depthAll (l.map NestedKey.num) = 0
  | [] => rfl
  | x :: r => by
    show max 0 (NestedKey.depthAll (r.map NestedKey.num)) = 0
    rw [depth_nums r]; rfl
theorem key_Pl (p : Pl) : keyOf (ePl p) = some (kPl p) := by
  have h : kOf (.tuple [eL p.1, eL p.2.1, eO p.2.2]) = some (kPl p) := by
    show pTup (pAll (kOf (eL p.1)) (pAll (kOf (eL p.2.1)) (pAll (kOf (eO p.2.2)) (some [])))) = _
    rw [kOf_L, kOf_L, kOf_O]; rfl
  have hd : (kPl p).depth ≤ 8 := by
    show max (NestedKey.depthAll (p.1.map NestedKey.num) + 1) (max (NestedKey.depthAll (p.2.1.map NestedKey.num) + 1) (max (kO p.2.2).depth 0)) + 1 ≤ 8
    rw [depth_nums, depth_nums]
    have : (kO p.2.2).depth = 0 := by cases p.2.2 <;> rfl
    rw [this]; decide
  unfold ePl keyOf
  simp only [h, hd, if_true]
theorem nums_inj : ∀ {a b : List Int}, a.map NestedKey.num = b.map NestedKey.num → a = b
  | [], [], _ => rfl
  | [], _ :: _, h => by cases h
  | _ :: _, [], h => by cases h
  | x :: a, y :: b, h => by
    simp only [List.map_cons, List.cons.injEq, NestedKey.num.injEq] at h
    rw [h.1, nums_inj h.2]
theorem kPl_inj {p q : Pl} (h : kPl p = kPl q) : p = q := by
  obtain ⟨a, b, c⟩ := p
  obtain ⟨a', b', c'⟩ := q
  unfold kPl kL at h
  simp only [NestedKey.tup.injEq, List.cons.injEq, and_true] at h
  have h1 := nums_inj h.1
  have h2 := nums_inj h.2.1
  have h3 : c = c' := by
    have := h.2.2
    cases c <;> cases c' <;> simp [kO] at this ⊢
    exact this
  rw [h1, h2, h3]
/-! ### dicts by their keys -/
theorem look_cons (p : Dt × Dt) (r : List (Dt × Dt)) (k : NestedKey) : lookD (p :: r) k = if keyOf p.1 = some k then some p.2 else lookD r k := rfl
theorem look_set {k k' : NestedKey} {v : Dt} (ne : k ≠ k') : ∀ kvs : List (Dt × Dt), lookD (kvs.map (setD k v)) k' = lookD kvs k'
  | [] => rfl
  | p :: r => by
    rw [List.map_cons, look_cons, look_cons, look_set ne r]
    by_cases e : keyOf p.1 = some k
    · have h : setD k v p = (p.1, v) := if_pos e
      rw [h]
      have n : ¬ keyOf p.1 = some k' := fun z => ne (Option.some.inj (e.symm.trans z))
      rw [if_neg n, if_neg n]
    · have h : setD k v p = p := if_neg e
      rw [h]
theorem look_set_same {k : NestedKey} {v : Dt} : ∀ kvs : List (Dt × Dt), (lookD kvs k).isSome = true → lookD (kvs.map (setD k v)) k = some v
  | [], h => by cases h
  | p :: r, h => by
    rw [List.map_cons, look_cons]
    by_cases e : keyOf p.1 = some k
    · have h' : setD k v p = (p.1, v) := if_pos e
      rw [h', if_pos e]
    · have h' : setD k v p = p := if_neg e
      rw [h', if_neg e]
      rw [look_cons, if_neg e] at h
      exact look_set_same r h
theorem look_snoc {k' : NestedKey} {x : Dt × Dt} : ∀ kvs : List (Dt × Dt), lookD (kvs ++ [x]) k' = match lookD kvs k' with | some v => some v | none => if keyOf x.1 = some k' then some x.2 else none
  | [] => rfl
  | p :: r => by
    rw [List.cons_append, look_cons, look_cons, look_snoc r]
    by_cases e : keyOf p.1 = some k'
    · rw [if_pos e, if_pos e]
    · rw [if_neg e, if_neg e]
theorem look_put (key : Dt) (k k' : NestedKey) (v : Dt) (hk : keyOf key = some k) (kvs : List (Dt × Dt)) : lookD (putD kvs key k v) k' = if k = k' then some v else lookD kvs k' := by
  unfold putD
  split
  · rename_i h
    by_cases e : k = k'
    · subst e
      rw [if_pos rfl]; exact look_set_same kvs h
    · rw [if_neg e]; exact look_set e kvs
  · rename_i h
    have hn : lookD kvs k = none := by
      cases q : lookD kvs k with
      | none => rfl
      | some _ => rw [q] at h; exact absurd rfl h
    rw [look_snoc]
    by_cases e : k = k'
    · subst e
      rw [hn, if_pos rfl]
      exact if_pos hk
    · rw [if_neg e]
      have n : ¬ keyOf key = some k' := fun z => e (Option.some.inj (hk.symm.trans z))
      cases lookD kvs k' with
      | some _ => rfl
      | none => exact if_neg n
structure LOk (room : Int) (kvs : List (Dt × Dt)) : Prop where
  ent : ∀ e ∈ kvs, ∃ p c, e = (ePl p, .int c) ∧ PlOk room p ∧ 1 ≤ c
theorem LOk.look {room : Int} {kvs : List (Dt × Dt)} (h : LOk room kvs) {k : NestedKey} {v : Dt} (hl : lookD kvs k = some v) : ∃ p c, (ePl p, .int c) ∈ kvs ∧ kPl p = k ∧ v = .int c ∧ 1 ≤ c := by
  induction kvs with
  | nil => cases hl
  | cons e r ih =>
    obtain ⟨p, c, rfl, hp, hc⟩ := h.ent e List.mem_cons_self
    unfold lookD at hl
    simp only [key_Pl, Option.some.injEq] at hl
    by_cases q : kPl p = k
    · rw [if_pos q] at hl
      cases hl
      exact ⟨p, c, List.mem_cons_self, q, rfl, hc⟩
    · rw [if_neg q] at hl
      obtain ⟨p', c', h1, h2⟩ := ih ⟨fun e he => h.ent e (List.mem_cons_of_mem _ he)⟩ hl
      exact ⟨p', c', List.mem_cons_of_mem _ h1, h2⟩
theorem look_mem {kvs : List (Dt × Dt)} {p : Pl} {v : Dt} (h : (ePl p, v) ∈ kvs) : ∃ u, lookD kvs (kPl p) = some u := by
  induction kvs with
  | nil => cases h
  | cons e r ih =>
    unfold lookD
    by_cases q : keyOf e.1 = some (kPl p)
    · exact ⟨e.2, by rw [if_pos q]⟩
    · rw [if_neg q]
      rcases List.mem_cons.mp h with rfl | h
      · exact absurd (key_Pl p) q
      · exact ih h
theorem LOk.put {room : Int} {kvs : List (Dt × Dt)} (h : LOk room kvs) {p : Pl} {c : Int} (hp : PlOk room p) (hc : 1 ≤ c) : LOk room (putD kvs (ePl p) (kPl p) (.int c)) := by
  refine ⟨fun e he => ?_⟩
  unfold putD at he
  split at he
  · obtain ⟨e', he', rfl⟩ := List.mem_map.mp he
    obtain ⟨q, c', rfl, hq, hc'⟩ := h.ent e' he'
    unfold setD
    split
    · exact ⟨q, c, rfl, hq, hc⟩
    · exact ⟨q, c', rfl, hq, hc'⟩
  · rcases List.mem_append.mp he with he | he
    · exact h.ent e he
    · cases List.mem_singleton.mp he
      exact ⟨p, c, rfl, hp, hc⟩
theorem put_len (kvs : List (Dt × Dt)) (key : Dt) (k : NestedKey) (v : Dt) : (putD kvs key k v).length ≤ kvs.length + 1 := by
  unfold putD
  split
  · simp
  · simp
theorem atI_last {α : Type} (xs : List α) (x : α) : atI (xs ++ [x]) (-1) = some x := by
  unfold atI ixN
  rw [if_neg (by decide), if_pos (by simp; omega)]
  show (xs ++ [x])[(-1 + ((xs ++ [x]).length : Int)).toNat]? = some x
  rw [show (-1 + ((xs ++ [x]).length : Int)).toNat = xs.length by simp; omega]
  simp
theorem dEq_no (a b : No) : dEq (eNo a) (eNo b) = some (.bool (decide (a = b))) := by rw [dEq_ok (okD_no a) (okD_no b), eqv_no]
/-! ### a layer -/
section
variable {room : Int} {r : Ru} (h3 : 0 ≤ room) (h5 : room ≤ 5) (hr : RuOk r)
abbrev lyE (room : Int) (r : Ru) (N : Dt) (ls : List Dt) (nt : No) (kv : List (Dt × Dt)) (x6 x7 x8 x9 x10 : Option Sl) : Nv := [some (.im (.int room)), some (.im (eRu r)), some (.im N), some (.ow false ls), some (.im (eNo nt)), some (.od false kv), x6, x7, x8, x9, x10]
include h3 h5 hr in
theorem job_ok {N : Dt} {ls : List Dt} {nt : No} {last kv : List (Dt × Dt)} {p : Pl} {v : Dt} {j : Int} (hl : LOk room last) (hk : LOk room kv) (hn : kv.length < 10000000) (hm : (ePl p, v) ∈ last) (hp : PlOk room p) (j0 : 0 ≤ j) (j3 : j ≤ 3) (x8 x9 x10 : Option Sl) :
    ∃ kv' y8 y9 y10, B_layers_of_l1 (lyE room r N (ls ++ [.dict last]) nt kv (some (.im (ePl p))) (some (.im (.int j))) x8 x9 x10) = some (.nx (lyE room r N (ls ++ [.dict last]) nt kv' (some (.im (ePl p))) (some (.im (.int j))) y8 y9 y10)) ∧
      LOk room kv' ∧ kv'.length ≤ kv.length + 1 ∧ (∀ k, (lookD kv k).isSome = true → (lookD kv' k).isSome = true) ∧ (noteM room r p j = nt → (lookD kv' (kPl (stepM room r p j).1)).isSome = true) := by
  have hs := step_ok (job := j) h5 hr hp j3
  have hq : PlOk room (stepM room r p j).1 := foldM_ok (placeM_ok h3 hr hp j0)
  have hneg : dNeg (.int 1) = some (.int (-1)) := rfl
  have hat : dIx (.list (ls ++ [.dict last])) (.int (-1)) = some (.dict last) := atI_last ls _
  obtain ⟨u, hu⟩ := look_mem hm
  obtain ⟨_, c, _, _, rfl, hc⟩ := hl.look hu
  have hg : dGetN (.dict last) (ePl p) = some (.int c) := by
    show (match keyOf (ePl p) with | some k => lookD last k | none => none) = _
    rw [key_Pl]; exact hu
  by_cases he : noteM room r p j = nt
  · have hd : dEq (eNo (stepM room r p j).2.1) (eNo nt) = some (.bool true) := by rw [dEq_no]; exact congrArg (fun b => some (PyData.bool b)) (decide_eq_true he)
    have hlt : (kv.length < 10000000) = True := eq_true hn
    have fin : ∀ c0 : Int, 0 ≤ c0 → B_layers_of_l1 (lyE room r N (ls ++ [.dict last]) nt kv (some (.im (ePl p))) (some (.im (.int j))) x8 x9 x10) = some (.nx (lyE room r N (ls ++ [.dict last]) nt (putD kv (ePl (stepM room r p j).1) (kPl (stepM room r p j).1) (.int (c0 + c))) (some (.im (ePl p))) (some (.im (.int j))) (some (.im (ePl (stepM room r p j).1))) (some (.im (eNo (stepM room r p j).2.1))) (some (.im (eCn (stepM room r p j).2.2))))) →
        ∃ kv' y8 y9 y10, B_layers_of_l1 (lyE room r N (ls ++ [.dict last]) nt kv (some (.im (ePl p))) (some (.im (.int j))) x8 x9 x10) = some (.nx (lyE room r N (ls ++ [.dict last]) nt kv' (some (.im (ePl p))) (some (.im (.int j))) y8 y9 y10)) ∧
      LOk room kv' ∧ kv'.length ≤ kv.length + 1 ∧ (∀ k, (lookD kv k).isSome = true → (lookD kv' k).isSome = true) ∧ (noteM room r p j = nt → (lookD kv' (kPl (stepM room r p j).1)).isSome = true) := by
      intro c0 hc0 hB
      refine ⟨_, _, _, _, hB, hk.put hq (by omega), put_len _ _ _ _, fun k hkk => ?_, fun _ => ?_⟩
      · rw [look_put _ _ _ _ (key_Pl _)]
        split
        · rfl
        · exact hkk
      · rw [look_put _ _ _ _ (key_Pl _), if_pos rfl]; rfl
    cases q : lookD kv (kPl (stepM room r p j).1) with
    | none =>
      refine fin 0 (Int.le_refl 0) ?_
      unfold B_layers_of_l1
      wp_walk using hs, gTk, hd, sPutV, eGet2, dictAt, odAt, key_Pl, hneg, hat, hg, hlt, q
    | some z =>
      obtain ⟨_, c1, _, _, rfl, h1⟩ := hk.look q
      refine fin c1 (by omega) ?_
      unfold B_layers_of_l1
      wp_walk using hs, gTk, hd, sPutV, eGet2, dictAt, odAt, key_Pl, hneg, hat, hg, hlt, q
  · have hd : dEq (eNo (stepM room r p j).2.1) (eNo nt) = some (.bool false) := by rw [dEq_no]; exact congrArg (fun b => some (PyData.bool b)) (decide_eq_false he)
    refine ⟨kv, some (.im (ePl (stepM room r p j).1)), some (.im (eNo (stepM room r p j).2.1)), some (.im (eCn (stepM room r p j).2.2)), ?_, hk, by omega, fun _ h => h, fun h => absurd h he⟩
    unfold B_layers_of_l1
    wp_walk using hs, gTk, hd
include h3 h5 hr in
theorem place_ok {N : Dt} {ls : List Dt} {nt : No} {last kv : List (Dt × Dt)} {p : Pl} {v : Dt} (hl : LOk room last) (hk : LOk room kv) (hn : kv.length + 4 < 10000000) (hm : (ePl p, v) ∈ last) (hp : PlOk room p) (x7 x8 x9 x10 : Option Sl) :
    ∃ kv' y7 y8 y9 y10, B_layers_of_l2 (lyE room r N (ls ++ [.dict last]) nt kv (some (.im (ePl p))) x7 x8 x9 x10) = some (.nx (lyE room r N (ls ++ [.dict last]) nt kv' (some (.im (ePl p))) y7 y8 y9 y10)) ∧
      LOk room kv' ∧ kv'.length ≤ kv.length + 4 ∧ (∀ k, (lookD kv k).isSome = true → (lookD kv' k).isSome = true) ∧ (∀ j, 0 ≤ j → j ≤ 3 → noteM room r p j = nt → (lookD kv' (kPl (stepM room r p j).1)).isSome = true) := by
  obtain ⟨k0, a8, a9, a10, e0, l0, n0, m0, s0⟩ := job_ok h3 h5 hr (N := N) (ls := ls) (nt := nt) (j := 0) hl hk (by omega) hm hp (by omega) (by omega) x8 x9 x10
  obtain ⟨k1, b8, b9, b10, e1, l1, n1, m1, s1⟩ := job_ok h3 h5 hr (N := N) (ls := ls) (nt := nt) (j := 1) hl l0 (by omega) hm hp (by omega) (by omega) a8 a9 a10
  obtain ⟨k2, c8, c9, c10, e2, l2, n2, m2, s2⟩ := job_ok h3 h5 hr (N := N) (ls := ls) (nt := nt) (j := 2) hl l1 (by omega) hm hp (by omega) (by omega) b8 b9 b10
  obtain ⟨k3, d8, d9, d10, e3, l3, n3, m3, s3⟩ := job_ok h3 h5 hr (N := N) (ls := ls) (nt := nt) (j := 3) hl l2 (by omega) hm hp (by omega) (by omega) c8 c9 c10
  refine ⟨k3, some (.im (.int 3)), d8, d9, d10, ?_, l3, by omega, fun k h => m3 k (m2 k (m1 k (m0 k h))), fun j j0 j3 h => ?_⟩
  · unfold B_layers_of_l2
    simp only [lyE] at e0 e1 e2 e3
    wp_walk using forD, e0, e1, e2, e3
  · have : j = 0 ∨ j = 1 ∨ j = 2 ∨ j = 3 := by omega
    rcases this with rfl | rfl | rfl | rfl
    · exact m3 _ (m2 _ (m1 _ (s0 h)))
    · exact m3 _ (m2 _ (s1 h))
    · exact m3 _ (s2 h)
    · exact s3 h
include h3 h5 hr in
theorem layer_ok {N : Dt} {ls : List Dt} {nt : No} {last : List (Dt × Dt)} (hl : LOk room last) (hn : 4 * last.length < 9000000) (hll : ls.length ≤ 1000) (x5 x6 x7 x8 x9 x10 : Option Sl) :
    ∃ kv' y6 y7 y8 y9 y10, B_layers_of_l3 [some (.im (.int room)), some (.im (eRu r)), some (.im N), some (.ow false (ls ++ [.dict last])), some (.im (eNo nt)), x5, x6, x7, x8, x9, x10] = some (.nx [some (.im (.int room)), some (.im (eRu r)), some (.im N), some (.ow false (ls ++ [.dict last] ++ [.dict kv'])), some (.im (eNo nt)), some (.im (.dict kv')), y6, y7, y8, y9, y10]) ∧
      LOk room kv' ∧ kv'.length ≤ 4 * last.length ∧ (∀ p v j, (ePl p, v) ∈ last → 0 ≤ j → j ≤ 3 → noteM room r p j = nt → (lookD kv' (kPl (stepM room r p j).1)).isSome = true) := by
  have hneg : dNeg (.int 1) = some (.int (-1)) := rfl
  have hat : dIx (.list (ls ++ [.dict last])) (.int (-1)) = some (.dict last) := atI_last ls _
  have key : ∃ e', forD (gNm 6) B_layers_of_l2 (last.map Prod.fst) (lyE room r N (ls ++ [.dict last]) nt [] x6 x7 x8 x9 x10) = some (.nx e') ∧ ∃ kv' y6 y7 y8 y9 y10, e' = lyE room r N (ls ++ [.dict last]) nt kv' y6 y7 y8 y9 y10 ∧ LOk room kv' ∧ kv'.length ≤ 4 * last.length ∧
      (∀ p v j, (ePl p, v) ∈ last → 0 ≤ j → j ≤ 3 → noteM room r p j = nt → (lookD kv' (kPl (stepM room r p j).1)).isSome = true) := by
    refine forD_all (α := Dt × Dt) Prod.fst (fun pre env => ∃ kv' y6 y7 y8 y9 y10, env = lyE room r N (ls ++ [.dict last]) nt kv' y6 y7 y8 y9 y10 ∧ LOk room kv' ∧ kv'.length ≤ 4 * pre.length ∧ (∀ p v j, (ePl p, v) ∈ pre → 0 ≤ j → j ≤ 3 → noteM room r p j = nt → (lookD kv' (kPl (stepM room r p j).1)).isSome = true)) last _ ⟨[], x6, x7, x8, x9, x10, rfl, ⟨fun e he => by cases he⟩, Nat.le_refl _, fun p v j hm => by cases hm⟩ ?_
    rintro pre e post env hsplit ⟨kv, y6, y7, y8, y9, y10, rfl, hk, hlen, hpath⟩
    have hm : e ∈ last := by rw [hsplit]; simp
    obtain ⟨p, c, rfl, hp, hc⟩ := hl.ent e hm
    have hpl : pre.length ≤ last.length := by rw [hsplit]; simp
    obtain ⟨kv', z7, z8, z9, z10, h1, h2, h3', h4, h5'⟩ := place_ok h3 h5 hr (N := N) (ls := ls) (nt := nt) hl hk (by omega) hm hp y7 y8 y9 y10
    refine ⟨_, _, rfl, .inl h1, kv', _, z7, z8, z9, z10, rfl, h2, by simp; omega, fun p' v' j hmm j0 j3 hnote => ?_⟩
    rcases List.mem_append.mp hmm with z | z
    · exact h4 _ (hpath p' v' j z j0 j3 hnote)
    · have := List.mem_singleton.mp z
      have e1 : ePl p' = ePl p := congrArg Prod.fst this
      have e2 : kPl p' = kPl p := by
        have := key_Pl p'
        rw [e1, key_Pl] at this
        exact (Option.some.inj this).symm
      have := kPl_inj e2
      subst this
      exact h5' j j0 j3 hnote
  obtain ⟨E, k1, kv', y6, y7, y8, y9, y10, hE, g1, g2, g3⟩ := key
  refine ⟨kv', y6, y7, y8, y9, y10, ?_, g1, g2, g3⟩
  have hlt : ((ls ++ [PyData.dict last]).length < 10000000) = True := eq_true (by simp; omega)
  simp only [lyE] at k1 hE
  unfold B_layers_of_l3
  wp_walk using sNewD, dEmp, itK, hneg, hat, k1, hE, eVarD, hlt
theorem notesM_snoc (room : Int) (r : Ru) (js : List Int) (j : Int) : notesM room r (js ++ [j]) = notesM room r js ++ [noteM room r (goM room r p0 js) j] := by
  unfold notesM
  rw [runM_snoc, List.map_append]
  rfl
/-- the places that can come with the notes stand in the layer -/
def Path (room : Int) (r : Ru) (N : List No) (kvs : List (Dt × Dt)) : Prop := ∀ js, JobsOk js → notesM room r js = N → (lookD kvs (kPl (foldM r (goM room r p0 js)))).isSome = true
include h3 hr in
theorem path_next {N : List No} {nt : No} {last kv' : List (Dt × Dt)} (hl : LOk room last) (h : Path room r N last) (hs : ∀ p v j, (ePl p, v) ∈ last → 0 ≤ j → j ≤ 3 → noteM room r p j = nt → (lookD kv' (kPl (stepM room r p j).1)).isSome = true) : Path room r (N ++ [nt]) kv' := by
  intro js hj hN
  have hlen : js.length = N.length + 1 := by
    have := congrArg List.length hN
    rw [notesM_length] at this
    simpa using this
  obtain ⟨js', j, rfl⟩ : ∃ js' j, js = js' ++ [j] := by
    refine ⟨js.dropLast, js.getLast (by intro z; rw [z] at hlen; simp at hlen), ?_⟩
    exact (List.dropLast_concat_getLast _).symm
  rw [notesM_snoc] at hN
  have hN' := List.append_inj' hN rfl
  have hp := h js' hj.left hN'.1
  obtain ⟨v, hv⟩ := Option.isSome_iff_exists.mp hp
  obtain ⟨p, c, h1, h2, _, _⟩ := hl.look hv
  have e := kPl_inj h2
  have hok := goM_ok h3 hr hj.left (p0_ok h3)
  have hjj := hj j (by simp)
  have ft := fold_tick (j := j) hok hjj.1 hr
  have hno : noteM room r p j = nt := by
    rw [e, ft.1]
    simpa using hN'.2
  have := hs p (.int c) j h1 hjj.1 hjj.2 hno
  rw [goM_snoc]
  have e3 : foldM r (placeM room r (goM room r p0 js') j) = (stepM room r p j).1 := by
    rw [e]
    exact ft.2.2.symm
  rw [e3]
  exact this
theorem fold_p0 (r : Ru) : foldM r p0 = p0 := by unfold foldM; split <;> rfl
include h3 in
theorem path_0 : Path room r [] [(ePl p0, .int 1)] ∧ LOk room [(ePl p0, .int 1)] := by
  refine ⟨fun js hj hN => ?_, ⟨fun e he => ?_⟩⟩
  · have : js = [] := by
      have := congrArg List.length hN
      rw [notesM_length] at this
      exact List.length_eq_zero_iff.mp this
    subst this
    show (lookD _ (kPl (foldM r p0))).isSome = true
    rw [fold_p0, look_cons, if_pos (key_Pl p0)]; rfl
  · cases List.mem_singleton.mp he
    exact ⟨p0, 1, rfl, p0_ok h3, Int.le_refl 1⟩
include h3 h5 hr in
theorem layers_ok {N : List No} (hN : N.length ≤ 11) : ∃ ls last, F_layers_of [.int room, eRu r, nts N] = some (.list (ls ++ [.dict last])) ∧ LOk room last ∧ last.length ≤ 4194304 ∧ Path room r N last := by
  have key : ∃ e', forD (gNm 4) B_layers_of_l3 (N.map eNo) [some (.im (.int room)), some (.im (eRu r)), some (.im (nts N)), some (.ow false [.dict [(ePl p0, .int 1)]]), none, none, none, none, none, none, none] = some (.nx e') ∧ ∃ ls last y4 y5 y6 y7 y8 y9 y10, e' = [some (.im (.int room)), some (.im (eRu r)), some (.im (nts N)), some (.ow false (ls ++ [.dict last])), y4, y5, y6, y7, y8, y9, y10] ∧ ls.length = N.length ∧ LOk room last ∧ last.length ≤ 4 ^ N.length ∧ Path room r N last := by
    refine forD_all eNo (fun pre env => ∃ ls last y4 y5 y6 y7 y8 y9 y10, env = [some (.im (.int room)), some (.im (eRu r)), some (.im (nts N)), some (.ow false (ls ++ [.dict last])), y4, y5, y6, y7, y8, y9, y10] ∧ ls.length = pre.length ∧ LOk room last ∧ last.length ≤ 4 ^ pre.length ∧ Path room r pre last) N _ ⟨[], [(ePl p0, .int 1)], none, none, none, none, none, none, none, rfl, rfl, (path_0 (r := r) h3).2, Nat.le_refl _, (path_0 (r := r) h3).1⟩ ?_
    rintro pre nt post env hsplit ⟨ls, last, y4, y5, y6, y7, y8, y9, y10, rfl, h0, h1, h2, h3'⟩
    have hpl : pre.length ≤ 10 := by
      have := congrArg List.length hsplit
      simp at this
      omega
    have hpow : 4 ^ pre.length ≤ 4 ^ 10 := Nat.pow_le_pow_right (by decide) hpl
    obtain ⟨kv', z6, z7, z8, z9, z10, g1, g2, g3, g4⟩ := layer_ok h3 h5 hr (N := nts N) (ls := ls) (nt := nt) h1 (by omega) (by omega) y5 y6 y7 y8 y9 y10
    refine ⟨_, _, rfl, .inl g1, ls ++ [.dict last], kv', _, _, _, _, _, _, _, rfl, by simp [h0], g2, ?_, path_next h3 hr h1 h3' g4⟩
    rw [List.length_append, List.length_cons, List.length_nil, Nat.zero_add, Nat.pow_succ]
    omega
  obtain ⟨E, k1, ls, last, y4, y5, y6, y7, y8, y9, y10, hE, g0, g1, g2, g3⟩ := key
  refine ⟨ls, last, ?_, g1, ?_, g3⟩
  · have kb : keyOf (ePl p0) = some (kPl p0) := key_Pl p0
    unfold F_layers_of B_layers_of
    wp_walk using eNewD, dOne, begun_ok, kb, k1, hE
  · have : 4 ^ N.length ≤ 4 ^ 11 := Nat.pow_le_pow_right (by decide) hN
    omega
theorem sum_pos {kvs : List (Dt × Dt)} {f : Dt × Dt → Int} (h : ∀ e ∈ kvs, 1 ≤ f e) : (kvs.length : Int) ≤ (kvs.map f).sum := by
  induction kvs with
  | nil => simp
  | cons e r ih =>
    have := ih fun x hx => h x (List.mem_cons_of_mem _ hx)
    have := h e List.mem_cons_self
    simp; omega
include h3 h5 hr in
theorem count_ok {N : List No} (hN : N.length ≤ 11) : ∃ c : Int, F_count_of [.int room, eRu r, nts N] = some (.int c) ∧ 0 ≤ c ∧ ((∃ js, JobsOk js ∧ notesM room r js = N) → 0 < c) := by
  obtain ⟨ls, last, h1, h2, h3', h4⟩ := layers_ok h3 h5 hr hN
  have hat : dIx (.list (ls ++ [.dict last])) (.int (-1)) = some (.dict last) := atI_last ls _
  have hneg : dNeg (.int 1) = some (.int (-1)) := rfl
  let f : Dt × Dt → Int := fun e => match keyOf e.1 with
    | some k => match lookD last k with
      | some (.int c) => c
      | _ => 0
    | none => 0
  have hf : ∀ e ∈ last, ∃ c, 1 ≤ c ∧ f e = c ∧ ∃ k, keyOf e.1 = some k ∧ lookD last k = some (.int c) := fun e he => by
    obtain ⟨p, c0, rfl, hp, _⟩ := h2.ent e he
    obtain ⟨u, hu⟩ := look_mem he
    obtain ⟨_, c, _, _, rfl, hc⟩ := h2.look hu
    refine ⟨c, hc, ?_, kPl p, key_Pl p, hu⟩
    simp only [f, key_Pl, hu]
  have key := lcD_mp (vs := [4]) (g := gNm 4) (f := eGetV 3 (eVar 4)) (env := [some (.im (.int room)), some (.im (eRu r)), some (.im (nts N)), some (.im (.dict last)), none]) (fun e : Dt × Dt => e.1) (fun e => PyData.int (f e)) last fun e he => ⟨_, rfl, rfl, by
    obtain ⟨c, _, hfc, k, hk, hlk⟩ := hf e he
    rw [hfc]
    wp_walk using eGetV, dictAt, hk, hlk⟩
  have hlt : (last.length < 10000000) = True := eq_true (by omega)
  have hsum : dSum [.list (last.map fun e => PyData.int (f e))] = some (.int ((last.map f).sum)) := by
    have e : (last.map fun e => PyData.int (f e)) = (last.map f).map PyData.int := by rw [List.map_map]; rfl
    rw [e]
    exact dSum_l (last.map f)
  have hpos := sum_pos (kvs := last) (f := f) fun e he => by
    obtain ⟨c, h1, h2, _⟩ := hf e he
    omega
  refine ⟨(last.map f).sum, ?_, by omega, fun ⟨js, hj, hjs⟩ => ?_⟩
  · unfold F_count_of B_count_of
    wp_walk using h1, hneg, hat, itK, eVarD, List.length_map, hlt, key, hsum
  · have := h4 js hj hjs
    cases hlast : last with
    | nil => rw [hlast] at this; cases this
    | cons e r' =>
      rw [hlast] at hpos
      rw [List.length_cons] at hpos
      omega
end
def cV (room : Int) (r : Ru) (N : List No) : Int := match F_count_of [.int room, eRu r, nts N] with
  | some (.int c) => c
  | _ => 0
theorem cV_ok {room : Int} {r : Ru} {N : List No} (h3 : 0 ≤ room) (h5 : room ≤ 5) (hr : RuOk r) (hN : N.length ≤ 11) : F_count_of [.int room, eRu r, nts N] = some (.int (cV room r N)) ∧ ((∃ js, JobsOk js ∧ notesM room r js = N) → 0 < cV room r N) := by
  obtain ⟨c, h1, h2, h4⟩ := count_ok h3 h5 hr hN
  have e : cV room r N = c := by unfold cV; rw [h1]
  rw [e]
  exact ⟨h1, h4⟩
def sendM (room : Int) (N : List No) : List Ru := fam.filter fun r => decide (0 < cV room r N)
theorem could_send_ok {room : Int} {N : List No} (h3 : 3 ≤ room) (h5 : room ≤ 5) (hn : ∀ n ∈ N, NoOk n) (hN : N.length ≤ 11) : F_could_send [.int room, nts N] = some (rus (sendM room N)) := by
  have key := lcD_filt (vs := [2]) (g := gNm 2) (c := tVal (eOp dGt (eCall F_count_of (aI (eVar 0) (aI (eVar 2) (aI (eVar 1) aNil)))) (eC (.int 0)))) (f := eVar 2) (env := [some (.im (.int room)), some (.im (nts N)), none]) eRu eRu (fun r => decide (0 < cV room r N)) fam fun r hr => ⟨_, rfl, rfl, (by wp_walk using (cV_ok (by omega : 0 ≤ room) h5 (fam_ok hr) hN).1), fun _ => rfl⟩
  have hf : ((fam.map eRu).length < 10000000) = True := eq_true (by decide)
  unfold F_could_send B_could_send
  wp_walk using need_room_ok h3 h5, need_notes_ok hn (by omega : N.length ≤ 40), family_ok, hf, key
  rfl
theorem mem_send {room : Int} {r : Ru} {js : List Int} (h3 : 0 ≤ room) (h5 : room ≤ 5) (hf : r ∈ fam) (hj : JobsOk js) (hl : js.length ≤ 11) : r ∈ sendM room (notesM room r js) := by
  unfold sendM
  rw [List.mem_filter]
  exact ⟨hf, decide_eq_true ((cV_ok h3 h5 (fam_ok hf) (by rw [notesM_length]; exact hl)).2 ⟨js, hj, rfl⟩)⟩
/-! ### a desk, as data -/
abbrev dkS (room : Int) (r : Ru) (past undone : List Int) : ObF := dkF (.int room) (eRu r) (past.map PyData.int) (undone.map PyData.int)
theorem lk_room (a b : Dt) (p u : List Dt) : (frzF (dkF a b p u)).lookup ("room" : Str) = some (.im a) := by kernel_rfl
theorem lk_rule (a b : Dt) (p u : List Dt) : (frzF (dkF a b p u)).lookup ("rule" : Str) = some (.im b) := by kernel_rfl
theorem lk_past (a b : Dt) (p u : List Dt) : (frzF (dkF a b p u)).lookup ("past" : Str) = some (.im (.list p)) := by kernel_rfl
theorem lk_notes (a b : Dt) (p u : List Dt) : (frzF (dkF a b p u)).lookup ("notes" : Str) = none := by kernel_rfl
theorem lk_place (a b : Dt) (p u : List Dt) : (frzF (dkF a b p u)).lookup ("place" : Str) = none := by kernel_rfl
theorem dk_no (a b : Dt) (p u : List Dt) : (dkF a b p u).lookup ("tick" : Str) = none ∧ (dkF a b p u).lookup ("jobs" : Str) = none ∧ (dkF a b p u).lookup ("notes" : Str) = none ∧ (dkF a b p u).lookup ("works" : Str) = none ∧ (dkF a b p u).lookup ("lines" : Str) = none ∧ (dkF a b p u).lookup ("__len__" : Str) = none := by
  refine ⟨?_, ?_, ?_, ?_, ?_, ?_⟩ <;> kernel_rfl
theorem N_of {m n : Nat} {g : NF} {ds xs : List Dt} (h : fnP m n (sRet (eNew g)) ds = some (.list xs)) : fnN m n g ds = some xs := by
  unfold fnP at h
  unfold fnN
  split at h
  · rename_i hl
    rw [if_pos hl]
    unfold sRet eNew at h
    cases q : g (startD ds n) with
    | none => rw [q] at h; cases h
    | some o => rw [q] at h; cases h; rfl
  · cases h
section
variable {room : Int} {r : Ru} {past undone : List Int}
theorem gF3 (a b : Dt) (p u : List Dt) : (gCons (gFld "room") (gCons (gFld "rule") (gCons (gFld "past") gNil))) (frzF (dkF a b p u)) = some [a, b, .list p] := by
  unfold gCons gFld gNil
  rw [lk_room, lk_rule, lk_past]
theorem notes_ofN_ok (h3 : 0 ≤ room) (h5 : room ≤ 5) (hr : RuOk r) {js : List Int} (hj : JobsOk js) (hl : js.length ≤ 1000) : F_notes_ofN [.int room, eRu r, .list (js.map PyData.int)] = some ((notesM room r js).map eNo) := N_of (notes_of_nts h3 h5 hr hj hl)
theorem dk_notes_ok (h3 : 0 ≤ room) (h5 : room ≤ 5) (hr : RuOk r) (hj : JobsOk past) (hl : past.length ≤ 1000) : G_Desk_notes (frzF (dkS room r past undone)) = some ((notesM room r past).map eNo) := by
  unfold G_Desk_notes gCallN
  rw [gF3]
  exact notes_ofN_ok h3 h5 hr hj hl
theorem dk_init_ok (h3 : 3 ≤ room) (h5 : room ≤ 5) (hr : RuOk r) : G_Desk___init__ [] [.int room, eRu r] = some (.none, dkS room r [] []) := by
  have hb : F_need_both [.int room, eRu r] = some .none := by
    have a1 := need_room_ok h3 h5
    have a2 : F_need_rule [eRu r] = some .none := by
      have := is_rule_ok hr
      unfold F_need_rule B_need_rule
      wp_walk using this
    unfold F_need_both B_need_both
    wp_walk using a1, a2
  unfold G_Desk___init__ dkInit
  simp only [hb]
  rfl
theorem lfree_no (n : No) : lfree (eNo n) = true := by
  cases n with
  | none => rfl
  | some p => rfl
theorem lfreeL_map {α : Type} (f : α → Dt) (h : ∀ x, lfree (f x) = true) : ∀ xs : List α, lfreeL (xs.map f) = true
  | [] => rfl
  | x :: xs => by
    rw [List.map_cons]
    show (lfree (f x) && lfreeL (xs.map f)) = true
    rw [h, lfreeL_map f h xs]; rfl
theorem dk_tick_ok (h3 : 0 ≤ room) (h5 : room ≤ 5) (hr : RuOk r) (hj : JobsOk past) (hl : past.length < 40) {j : Int} (j0 : 0 ≤ j) (j3 : j ≤ 3) :
    G_Desk_tick (dkS room r past undone) [.int j] = some (eNo (noteM room r (goM room r p0 past) j), dkS room r (past ++ [j]) []) := by
  have hj' : JobsOk (past ++ [j]) := fun x hx => by
    rcases List.mem_append.mp hx with z | z
    · exact hj x z
    · rw [List.mem_singleton.mp z]; exact ⟨j0, j3⟩
  have e1 : (past ++ [j]).map PyData.int = past.map PyData.int ++ [.int j] := by rw [List.map_append]; rfl
  have hn := dk_notes_ok (undone := []) h3 h5 hr hj' (by simp; omega)
  rw [notesM_snoc, List.map_append] at hn
  unfold dkS at hn ⊢
  rw [e1] at hn ⊢
  have hi := is_int_int j 0 3
  rw [decide_eq_true (⟨j0, j3⟩ : 0 ≤ j ∧ j ≤ 3)] at hi
  have hF : (tNotF (tVal (eCall F_is_int (aI (eVar 1) (aI (eC (.int 0)) (aI (eC (.int 3)) aNil)))))) [none, some (.im (.int j))] = some (false, [none, some (.im (.int j))]) := by
    wp_walk using hi
  have hq : dEq (.int ((past.map PyData.int).length : Int)) (.int 40) = some (.bool false) := by
    rw [dEq_int, List.length_map, decide_eq_false (by omega)]
  have hat : gAtN (fun fs => if fs.lookup ("notes" : Str) = none then G_Desk_notes fs else none) (-1) (frzF (dkF (.int room) (eRu r) (past.map PyData.int ++ [.int j]) [])) = some (eNo (noteM room r (goM room r p0 past) j)) := by
    unfold gAtN
    dsimp only
    rw [lk_notes, if_pos rfl]
    have hn' : G_Desk_notes (frzF (dkF (.int room) (eRu r) (past.map PyData.int ++ [.int j]) [])) = some ((notesM room r past).map eNo ++ [eNo (noteM room r (goM room r p0 past) j)]) := hn
    rw [hn']
    exact atI_last _ _
  unfold G_Desk_tick dkTick
  rw [asDk_dk]
  show (match (tNotF (tVal (eCall F_is_int (aI (eVar 1) (aI (eC (.int 0)) (aI (eC (.int 3)) aNil)))))) [none, some (.im (.int j))] with | some (false, [none, some (.im _)]) => _ | _ => _) = _
  rw [hF]
  dsimp only
  rw [hq]
  dsimp only
  rw [if_pos (by rw [List.length_map]; omega), hat]
  dsimp only
  rw [if_pos (lfree_no _)]
  rfl

theorem okD_pl {k : Nat} (p : Pl) : okD (k + 2) (ePl p) = true := by
  refine okD_tuple ?_
  have h1 : okD (k + 1) (eL p.1) = true := okD_tints _
  have h2 : okD (k + 1) (eL p.2.1) = true := okD_tints _
  have h3 : okD (k + 1) (eO p.2.2) = true := by cases p.2.2 <;> rfl
  simp only [okL, h1, h2, h3, Bool.and_self]
theorem okD_tk {k : Nat} (t : Tk) : okD (k + 3) (eTk t) = true := by
  refine okD_tuple ?_
  have h1 : okD (k + 2) (ePl t.1) = true := okD_pl _
  have h2 : okD (k + 2) (eNo t.2.1) = true := okD_no _
  have h3 : okD (k + 2) (eCn t.2.2) = true := okD_cnk _
  simp only [okL, h1, h2, h3, Bool.and_self]
theorem ne_nil_snoc (xs : List Dt) (x : Dt) (h : okD 40 (.list (xs ++ [x])) = true) : dNe (.list (xs ++ [x])) (.list []) = some (.bool true) := by
  have h0 : okD 40 (.list []) = true := rfl
  rw [dNe_ok h h0]
  cases xs <;> simp [PyData.eqv, PyData.eqvAll]
theorem lfree_pl (p : Pl) : lfree (ePl p) = true := by
  have h : ∀ l : List Int, lfree (eL l) = true := fun l => lfreeL_map PyData.int (fun _ => rfl) l
  have h3 : lfree (eO p.2.2) = true := by cases p.2.2 <;> rfl
  show (lfree (eL p.1) && (lfree (eL p.2.1) && (lfree (eO p.2.2) && true))) = true
  rw [h, h, h3]; rfl
theorem dk_place_ok (h3 : 0 ≤ room) (h5 : room ≤ 5) (hr : RuOk r) (hj : JobsOk past) (hl : past.length ≤ 1000) : G_Desk_place (frzF (dkS room r past undone)) = some (ePl (goM room r p0 past)) := by
  have hrun := run_ok h3 h5 hr hj hl
  have hneg : dNeg (.int 1) = some (.int (-1)) := rfl
  unfold G_Desk_place gSetRet gCall
  rw [gF3]
  dsimp only
  rw [hrun]
  dsimp only
  rcases List.eq_nil_or_concat past with rfl | ⟨q, x, rfl⟩
  · have d0 : dNe (.list []) (.list []) = some (.bool false) := rfl
    have e0 : (runM room r p0 []).map eTk = [] := rfl
    rw [e0]
    have hb := begun_ok
    wp_walk using d0, hb
    rfl
  · rw [List.concat_eq_append, runM_snoc, List.map_append, List.map_cons, List.map_nil, goM_snoc]
    have ok : okD 40 (.list ((runM room r p0 q).map eTk ++ [eTk (tickM room r (goM room r p0 q) x)])) = true := by
      have := okD_list (okL_map (k := 39) eTk (runM room r p0 q ++ [tickM room r (goM room r p0 q) x]) fun t _ => okD_tk t)
      rwa [List.map_append] at this
    have d0 := ne_nil_snoc _ _ ok
    have d1 : dIx (.list ((runM room r p0 q).map eTk ++ [eTk (tickM room r (goM room r p0 q) x)])) (.int (-1)) = some (eTk (tickM room r (goM room r p0 q) x)) := atI_last _ _
    have d2 : dIx (eTk (tickM room r (goM room r p0 q) x)) (.int 0) = some (ePl (placeM room r (goM room r p0 q) x)) := atI_0 _ _
    simp only [retD, sRet, eIf, tVal, eOp, eVar, eNew, nLst, aD, ims, aNil, eUn, eC, List.getElem?_cons_succ, List.getElem?_cons_zero, List.length_nil, Nat.zero_le, if_true, d0, hneg, d1, d2]
theorem dk_works_ok (h3 : 0 ≤ room) (h5 : room ≤ 5) (hr : RuOk r) (hj : JobsOk past) (hl : past.length ≤ 1000) : G_Desk_works (frzF (dkS room r past undone)) = some (eCn (worksM (goM room r p0 past))) := by
  have hp := dk_place_ok (undone := undone) h3 h5 hr hj hl
  unfold G_Desk_works gCall gCons gNil gMeth
  rw [lk_place, if_pos rfl, hp]
  exact works_of_ok _
theorem cut_two (a b c : Dt) : cutD [a, b, c] none (some 2) = [a, b] := by
  unfold cutD HT.sIx
  simp
theorem dk_lines_ok (h3 : 0 ≤ room) (h5 : room ≤ 5) (hr : RuOk r) (hj : JobsOk past) (hl : past.length ≤ 1000) : G_Desk_lines (frzF (dkS room r past undone)) = some (.tuple [eL (goM room r p0 past).1, eL (goM room r p0 past).2.1]) := by
  have hp := dk_place_ok (undone := undone) h3 h5 hr hj hl
  unfold G_Desk_lines gCut gMeth
  rw [lk_place, if_pos rfl, hp]
  show some (PyData.tuple (cutD [eL (goM room r p0 past).1, eL (goM room r p0 past).2.1, eO (goM room r p0 past).2.2] none (some 2))) = _
  rw [cut_two]
theorem dk_jobs_ok : G_Desk_jobs (frzF (dkS room r past undone)) = some (past.map PyData.int) := by
  unfold G_Desk_jobs gSeq gFld
  rw [lk_past]
theorem dk_len_ok : G_Desk___len__ (frzF (dkS room r past undone)) = some (.int (past.length : Int)) := by
  unfold G_Desk___len__ gLen gFld
  rw [lk_past]
  simp
/-! ### a desk in a name -/
theorem ob_dk {env : Nv} {i : Nat} {io : Bool} {a b : Dt} {p u : List Dt} {m : Str} (h : env[i]? = some (some (.ob io "Desk" (dkF a b p u)))) (hm : (dkF a b p u).lookup m = none) : obAt env i "Desk" m = some (io, dkF a b p u) := by
  unfold obAt
  rw [h]
  show (if _ ∧ _ then _ else _) = _
  rw [if_pos ⟨rfl, hm⟩]
section
variable (h3 : 0 ≤ room) (h5 : room ≤ 5) (hr : RuOk r) (hj : JobsOk past)
include h3 h5 hr hj
theorem e_tick {env : Nv} {i : Nat} {io : Bool} {f : AF} {j : Int} (hl : past.length < 40) (j0 : 0 ≤ j) (j3 : j ≤ 3) (h : env[i]? = some (some (.ob io "Desk" (dkS room r past undone)))) (hf : aD f env = some ([.int j], env)) :
    eMethM "Desk" "tick" i G_Desk_tick f env = some (eNo (noteM room r (goM room r p0 past) j), env.set i (some (.ob io "Desk" (dkS room r (past ++ [j]) [])))) := by
  unfold eMethM
  rw [ob_dk h (dk_no _ _ _ _).1]
  dsimp only
  rw [hf]
  dsimp only
  rw [ob_dk h (dk_no _ _ _ _).1]
  dsimp only
  rw [dk_tick_ok h3 h5 hr hj hl j0 j3]
theorem e_works {env : Nv} {i : Nat} {io : Bool} (hl : past.length ≤ 1000) (h : env[i]? = some (some (.ob io "Desk" (dkS room r past undone)))) : eMethB "Desk" "works" i G_Desk_works env = some (eCn (worksM (goM room r p0 past)), env) := by
  unfold eMethB
  rw [ob_dk h (dk_no _ _ _ _).2.2.2.1]
  dsimp only
  rw [dk_works_ok h3 h5 hr hj hl]
  exact if_pos rfl
theorem e_lines {env : Nv} {i : Nat} {io : Bool} (hl : past.length ≤ 1000) (h : env[i]? = some (some (.ob io "Desk" (dkS room r past undone)))) : eMethB "Desk" "lines" i G_Desk_lines env = some (.tuple [eL (goM room r p0 past).1, eL (goM room r p0 past).2.1], env) := by
  unfold eMethB
  rw [ob_dk h (dk_no _ _ _ _).2.2.2.2.1]
  dsimp only
  rw [dk_lines_ok h3 h5 hr hj hl]
  refine if_pos ?_
  have h : ∀ l : List Int, lfree (eL l) = true := fun l => lfreeL_map PyData.int (fun _ => rfl) l
  show (lfree (eL _) && (lfree (eL _) && true)) = true
  rw [h, h]; rfl
theorem e_notes {env : Nv} {i : Nat} {io : Bool} (hl : past.length ≤ 1000) (h : env[i]? = some (some (.ob io "Desk" (dkS room r past undone)))) : nMethB "Desk" "notes" i G_Desk_notes env = some ((notesM room r past).map eNo, env) := by
  unfold nMethB
  rw [ob_dk h (dk_no _ _ _ _).2.2.1]
  dsimp only
  rw [dk_notes_ok h3 h5 hr hj hl]
  exact if_pos (lfreeL_map eNo lfree_no _)
omit h3 h5 hr hj in
theorem e_jobs {env : Nv} {i : Nat} {io : Bool} (h : env[i]? = some (some (.ob io "Desk" (dkS room r past undone)))) : nMethB "Desk" "jobs" i G_Desk_jobs env = some (past.map PyData.int, env) := by
  unfold nMethB
  rw [ob_dk h (dk_no _ _ _ _).2.1]
  dsimp only
  rw [dk_jobs_ok]
  exact if_pos (lfreeL_map PyData.int (fun _ => rfl) _)
omit h3 h5 hr hj in
theorem e_len {env : Nv} {i : Nat} {io : Bool} (h : env[i]? = some (some (.ob io "Desk" (dkS room r past undone)))) : eMethB "Desk" "__len__" i G_Desk___len__ env = some (.int (past.length : Int), env) := by
  unfold eMethB
  rw [ob_dk h (dk_no _ _ _ _).2.2.2.2.2]
  dsimp only
  rw [dk_len_ok]
  exact if_pos rfl
end
end
/-! a line is the end of the jobs that joined it, its first reduced -/
def Sfx (J l : List Int) : Prop := l = [] ∨ ∃ pre x y tl, J = pre ++ x :: tl ∧ l = y :: tl ∧ 1 ≤ y ∧ y ≤ x ∧ ∀ t ∈ tl, 1 ≤ t
theorem Sfx.worked {J l : List Int} (h : Sfx J l) : Sfx J (workedM l) := by
  rcases h with rfl | ⟨pre, x, y, tl, rfl, rfl, h1, h2, h3⟩
  · exact .inl rfl
  · show Sfx _ (if y = 1 then tl else (y - 1) :: tl)
    by_cases hy : y = 1
    · rw [if_pos hy]
      cases tl with
      | nil => exact .inl rfl
      | cons t tl => exact .inr ⟨pre ++ [x], t, t, tl, by simp, rfl, h3 t List.mem_cons_self, Int.le_refl _, fun s hs => h3 s (List.mem_cons_of_mem _ hs)⟩
    · rw [if_neg hy]
      exact .inr ⟨pre, x, y - 1, tl, rfl, rfl, by omega, by omega, h3⟩
theorem Sfx.join {J l : List Int} (h : Sfx J l) {j : Int} (hj : 1 ≤ j) : Sfx (J ++ [j]) (l ++ [j]) := by
  rcases h with rfl | ⟨pre, x, y, tl, rfl, rfl, h1, h2, h3⟩
  · exact .inr ⟨J, j, j, [], rfl, rfl, hj, Int.le_refl _, fun t ht => nomatch ht⟩
  · refine .inr ⟨pre, x, y, tl ++ [j], by simp, by simp, h1, h2, fun t ht => ?_⟩
    rcases List.mem_append.mp ht with q | q
    · exact h3 t q
    · rw [List.mem_singleton.mp q]; exact hj
/-- what the law asks of a line -/
theorem Sfx.asks {J l : List Int} (h : Sfx J l) : l.length ≤ J.length ∧ (0 : Int) ∉ l ∧ l.tail = (J.drop (J.length - l.length)).tail ∧ (∀ y r, l = y :: r → ∃ x s, J.drop (J.length - l.length) = x :: s ∧ y ≤ x) := by
  rcases h with rfl | ⟨pre, x, y, tl, rfl, rfl, h1, h2, h3⟩
  · exact ⟨by simp, by simp, by simp, fun y r e => nomatch e⟩
  · have e : (pre ++ x :: tl).drop ((pre ++ x :: tl).length - (y :: tl).length) = x :: tl := by
      rw [show (pre ++ x :: tl).length - (y :: tl).length = pre.length by simp]
      simp
    refine ⟨by simp, fun q => ?_, by rw [e]; rfl, fun y' r q => ?_⟩
    · rcases List.mem_cons.mp q with q | q
      · omega
      · have := h3 0 q; omega
    · cases q
      exact ⟨x, tl, e, h2⟩
/-- the jobs that have joined, behind one more tick -/
def joinJ (room : Int) (r : Ru) (p : Pl) (j : Int) (J : List Int × List Int) : List Int × List Int := match noteM room r p j with
  | some (h, false) => if h = 0 then (J.1 ++ [j], J.2) else (J.1, J.2 ++ [j])
  | _ => J
theorem sfx_step {room : Int} {r : Ru} {p : Pl} {j : Int} {J : List Int × List Int} (h1 : Sfx J.1 p.1) (h2 : Sfx J.2 p.2.1) : Sfx (joinJ room r p j J).1 (placeM room r p j).1 ∧ Sfx (joinJ room r p j J).2 (placeM room r p j).2.1 := by
  unfold placeM linesM joinJ noteM
  by_cases hj : 0 < j
  · simp only [if_pos hj]
    cases hl : isLost room r p j with
    | true =>
      simp only [if_true]
      exact ⟨h1.worked, h2.worked⟩
    | false =>
      simp only [Bool.false_eq_true, if_false]
      unfold joinM
      by_cases hh : namedM r p j = 0
      · simp only [if_pos hh]
        exact ⟨(h1.join (by omega)).worked, h2.worked⟩
      · simp only [if_neg hh]
        exact ⟨h1.worked, (h2.join (by omega)).worked⟩
  · simp only [if_neg hj]
    exact ⟨h1.worked, h2.worked⟩
theorem dIn_zero {l : List Int} (h : (0 : Int) ∉ l) : dIn (.int 0) (eL l) = some (.bool false) := by
  show (if okD 40 (.int 0) && okL 40 (l.map PyData.int) then some (PyData.bool ((l.map PyData.int).any fun y => y.eqv (PyData.int 0))) else none) = _
  rw [if_pos (by rw [okL_ints]; rfl)]
  congr 2
  rw [List.any_eq_false]
  intro y hy
  obtain ⟨x, hx, rfl⟩ := List.mem_map.mp hy
  rw [eqv_int]
  simp
  intro q
  exact h (q ▸ hx)
theorem cut_dropN (xs : List Dt) (n : Nat) : cutD xs (some (n : Int)) none = xs.drop n := by
  have := sl_drop xs n
  have e : some (PyData.list (cutD xs (some (n : Int)) none)) = some (PyData.list (xs.drop n)) := this
  injection e with e
  injection e
theorem sl_tailE (l : List Int) : dSl (eL l) (some 1) none = some (eL l.tail) := by
  cases l with
  | nil => rfl
  | cons x r => exact sl_tail _ _
theorem sl_tailL (l : List Int) : dSl (.list (l.map PyData.int)) (some 1) none = some (.list (l.tail.map PyData.int)) := by
  have := sl_drop (l.map PyData.int) 1
  rw [show (l.map PyData.int).drop 1 = l.tail.map PyData.int by rw [List.drop_one, List.map_tail]] at this
  exact this
theorem seqOf_eL (l : List Int) : seqOf [eL l] = some (l.map PyData.int) := rfl
theorem dLen_eL (l : List Int) : dLen [eL l] = some (.int (l.length : Int)) := by
  show some (PyData.int ((l.map PyData.int).length : Int)) = _
  rw [List.length_map]
theorem itR_ok {f : AF} {env e : Nv} {j : Int} (h : aD f env = some ([.int j], e)) (h0 : 0 ≤ j) (h1 : j ≤ 1000) : itR f env = some (rangeD j, e) := by
  unfold itR
  rw [h]
  exact if_pos ⟨by omega, by omega⟩
theorem for_ok {it : NF} {g : GF} {b : SF} {env e : Nv} {ds : List Dt} {o : Option Out} (h1 : it env = some (ds, e)) (h2 : forD g b ds e = o) : sFor it g b env = o := by
  unfold sFor
  rw [h1]
  exact h2
theorem seq_nx {f g : SF} {env e1 : Nv} (h : f env = some (.nx e1)) : sSeq f g env = g e1 := by
  unfold sSeq
  rw [h]
theorem lend_ok {i j l m : Nat} {f1 : EF} {g : SF} {env e1 e3 : Nv} {d1 : Dt} {io : Bool} {dss : List (List Dt)} {k : Int} {n : Nat} {ds ds' : List Dt} (h1 : f1 env = some (d1, e1)) (ho : olAt e1 i = some (io, dss)) (hv : valAt e1 m = some (.int k)) (hn : ixN dss.length k = some n) (hd : dss[n]? = some ds) (jl : j < e1.length)
    (hg : g ((((e1.set l (some (.im d1))).set j none).set i none).set j (some (.ow false ds))) = some (.nx e3)) (h3 : owAt e3 j = some (false, ds')) (hc : (offAt e3 i && e3.all noIo) = true) : sLend i j l m f1 g env = some (.nx ((e3.set j none).set i (some (.ol io (dss.set n ds'))))) := by
  unfold sLend
  simp only [h1, ho, hv, hn, hd, if_pos jl, hg, h3, if_pos hc]
section
variable {room : Int} {r : Ru} {past : List Int} (h3 : 3 ≤ room) (h5 : room ≤ 5) (hr : RuOk r) (hp : JobsOk past) (hl : past.length ≤ 40)
include h3 h5 hr hp hl
theorem rest_ok {ns : List Int} {t : List Dt} {x4 x7 x8 : Dt} {hand : Int} {J l : List Int} (hs : Sfx J l) {x12 : Option Sl} :
    (sSeq (sIf (tOrF (tVal (eOp dGt (eCall dLen (aI (eVar 10) aNil)) (eLenV 11))) (tVal (eOp dIn (eC (.int 0)) (eVar 10)))) (sRet (eC (.bool false))) sSkip) (sSeq (sNew 12 (nSlV 11 (oAt (eOp dSub (eLenV 11) (eCall dLen (aI (eVar 10) aNil)))))) (sSeq (sIf (tOrF (tVal (eOp dNe (eNew (nCall seqOf (aI (eSl (eVar 10) (oAt (eC (.int 1))) oNo) aNil))) (eSl (eVar 12) (oAt (eC (.int 1))) oNo))) (tAndF (tVal (eOp dNe (eVar 10) (eTup aNil))) (tVal (eOp dGt (eOp dIx (eVar 10) (eC (.int 0))) (eOp dIx (eVar 12) (eC (.int 0))))))) (sRet (eC (.bool false))) sSkip) sSkip))) [some (.im (scr ns)), some (.ow false t), some (.im (.int room)), some (.im (eRu r)), some (.im x4), some (.ob false "Desk" (dkS room r past [])), none, some (.im x7), some (.im x8), some (.im (.int hand)), some (.im (eL l)), some (.ow false (J.map PyData.int)), x12] = some (.nx [some (.im (scr ns)), some (.ow false t), some (.im (.int room)), some (.im (eRu r)), some (.im x4), some (.ob false "Desk" (dkS room r past [])), none, some (.im x7), some (.im x8), some (.im (.int hand)), some (.im (eL l)), some (.ow false (J.map PyData.int)), some (.im (.list ((J.drop (J.length - l.length)).map PyData.int)))]) := by
  obtain ⟨a1, a2, a3, a4⟩ := hs.asks
  have dl := dLen_eL l
  have dJ : dLen [.list (J.map PyData.int)] = some (.int (J.length : Int)) := by rw [dLen_list, List.length_map]
  have dg : dGt (.int (l.length : Int)) (.int (J.length : Int)) = some (.bool false) := by rw [dGt_int, decide_eq_false (by omega)]
  have d0 := dIn_zero a2
  have ds : dSub (.int (J.length : Int)) (.int (l.length : Int)) = some (.int ((J.length - l.length : Nat) : Int)) := by rw [dSub_int]; congr 2; omega
  have cu := cut_dropN (J.map PyData.int) (J.length - l.length)
  rw [← List.map_drop] at cu
  have t1 := sl_tailE l
  have t2 := sl_tailL (J.drop (J.length - l.length))
  have q1 := seqOf_eL l.tail
  rw [a3] at q1 t1
  have dn := dNe_self (okD_ints (k := 39) (J.drop (J.length - l.length)).tail)
  have s1 : (sIf (tOrF (tVal (eOp dGt (eCall dLen (aI (eVar 10) aNil)) (eLenV 11))) (tVal (eOp dIn (eC (.int 0)) (eVar 10)))) (sRet (eC (.bool false))) sSkip) [some (.im (scr ns)), some (.ow false t), some (.im (.int room)), some (.im (eRu r)), some (.im x4), some (.ob false "Desk" (dkS room r past [])), none, some (.im x7), some (.im x8), some (.im (.int hand)), some (.im (eL l)), some (.ow false (J.map PyData.int)), x12] = some (.nx [some (.im (scr ns)), some (.ow false t), some (.im (.int room)), some (.im (eRu r)), some (.im x4), some (.ob false "Desk" (dkS room r past [])), none, some (.im x7), some (.im x8), some (.im (.int hand)), some (.im (eL l)), some (.ow false (J.map PyData.int)), x12]) := by
    generalize eL l = L0 at *
    generalize J.map PyData.int = JJ at *
    wp_walk using eLenV, dl, dJ, dg, d0
  have s2 : (sNew 12 (nSlV 11 (oAt (eOp dSub (eLenV 11) (eCall dLen (aI (eVar 10) aNil)))))) [some (.im (scr ns)), some (.ow false t), some (.im (.int room)), some (.im (eRu r)), some (.im x4), some (.ob false "Desk" (dkS room r past [])), none, some (.im x7), some (.im x8), some (.im (.int hand)), some (.im (eL l)), some (.ow false (J.map PyData.int)), x12] = some (.nx [some (.im (scr ns)), some (.ow false t), some (.im (.int room)), some (.im (eRu r)), some (.im x4), some (.ob false "Desk" (dkS room r past [])), none, some (.im x7), some (.im x8), some (.im (.int hand)), some (.im (eL l)), some (.ow false (J.map PyData.int)), some (.ow false ((J.drop (J.length - l.length)).map PyData.int))]) := by
    generalize eL l = L0 at *
    generalize J.map PyData.int = JJ at *
    generalize (J.drop (J.length - l.length)).map PyData.int = KK at *
    wp_walk using eLenV, nSlV, dl, dJ, ds, cu
  rw [seq_nx s1, seq_nx s2]
  have c3 : ∃ b1 b2, dNe (eL l) (.tuple []) = some (.bool b1) ∧ (b1 = true → ∃ y x, dIx (eL l) (.int 0) = some (.int y) ∧ dIx (.list ((J.drop (J.length - l.length)).map PyData.int)) (.int 0) = some (.int x) ∧ dGt (.int y) (.int x) = some (.bool b2)) ∧ b2 = false := by
    cases l with
    | nil => exact ⟨false, false, rfl, (fun q => nomatch q), rfl⟩
    | cons y r' =>
      obtain ⟨x, s', e, hyx⟩ := a4 y r' rfl
      refine ⟨true, false, ?_, fun _ => ⟨y, x, atI_0 _ _, by rw [e]; exact atI_0 _ _, by rw [dGt_int, decide_eq_false (by omega)]⟩, rfl⟩
      have ok : okD 40 (eL (y :: r')) = true := okD_tuple (okL_ints 39 (y :: r'))
      rw [dNe_ok ok rfl]
      rfl
  obtain ⟨b1, b2, c1, c2, rfl⟩ := c3
  generalize eL l = L0 at *
  generalize eL (J.drop (J.length - l.length)).tail = L1 at *
  generalize J.map PyData.int = JJ at *
  generalize (J.drop (J.length - l.length)).map PyData.int = KK at *
  generalize (J.drop (J.length - l.length)).tail.map PyData.int = K1 at *
  cases b1 with
  | false => wp_walk using t1, t2, q1, dn, c1
  | true =>
    obtain ⟨y, x, e1, e2, e3⟩ := c2 rfl
    wp_walk using t1, t2, q1, dn, c1, e1, e2, e3
theorem l1_ok {ns : List Int} {t : List Dt} {x4 x7 x8 : Dt} {hand : Int} {J1 J2 : List Int} (h0 : hand = 0 ∨ hand = 1) (s1 : Sfx J1 (goM room r p0 past).1) (s2 : Sfx J2 (goM room r p0 past).2.1) {x10 x11 x12 : Option Sl} :
    ∃ y10 y12, B_law_l1 [some (.im (scr ns)), some (.ow false t), some (.im (.int room)), some (.im (eRu r)), some (.im x4), some (.ob false "Desk" (dkS room r past [])), some (.ol false [J1.map PyData.int, J2.map PyData.int]), some (.im x7), some (.im x8), some (.im (.int hand)), x10, x11, x12] = some (.nx [some (.im (scr ns)), some (.ow false t), some (.im (.int room)), some (.im (eRu r)), some (.im x4), some (.ob false "Desk" (dkS room r past [])), some (.ol false [J1.map PyData.int, J2.map PyData.int]), some (.im x7), some (.im x8), some (.im (.int hand)), y10, none, y12]) := by
  have el := e_lines (room := room) (r := r) (past := past) (undone := []) (env := [some (.im (scr ns)), some (.ow false t), some (.im (.int room)), some (.im (eRu r)), some (.im x4), some (.ob false "Desk" (dkS room r past [])), some (.ol false [J1.map PyData.int, J2.map PyData.int]), some (.im x7), some (.im x8), some (.im (.int hand)), x10, x11, x12]) (i := 5) (io := false) (by omega) h5 hr hp (by omega) rfl
  generalize (goM room r p0 past) = P at *
  rcases h0 with rfl | rfl
  · have d : dIx (.tuple [eL P.1, eL P.2.1]) (.int 0) = some (eL P.1) := atI_0 _ _
    have ro := rest_ok h3 h5 hr hp hl (ns := ns) (t := t) (x4 := x4) (x7 := x7) (x8 := x8) (hand := 0) s1 (x12 := x12)
    refine ⟨some (.im (eL P.1)), some (.im (.list ((J1.drop (J1.length - (P.1).length)).map PyData.int))), ?_⟩
    unfold B_law_l1
    have e1 : eOp dIx (eMethB "Desk" "lines" 5 G_Desk_lines) (eVar 9) [some (.im (scr ns)), some (.ow false t), some (.im (.int room)), some (.im (eRu r)), some (.im x4), some (.ob false "Desk" (dkS room r past [])), some (.ol false [J1.map PyData.int, J2.map PyData.int]), some (.im x7), some (.im x8), some (.im (.int 0)), x10, x11, x12] = some (eL P.1, [some (.im (scr ns)), some (.ow false t), some (.im (.int room)), some (.im (eRu r)), some (.im x4), some (.ob false "Desk" (dkS room r past [])), some (.ol false [J1.map PyData.int, J2.map PyData.int]), some (.im x7), some (.im x8), some (.im (.int 0)), x10, x11, x12]) := by
      unfold eOp
      rw [el]
      simp only [eVar, List.getElem?_cons_zero, List.getElem?_cons_succ, d]
    exact lend_ok (i := 6) (j := 11) (l := 10) (m := 9) e1 rfl rfl rfl rfl (show 11 < 13 by decide) ro rfl rfl
  · have d : dIx (.tuple [eL P.1, eL P.2.1]) (.int 1) = some (eL P.2.1) := atI_1 _ _ _
    have ro := rest_ok h3 h5 hr hp hl (ns := ns) (t := t) (x4 := x4) (x7 := x7) (x8 := x8) (hand := 1) s2 (x12 := x12)
    refine ⟨some (.im (eL P.2.1)), some (.im (.list ((J2.drop (J2.length - (P.2.1).length)).map PyData.int))), ?_⟩
    unfold B_law_l1
    have e1 : eOp dIx (eMethB "Desk" "lines" 5 G_Desk_lines) (eVar 9) [some (.im (scr ns)), some (.ow false t), some (.im (.int room)), some (.im (eRu r)), some (.im x4), some (.ob false "Desk" (dkS room r past [])), some (.ol false [J1.map PyData.int, J2.map PyData.int]), some (.im x7), some (.im x8), some (.im (.int 1)), x10, x11, x12] = some (eL P.2.1, [some (.im (scr ns)), some (.ow false t), some (.im (.int room)), some (.im (eRu r)), some (.im x4), some (.ob false "Desk" (dkS room r past [])), some (.ol false [J1.map PyData.int, J2.map PyData.int]), some (.im x7), some (.im x8), some (.im (.int 1)), x10, x11, x12]) := by
      unfold eOp
      rw [el]
      simp only [eVar, List.getElem?_cons_zero, List.getElem?_cons_succ, d]
    exact lend_ok (i := 6) (j := 11) (l := 10) (m := 9) e1 rfl rfl rfl rfl (show 11 < 13 by decide) ro rfl rfl
end
abbrev ev (ns : List Int) (t : List Dt) (room : Int) (r : Ru) (js past : List Int) (J : List Int × List Int) (x7 x8 x9 x10 x11 x12 : Option Sl) : Nv := [some (.im (scr ns)), some (.ow false t), some (.im (.int room)), some (.im (eRu r)), some (.im (.list (js.map PyData.int))), some (.ob false "Desk" (dkS room r past [])), some (.ol false [J.1.map PyData.int, J.2.map PyData.int]), x7, x8, x9, x10, x11, x12]
theorem join_len (room : Int) (r : Ru) (p : Pl) (j : Int) (J : List Int × List Int) : (joinJ room r p j J).1.length + (joinJ room r p j J).2.length ≤ J.1.length + J.2.length + 1 := by
  unfold joinJ
  split
  · split <;> simp <;> omega
  · omega
theorem l2_ok {ns : List Int} {t : List Dt} {room : Int} {r : Ru} {js pre : List Int} {j : Int} {J : List Int × List Int} (h3 : 3 ≤ room) (h5 : room ≤ 5) (hr : RuOk r) (hp : JobsOk pre) (hl : pre.length < 40) (j0 : 0 ≤ j) (j3 : j ≤ 3) (f1 : Sfx J.1 (goM room r p0 pre).1) (f2 : Sfx J.2 (goM room r p0 pre).2.1) (hJ : J.1.length + J.2.length ≤ pre.length) {x9 x10 x11 x12 : Option Sl} :
    ∃ J' : List Int × List Int, ∃ y9 y10 y11 y12, B_law_l2 (ev ns t room r js pre J (some (.im (.int j))) (some (.im (eNo (noteM room r (goM room r p0 pre) j)))) x9 x10 x11 x12) = some (.nx (ev ns t room r js (pre ++ [j]) J' (some (.im (.int j))) (some (.im (eNo (noteM room r (goM room r p0 pre) j)))) y9 y10 y11 y12)) ∧ Sfx J'.1 (goM room r p0 (pre ++ [j])).1 ∧ Sfx J'.2 (goM room r p0 (pre ++ [j])).2.1 ∧ J'.1.length + J'.2.length ≤ (pre ++ [j]).length := by
  have tk := e_tick (undone := []) (by omega) h5 hr hp (env := ev ns t room r js pre J (some (.im (.int j))) (some (.im (eNo (noteM room r (goM room r p0 pre) j)))) x9 x10 x11 x12) (i := 5) (io := false) (f := aI (eVar 7) aNil) hl j0 j3 rfl rfl
  have s0 : (sExpr (eMethM "Desk" "tick" 5 G_Desk_tick (aI (eVar 7) aNil))) (ev ns t room r js pre J (some (.im (.int j))) (some (.im (eNo (noteM room r (goM room r p0 pre) j)))) x9 x10 x11 x12) = some (.nx (ev ns t room r js (pre ++ [j]) J (some (.im (.int j))) (some (.im (eNo (noteM room r (goM room r p0 pre) j)))) x9 x10 x11 x12)) := by
    unfold sExpr
    rw [tk]
    rfl
  obtain ⟨g1, g2⟩ := sfx_step (room := room) (r := r) (j := j) f1 f2
  have gl := join_len room r (goM room r p0 pre) j J
  have hpl := goM_ok (by omega) hr hp (p0_ok (room := room) (by omega))
  have s1 : (sIf (tAndF (tVal (eOp dIsn (eVar 8) (eC .none))) (tNotF (tVal (eOp dIx (eVar 8) (eC (.int 1)))))) (sAppL 6 (qOp dIx (qVar 8) (qC (.int 0))) (qVar 7)) sSkip) (ev ns t room r js (pre ++ [j]) J (some (.im (.int j))) (some (.im (eNo (noteM room r (goM room r p0 pre) j)))) x9 x10 x11 x12) = some (.nx (ev ns t room r js (pre ++ [j]) (joinJ room r (goM room r p0 pre) j J) (some (.im (.int j))) (some (.im (eNo (noteM room r (goM room r p0 pre) j)))) x9 x10 x11 x12)) := by
    have hn := namedM_ok (r := r) (p := goM room r p0 pre) (job := j) hr hpl.la
    generalize goM room r p0 pre = P at *
    generalize hso : (Sl.ob false "Desk" (dkS room r (pre ++ [j]) [])) = so
    have d1 := dIsn_eNo (noteM room r P j)
    have l1 : J.1.length < 10000000 := by omega
    have l2 : J.2.length < 10000000 := by omega
    by_cases hj : 0 < j
    · have en : noteM room r P j = some (namedM r P j, isLost room r P j) := if_pos hj
      have i1 : dIx (eNo (noteM room r P j)) (.int 1) = some (.bool (isLost room r P j)) := by rw [en]; exact atI_1 _ _ _
      have i0 : dIx (eNo (noteM room r P j)) (.int 0) = some (.int (namedM r P j)) := by rw [en]; exact atI_0 _ _
      have hs : (noteM room r P j).isSome = true := by rw [en]; rfl
      rw [hs] at d1
      have ej : joinJ room r P j J = if isLost room r P j = true then J else if namedM r P j = 0 then (J.1 ++ [j], J.2) else (J.1, J.2 ++ [j]) := by
        unfold joinJ
        rw [en]
        cases isLost room r P j <;> rfl
      rw [ej]
      generalize eNo (noteM room r P j) = N0 at *
      generalize isLost room r P j = b at *
      cases b with
      | true =>
        simp only [if_true]
        wp_walk using ev, hso, d1, i1
      | false =>
        simp only [Bool.false_eq_true, if_false]
        rcases hn with e | e
        · rw [e] at i0 ⊢
          simp only [if_true]
          wp_walk using ev, hso, d1, i1, sAppL, olAt, qOp, qVar, qC, i0, List.length_map, l1, List.map_append
        · rw [e] at i0 ⊢
          rw [if_neg (by decide)]
          wp_walk using ev, hso, d1, i1, sAppL, olAt, qOp, qVar, qC, i0, List.length_map, l2, List.map_append
    · have en : noteM room r P j = none := if_neg hj
      have ej : joinJ room r P j J = J := by unfold joinJ; rw [en]
      rw [ej, en]
      have d2 : dIsn (eNo none) .none = some (.bool false) := rfl
      generalize eNo none = N0 at *
      wp_walk using ev, hso, d2
  have hp' : JobsOk (pre ++ [j]) := fun z hz => by
    rcases List.mem_append.mp hz with q | q
    · exact hp z q
    · rw [List.mem_singleton.mp q]; exact ⟨j0, j3⟩
  have hl' : (pre ++ [j]).length ≤ 40 := by simp; omega
  rw [← goM_snoc] at g1 g2
  obtain ⟨EZ, k1, y9, y10, y11, y12, hEZ⟩ := forD_all (g := gNm 9) (b := B_law_l1) PyData.int (fun _ env => ∃ y9 y10 y11 y12, env = ev ns t room r js (pre ++ [j]) (joinJ room r (goM room r p0 pre) j J) (some (.im (.int j))) (some (.im (eNo (noteM room r (goM room r p0 pre) j)))) y9 y10 y11 y12) [0, 1]
    (ev ns t room r js (pre ++ [j]) (joinJ room r (goM room r p0 pre) j J) (some (.im (.int j))) (some (.im (eNo (noteM room r (goM room r p0 pre) j)))) x9 x10 x11 x12) ⟨x9, x10, x11, x12, rfl⟩ (by
    rintro a x b env hs ⟨y9, y10, y11, y12, rfl⟩
    have hx : x = 0 ∨ x = 1 := by
      have : x ∈ [(0 : Int), 1] := by rw [hs]; simp
      simpa using this
    obtain ⟨z10, z12, hb⟩ := l1_ok h3 h5 hr hp' hl' (ns := ns) (t := t) (x4 := .list (js.map PyData.int)) (x7 := .int j) (x8 := eNo (noteM room r (goM room r p0 pre) j)) hx g1 g2 (x10 := y10) (x11 := y11) (x12 := y12)
    exact ⟨_, _, rfl, .inl hb, some (.im (.int x)), z10, none, z12, rfl⟩)
  subst hEZ
  refine ⟨joinJ room r (goM room r p0 pre) j J, y9, y10, y11, y12, ?_, g1, g2, by simp; omega⟩
  unfold B_law_l2
  rw [seq_nx s0, seq_nx s1]
  exact for_ok rfl k1
def tr (room : Int) (r : Ru) : Pl → List Int → List (Int × No)
  | _, [] => []
  | p, j :: js => (j, noteM room r p j) :: tr room r (placeM room r p j) js
def eTr (x : Int × No) : Dt := .tuple [.int x.1, eNo x.2]
section
variable {room : Int} {r : Ru}
theorem tr_zip : ∀ (js : List Int) (p : Pl), zipD (js.map PyData.int) (((runM room r p js).map fun t => t.2.1).map eNo) = (tr room r p js).map eTr
  | [], p => rfl
  | j :: js, p => by
    show PyData.tuple [.int j, eNo (noteM room r p j)] :: zipD (js.map PyData.int) (((runM room r (placeM room r p j) js).map fun t => t.2.1).map eNo) = _
    rw [tr_zip js]
    rfl
theorem tr_fst : ∀ (js : List Int) (p : Pl), (tr room r p js).map (·.1) = js
  | [], p => rfl
  | a :: l, p => by show a :: (tr room r _ l).map (·.1) = _; rw [tr_fst l]
theorem tr_split : ∀ (pre : List (Int × No)) (p : Pl) (js : List Int) (x : Int × No) (post : List (Int × No)), tr room r p js = pre ++ x :: post → x.2 = noteM room r (goM room r p (pre.map (·.1))) x.1 ∧ js = pre.map (·.1) ++ x.1 :: post.map (·.1)
  | [], p, [], x, post, h => by cases h
  | [], p, j :: js, x, post, h => by
    have h' : (j, noteM room r p j) :: tr room r (placeM room r p j) js = x :: post := h
    injection h' with h1 h2
    subst h1
    refine ⟨rfl, ?_⟩
    rw [← h2]
    show j :: js = j :: (tr room r _ js).map (·.1)
    rw [tr_fst]
  | y :: pre, p, [], x, post, h => by cases h
  | y :: pre, p, j :: js, x, post, h => by
    have h' : (j, noteM room r p j) :: tr room r (placeM room r p j) js = y :: (pre ++ x :: post) := h
    injection h' with h1 h2
    obtain ⟨q1, q2⟩ := tr_split pre (placeM room r p j) js x post h2
    subst h1
    exact ⟨q1, by rw [q2]; rfl⟩
end
theorem e_lenB {room : Int} {r : Ru} {past undone : List Int} {env : Nv} {i : Nat} {io : Bool} (hl : past.length ≤ 1000) (h : env[i]? = some (some (.ob io "Desk" (dkS room r past undone)))) : eLenB "Desk" i G_Desk___len__ env = some (.int (past.length : Int), env) := by
  unfold eLenB
  rw [ob_dk h (dk_no _ _ _ _).2.2.2.2.2]
  dsimp only
  rw [dk_len_ok]
  exact if_pos ⟨by omega, by omega⟩
theorem fin_ok {A B : EF} {env : Nv} {x y : Dt} (hA : A env = some (x, env)) (hB : B env = some (y, env)) (hE : dEq x y = some (.bool true)) : retD (sRet (eOp dEq A B) env) = some (.bool true) := by
  wp_walk using hA, hB, hE
theorem law_true (ns : List Int) (hns : ns.length ≤ 63) : F_law [.list (ns.map PyData.int)] = some (.bool true) := by
  obtain ⟨room, t1, a1, a2, a3, ht1⟩ := room_spec (ns := ns) town0
  obtain ⟨r, t2, b1, hr, ht2⟩ := rule_spec (ns := ns) ht1
  obtain ⟨js, t3, c1, hj, hl, ht3⟩ := jobs_spec (ns := ns) (most := 30) (by omega) (by omega) ht2
  have h0 : 0 ≤ room := by omega
  have hin := dk_init_ok a2 a3 hr
  have na := notes_along_nts a2 a3 hr hj (by omega)
  have s0 : (sNew 1 (nLst (aI (eC (.int 0)) (aI (eC (.int 0)) aNil)))) [some (.im (scr ns)), none, none, none, none, none, none, none, none, none, none, none, none] = some (.nx [some (.im (scr ns)), some (.ow false [.int 0, .int 0]), none, none, none, none, none, none, none, none, none, none, none]) := rfl
  have s1 : (sPar [2, 3] (aI (eCallT 1 F__law_room (eVar 0) aNil) (aI (eCallT 1 F__law_rule (eVar 0) aNil) aNil))) [some (.im (scr ns)), some (.ow false [.int 0, .int 0]), none, none, none, none, none, none, none, none, none, none, none] = some (.nx [some (.im (scr ns)), some (.ow false t2), some (.im (.int room)), some (.im (eRu r)), none, none, none, none, none, none, none, none, none]) := by
    wp_walk using a1, b1
  have s2 : (sPar [4, 5] (aI (eCallT 1 F__law_jobs (eVar 0) (aI (eC (.int 30)) aNil)) (aB "Desk" (bMake G_Desk___init__ (aI (eVar 2) (aI (eVar 3) aNil))) aNil))) [some (.im (scr ns)), some (.ow false t2), some (.im (.int room)), some (.im (eRu r)), none, none, none, none, none, none, none, none, none] = some (.nx [some (.im (scr ns)), some (.ow false t3), some (.im (.int room)), some (.im (eRu r)), some (.im (.list (js.map PyData.int))), some (.ob false "Desk" (dkS room r [] [])), none, none, none, none, none, none, none]) := by
    wp_walk using aB, bMake, hin, c1
  have s3 : (sNil2 6) [some (.im (scr ns)), some (.ow false t3), some (.im (.int room)), some (.im (eRu r)), some (.im (.list (js.map PyData.int))), some (.ob false "Desk" (dkS room r [] [])), none, none, none, none, none, none, none] = some (.nx (ev ns t3 room r js [] ([], []) none none none none none none)) := rfl
  obtain ⟨EZ, k4, J, y7, y8, y9, y10, y11, y12, hEZ, -, -, -⟩ := forD_all (g := gTp (gsCons (gNm 7) (gsCons (gNm 8) gsNil))) (b := B_law_l2) eTr (fun pre env => ∃ J : List Int × List Int, ∃ y7 y8 y9 y10 y11 y12, env = ev ns t3 room r js (pre.map (·.1)) J y7 y8 y9 y10 y11 y12 ∧ Sfx J.1 (goM room r p0 (pre.map (·.1))).1 ∧ Sfx J.2 (goM room r p0 (pre.map (·.1))).2.1 ∧ J.1.length + J.2.length ≤ (pre.map (·.1)).length) (tr room r p0 js)
    (ev ns t3 room r js [] ([], []) none none none none none none) ⟨([], []), none, none, none, none, none, none, rfl, .inl rfl, .inl rfl, Nat.le_refl _⟩ (by
    rintro pre x post env hs ⟨J, y7, y8, y9, y10, y11, y12, rfl, f1, f2, f3⟩
    obtain ⟨q1, q2⟩ := tr_split pre p0 js x post hs
    have hx := hj x.1 (by rw [q2]; simp)
    have hpj : JobsOk (pre.map (·.1)) := fun z hz => hj z (by rw [q2]; exact List.mem_append_left _ hz)
    have hpl : (pre.map (·.1)).length < 40 := by
      have := congrArg List.length q2
      simp at this ⊢
      omega
    obtain ⟨J', z9, z10, z11, z12, hb, e1, e2, e3⟩ := l2_ok (ns := ns) (t := t3) (js := js) a2 a3 hr hpj hpl hx.1 hx.2 f1 f2 f3 (x9 := y9) (x10 := y10) (x11 := y11) (x12 := y12)
    rw [← q1] at hb
    have em : (pre ++ [x]).map (·.1) = pre.map (·.1) ++ [x.1] := by rw [List.map_append]; rfl
    refine ⟨_, _, rfl, .inl hb, J', some (.im (.int x.1)), some (.im (eNo x.2)), z9, z10, z11, z12, ?_⟩
    rw [em]
    exact ⟨rfl, e1, e2, e3⟩)
  rw [tr_fst] at hEZ
  subst hEZ
  have n4 : itZ (aI (eVar 4) (aI (eCall F_notes_along (aI (eVar 2) (aI (eVar 3) (aI (eVar 4) aNil)))) aNil)) (ev ns t3 room r js [] ([], []) none none none none none none) = some ((tr room r p0 js).map eTr, ev ns t3 room r js [] ([], []) none none none none none none) := by
    have z := tr_zip (room := room) (r := r) js p0
    have z' : zipD (js.map PyData.int) ((notesM room r js).map eNo) = (tr room r p0 js).map eTr := z
    rw [← z']
    generalize (Sl.ob false "Desk" (dkS room r [] [])) = so
    wp_walk using ev, na
  have s4 := for_ok n4 k4
  have p3 := e_lenB (env := ev ns t3 room r js js J y7 y8 y9 y10 y11 y12) (i := 5) (io := false) (past := js) (undone := []) (by omega) rfl
  have g3 : dLen [.list (js.map PyData.int)] = some (.int (js.length : Int)) := by rw [dLen_list, List.length_map]
  have g4 : dEq (.int (js.length : Int)) (.int (js.length : Int)) = some (.bool true) := dEq_self rfl
  have p4 : eCall dLen (aI (eVar 4) aNil) (ev ns t3 room r js js J y7 y8 y9 y10 y11 y12) = some (.int (js.length : Int), ev ns t3 room r js js J y7 y8 y9 y10 y11 y12) := by
    generalize (Sl.ob false "Desk" (dkS room r js [])) = so
    wp_walk using ev, g3
  show (if [(.list (ns.map PyData.int) : Dt)].length = 1 then retD (B_law _) else none) = _
  rw [if_pos (show [(.list (ns.map PyData.int) : Dt)].length = 1 from rfl)]
  show retD (B_law [some (.im (scr ns)), none, none, none, none, none, none, none, none, none, none, none, none]) = _
  unfold B_law
  rw [seq_nx s0, seq_nx s1, seq_nx s2, seq_nx s3, seq_nx s4]
  exact fin_ok p3 p4 g4
set_option maxHeartbeats 0 in
theorem all_mk {l : PySem.W.OpenLaw} {w : World} {K : PySem.W.Frag} {h : Heap} {mg : Str → Option Value} {fa : Addr} (KX : K.In h) (G : h.Ns mainGlobals mg) (hfa : mg "law" = some (.ref fa))
    {CD : Addr} (aC : PySem.W.nsIn K mainGlobals "Desk" = some (some (.ref CD))) (pgC : PySem.W.plainGet K CD Str.empty = true) (hdC : PySem.W.hasDictIn K CD = true) (poC : PySem.W.plainOver K CD = true) (saC : PySem.W.findIn K (.ref CD) "__setattr__" = some (some (.builtin "object.__setattr__"))) (mkC : PySem.W.makesIn K CD = true) (kcC : PySem.W.keepIn K (.ref CD) = true)
    (n0 : PySem.W.findIn K (.ref CD) "room" = some none)
    (n1 : PySem.W.findIn K (.ref CD) "rule" = some none)
    (n2 : PySem.W.findIn K (.ref CD) "past" = some none)
    (n3 : PySem.W.findIn K (.ref CD) "undone" = some none)
    {od0 an0 : Option Addr} {sl0 : Array (Option Value)} {f0 : Addr} {oc0 kV0 dc0 pm0 cd0 ct0 : Value}
    (a0 : PySem.W.nsIn K mainGlobals "is_int" = some (some (.ref f0))) (l0 : K.lookup f0 = some ⟨oc0, od0, .func (PySem.W.fnOf "is_int" "is_int" (defArgs (topS 11)) (defBody (topS 11)) (defScope (topS 11)) .none kV0 dc0 pm0 an0 cd0 ct0), sl0⟩) (c0 : PySem.W.codeIn K cd0 "is_int" = true) (k0 : PySem.W.keepIn K (.ref f0) = true)
    {od1 an1 : Option Addr} {sl1 : Array (Option Value)} {f1 : Addr} {oc1 kV1 dc1 pm1 cd1 ct1 : Value}
    (a1 : PySem.W.nsIn K mainGlobals "is_room" = some (some (.ref f1))) (l1 : K.lookup f1 = some ⟨oc1, od1, .func (PySem.W.fnOf "is_room" "is_room" (defArgs (topS 12)) (defBody (topS 12)) (defScope (topS 12)) .none kV1 dc1 pm1 an1 cd1 ct1), sl1⟩) (c1 : PySem.W.codeIn K cd1 "is_room" = true) (k1 : PySem.W.keepIn K (.ref f1) = true)
    {od2 an2 : Option Addr} {sl2 : Array (Option Value)} {f2 : Addr} {oc2 kV2 dc2 pm2 cd2 ct2 : Value}
    (a2 : PySem.W.nsIn K mainGlobals "need_room" = some (some (.ref f2))) (l2 : K.lookup f2 = some ⟨oc2, od2, .func (PySem.W.fnOf "need_room" "need_room" (defArgs (topS 15)) (defBody (topS 15)) (defScope (topS 15)) .none kV2 dc2 pm2 an2 cd2 ct2), sl2⟩) (c2 : PySem.W.codeIn K cd2 "need_room" = true) (k2 : PySem.W.keepIn K (.ref f2) = true)
    {od3 an3 : Option Addr} {sl3 : Array (Option Value)} {f3 : Addr} {oc3 kV3 dc3 pm3 cd3 ct3 : Value}
    (a3 : PySem.W.nsIn K mainGlobals "is_rule" = some (some (.ref f3))) (l3 : K.lookup f3 = some ⟨oc3, od3, .func (PySem.W.fnOf "is_rule" "is_rule" (defArgs (topS 13)) (defBody (topS 13)) (defScope (topS 13)) .none kV3 dc3 pm3 an3 cd3 ct3), sl3⟩) (c3 : PySem.W.codeIn K cd3 "is_rule" = true) (k3 : PySem.W.keepIn K (.ref f3) = true)
    {od4 an4 : Option Addr} {sl4 : Array (Option Value)} {f4 : Addr} {oc4 kV4 dc4 pm4 cd4 ct4 : Value}
    (a4 : PySem.W.nsIn K mainGlobals "need_rule" = some (some (.ref f4))) (l4 : K.lookup f4 = some ⟨oc4, od4, .func (PySem.W.fnOf "need_rule" "need_rule" (defArgs (topS 16)) (defBody (topS 16)) (defScope (topS 16)) .none kV4 dc4 pm4 an4 cd4 ct4), sl4⟩) (c4 : PySem.W.codeIn K cd4 "need_rule" = true) (k4 : PySem.W.keepIn K (.ref f4) = true)
    {od5 an5 : Option Addr} {sl5 : Array (Option Value)} {f5 : Addr} {oc5 kV5 dc5 pm5 cd5 ct5 : Value}
    (a5 : PySem.W.nsIn K mainGlobals "need_both" = some (some (.ref f5))) (l5 : K.lookup f5 = some ⟨oc5, od5, .func (PySem.W.fnOf "need_both" "need_both" (defArgs (topS 17)) (defBody (topS 17)) (defScope (topS 17)) .none kV5 dc5 pm5 an5 cd5 ct5), sl5⟩) (c5 : PySem.W.codeIn K cd5 "need_both" = true) (k5 : PySem.W.keepIn K (.ref f5) = true)
    {od6 an6 : Option Addr} {sl6 : Array (Option Value)} {f6 : Addr} {oc6 kV6 dc6 pm6 cd6 ct6 : Value}
    (a6 : PySem.W.nsIn K mainGlobals "are_jobs" = some (some (.ref f6))) (l6 : K.lookup f6 = some ⟨oc6, od6, .func (PySem.W.fnOf "are_jobs" "are_jobs" (defArgs (topS 14)) (defBody (topS 14)) (defScope (topS 14)) .none kV6 dc6 pm6 an6 cd6 ct6), sl6⟩) (c6 : PySem.W.codeIn K cd6 "are_jobs" = true) (k6 : PySem.W.keepIn K (.ref f6) = true)
    {od7 an7 : Option Addr} {sl7 : Array (Option Value)} {f7 : Addr} {oc7 kV7 dc7 pm7 cd7 ct7 : Value}
    (a7 : PySem.W.nsIn K mainGlobals "need_jobs" = some (some (.ref f7))) (l7 : K.lookup f7 = some ⟨oc7, od7, .func (PySem.W.fnOf "need_jobs" "need_jobs" (defArgs (topS 18)) (defBody (topS 18)) (defScope (topS 18)) .none kV7 dc7 pm7 an7 cd7 ct7), sl7⟩) (c7 : PySem.W.codeIn K cd7 "need_jobs" = true) (k7 : PySem.W.keepIn K (.ref f7) = true)
    {od8 an8 : Option Addr} {sl8 : Array (Option Value)} {f8 : Addr} {oc8 kV8 dc8 pm8 cd8 ct8 : Value}
    (a8 : PySem.W.nsIn K mainGlobals "need_run" = some (some (.ref f8))) (l8 : K.lookup f8 = some ⟨oc8, od8, .func (PySem.W.fnOf "need_run" "need_run" (defArgs (topS 25)) (defBody (topS 25)) (defScope (topS 25)) .none kV8 dc8 pm8 an8 cd8 ct8), sl8⟩) (c8 : PySem.W.codeIn K cd8 "need_run" = true) (k8 : PySem.W.keepIn K (.ref f8) = true)
    {od9 an9 : Option Addr} {sl9 : Array (Option Value)} {f9 : Addr} {oc9 kV9 dc9 pm9 cd9 ct9 : Value}
    (a9 : PySem.W.nsIn K mainGlobals "begun" = some (some (.ref f9))) (l9 : K.lookup f9 = some ⟨oc9, od9, .func (PySem.W.fnOf "begun" "begun" (defArgs (topS 20)) (defBody (topS 20)) (defScope (topS 20)) .none kV9 dc9 pm9 an9 cd9 ct9), sl9⟩) (c9 : PySem.W.codeIn K cd9 "begun" = true) (k9 : PySem.W.keepIn K (.ref f9) = true)
    {od10 an10 : Option Addr} {sl10 : Array (Option Value)} {f10 : Addr} {oc10 kV10 dc10 pm10 cd10 ct10 : Value}
    (a10 : PySem.W.nsIn K mainGlobals "named" = some (some (.ref f10))) (l10 : K.lookup f10 = some ⟨oc10, od10, .func (PySem.W.fnOf "named" "named" (defArgs (topS 21)) (defBody (topS 21)) (defScope (topS 21)) .none kV10 dc10 pm10 an10 cd10 ct10), sl10⟩) (c10 : PySem.W.codeIn K cd10 "named" = true) (k10 : PySem.W.keepIn K (.ref f10) = true)
    {od11 an11 : Option Addr} {sl11 : Array (Option Value)} {f11 : Addr} {oc11 kV11 dc11 pm11 cd11 ct11 : Value}
    (a11 : PySem.W.nsIn K mainGlobals "worked" = some (some (.ref f11))) (l11 : K.lookup f11 = some ⟨oc11, od11, .func (PySem.W.fnOf "worked" "worked" (defArgs (topS 22)) (defBody (topS 22)) (defScope (topS 22)) .none kV11 dc11 pm11 an11 cd11 ct11), sl11⟩) (c11 : PySem.W.codeIn K cd11 "worked" = true) (k11 : PySem.W.keepIn K (.ref f11) = true)
    {od12 an12 : Option Addr} {sl12 : Array (Option Value)} {f12 : Addr} {oc12 kV12 dc12 pm12 cd12 ct12 : Value}
    (a12 : PySem.W.nsIn K mainGlobals "tick" = some (some (.ref f12))) (l12 : K.lookup f12 = some ⟨oc12, od12, .func (PySem.W.fnOf "tick" "tick" (defArgs (topS 23)) (defBody (topS 23)) (defScope (topS 23)) .none kV12 dc12 pm12 an12 cd12 ct12), sl12⟩) (c12 : PySem.W.codeIn K cd12 "tick" = true) (k12 : PySem.W.keepIn K (.ref f12) = true)
    {od13 an13 : Option Addr} {sl13 : Array (Option Value)} {f13 : Addr} {oc13 kV13 dc13 pm13 cd13 ct13 : Value}
    (a13 : PySem.W.nsIn K mainGlobals "run" = some (some (.ref f13))) (l13 : K.lookup f13 = some ⟨oc13, od13, .func (PySem.W.fnOf "run" "run" (defArgs (topS 24)) (defBody (topS 24)) (defScope (topS 24)) .none kV13 dc13 pm13 an13 cd13 ct13), sl13⟩) (c13 : PySem.W.codeIn K cd13 "run" = true) (k13 : PySem.W.keepIn K (.ref f13) = true)
    {od14 an14 : Option Addr} {sl14 : Array (Option Value)} {f14 : Addr} {oc14 kV14 dc14 pm14 cd14 ct14 : Value}
    (a14 : PySem.W.nsIn K mainGlobals "notes_of" = some (some (.ref f14))) (l14 : K.lookup f14 = some ⟨oc14, od14, .func (PySem.W.fnOf "notes_of" "notes_of" (defArgs (topS 26)) (defBody (topS 26)) (defScope (topS 26)) .none kV14 dc14 pm14 an14 cd14 ct14), sl14⟩) (c14 : PySem.W.codeIn K cd14 "notes_of" = true) (k14 : PySem.W.keepIn K (.ref f14) = true)
    {od15 an15 : Option Addr} {sl15 : Array (Option Value)} {f15 : Addr} {oc15 kV15 dc15 pm15 cd15 ct15 : Value}
    (a15 : PySem.W.nsIn K mainGlobals "notes_along" = some (some (.ref f15))) (l15 : K.lookup f15 = some ⟨oc15, od15, .func (PySem.W.fnOf "notes_along" "notes_along" (defArgs (topS 27)) (defBody (topS 27)) (defScope (topS 27)) .none kV15 dc15 pm15 an15 cd15 ct15), sl15⟩) (c15 : PySem.W.codeIn K cd15 "notes_along" = true) (k15 : PySem.W.keepIn K (.ref f15) = true)
    {od16 an16 : Option Addr} {sl16 : Array (Option Value)} {f16 : Addr} {oc16 kV16 dc16 pm16 cd16 ct16 : Value}
    (a16 : PySem.W.nsIn K mainGlobals "_law_draw" = some (some (.ref f16))) (l16 : K.lookup f16 = some ⟨oc16, od16, .func (PySem.W.fnOf "_law_draw" "_law_draw" (defArgs (topS 31)) (defBody (topS 31)) (defScope (topS 31)) .none kV16 dc16 pm16 an16 cd16 ct16), sl16⟩) (c16 : PySem.W.codeIn K cd16 "_law_draw" = true) (k16 : PySem.W.keepIn K (.ref f16) = true)
    {od17 an17 : Option Addr} {sl17 : Array (Option Value)} {f17 : Addr} {oc17 kV17 dc17 pm17 cd17 ct17 : Value}
    (a17 : PySem.W.nsIn K mainGlobals "_law_room" = some (some (.ref f17))) (l17 : K.lookup f17 = some ⟨oc17, od17, .func (PySem.W.fnOf "_law_room" "_law_room" (defArgs (topS 33)) (defBody (topS 33)) (defScope (topS 33)) .none kV17 dc17 pm17 an17 cd17 ct17), sl17⟩) (c17 : PySem.W.codeIn K cd17 "_law_room" = true) (k17 : PySem.W.keepIn K (.ref f17) = true)
    {od18 an18 : Option Addr} {sl18 : Array (Option Value)} {f18 : Addr} {oc18 kV18 dc18 pm18 cd18 ct18 : Value}
    (a18 : PySem.W.nsIn K mainGlobals "_law_pick" = some (some (.ref f18))) (l18 : K.lookup f18 = some ⟨oc18, od18, .func (PySem.W.fnOf "_law_pick" "_law_pick" (defArgs (topS 32)) (defBody (topS 32)) (defScope (topS 32)) .none kV18 dc18 pm18 an18 cd18 ct18), sl18⟩) (c18 : PySem.W.codeIn K cd18 "_law_pick" = true) (k18 : PySem.W.keepIn K (.ref f18) = true)
    {od19 an19 : Option Addr} {sl19 : Array (Option Value)} {f19 : Addr} {oc19 kV19 dc19 pm19 cd19 ct19 : Value}
    (a19 : PySem.W.nsIn K mainGlobals "_law_rule" = some (some (.ref f19))) (l19 : K.lookup f19 = some ⟨oc19, od19, .func (PySem.W.fnOf "_law_rule" "_law_rule" (defArgs (topS 34)) (defBody (topS 34)) (defScope (topS 34)) .none kV19 dc19 pm19 an19 cd19 ct19), sl19⟩) (c19 : PySem.W.codeIn K cd19 "_law_rule" = true) (k19 : PySem.W.keepIn K (.ref f19) = true)
    {od20 an20 : Option Addr} {sl20 : Array (Option Value)} {f20 : Addr} {oc20 kV20 dc20 pm20 cd20 ct20 : Value}
    (a20 : PySem.W.nsIn K mainGlobals "_law_jobs" = some (some (.ref f20))) (l20 : K.lookup f20 = some ⟨oc20, od20, .func (PySem.W.fnOf "_law_jobs" "_law_jobs" (defArgs (topS 35)) (defBody (topS 35)) (defScope (topS 35)) .none kV20 dc20 pm20 an20 cd20 ct20), sl20⟩) (c20 : PySem.W.codeIn K cd20 "_law_jobs" = true) (k20 : PySem.W.keepIn K (.ref f20) = true)
    {od22 an22 : Option Addr} {sl22 : Array (Option Value)} {f22 : Addr} {oc22 kV22 dc22 pm22 cd22 ct22 : Value}
    (a22 : PySem.W.findIn K (.ref CD) "notes" = some (some (.ref f22))) (i22 : PySem.W.isFn K (.ref f22) = true) (l22 : K.lookup f22 = some ⟨oc22, od22, .func (PySem.W.fnOf "notes" "Desk.notes" (defArgs (inClass (topS 29) 3)) (defBody (inClass (topS 29) 3)) (defScope (inClass (topS 29) 3)) .none kV22 dc22 pm22 an22 cd22 ct22), sl22⟩) (c22 : PySem.W.codeIn K cd22 "Desk.notes" = true) (k22 : PySem.W.keepIn K (.ref f22) = true)
    {od23 an23 : Option Addr} {sl23 : Array (Option Value)} {f23 : Addr} {oc23 kV23 dc23 pm23 cd23 ct23 : Value}
    (a23 : PySem.W.findIn K (.ref CD) "tick" = some (some (.ref f23))) (i23 : PySem.W.isFn K (.ref f23) = true) (l23 : K.lookup f23 = some ⟨oc23, od23, .func (PySem.W.fnOf "tick" "Desk.tick" (defArgs (inClass (topS 29) 1)) (defBody (inClass (topS 29) 1)) (defScope (inClass (topS 29) 1)) .none kV23 dc23 pm23 an23 cd23 ct23), sl23⟩) (c23 : PySem.W.codeIn K cd23 "Desk.tick" = true) (k23 : PySem.W.keepIn K (.ref f23) = true)
    {od24 an24 : Option Addr} {sl24 : Array (Option Value)} {f24 : Addr} {oc24 kV24 dc24 pm24 cd24 ct24 : Value}
    (a24 : PySem.W.findIn K (.ref CD) "place" = some (some (.ref f24))) (i24 : PySem.W.isFn K (.ref f24) = true) (l24 : K.lookup f24 = some ⟨oc24, od24, .func (PySem.W.fnOf "place" "Desk.place" (defArgs (inClass (topS 29) 4)) (defBody (inClass (topS 29) 4)) (defScope (inClass (topS 29) 4)) .none kV24 dc24 pm24 an24 cd24 ct24), sl24⟩) (c24 : PySem.W.codeIn K cd24 "Desk.place" = true) (k24 : PySem.W.keepIn K (.ref f24) = true)
    {od25 an25 : Option Addr} {sl25 : Array (Option Value)} {f25 : Addr} {oc25 kV25 dc25 pm25 cd25 ct25 : Value}
    (a25 : PySem.W.findIn K (.ref CD) "lines" = some (some (.ref f25))) (i25 : PySem.W.isFn K (.ref f25) = true) (l25 : K.lookup f25 = some ⟨oc25, od25, .func (PySem.W.fnOf "lines" "Desk.lines" (defArgs (inClass (topS 29) 6)) (defBody (inClass (topS 29) 6)) (defScope (inClass (topS 29) 6)) .none kV25 dc25 pm25 an25 cd25 ct25), sl25⟩) (c25 : PySem.W.codeIn K cd25 "Desk.lines" = true) (k25 : PySem.W.keepIn K (.ref f25) = true)
    {od26 an26 : Option Addr} {sl26 : Array (Option Value)} {f26 : Addr} {oc26 kV26 dc26 pm26 cd26 ct26 : Value}
    (a26 : PySem.W.findIn K (.ref CD) "__init__" = some (some (.ref f26))) (i26 : PySem.W.isFn K (.ref f26) = true) (l26 : K.lookup f26 = some ⟨oc26, od26, .func (PySem.W.fnOf "__init__" "Desk.__init__" (defArgs (inClass (topS 29) 0)) (defBody (inClass (topS 29) 0)) (defScope (inClass (topS 29) 0)) .none kV26 dc26 pm26 an26 cd26 ct26), sl26⟩) (c26 : PySem.W.codeIn K cd26 "Desk.__init__" = true) (k26 : PySem.W.keepIn K (.ref f26) = true)
    {od27 an27 : Option Addr} {sl27 : Array (Option Value)} {f27 : Addr} {oc27 kV27 dc27 pm27 cd27 ct27 : Value}
    (a27 : PySem.W.findIn K (.ref CD) "__len__" = some (some (.ref f27))) (i27 : PySem.W.isFn K (.ref f27) = true) (l27 : K.lookup f27 = some ⟨oc27, od27, .func (PySem.W.fnOf "__len__" "Desk.__len__" (defArgs (inClass (topS 29) 11)) (defBody (inClass (topS 29) 11)) (defScope (inClass (topS 29) 11)) .none kV27 dc27 pm27 an27 cd27 ct27), sl27⟩) (c27 : PySem.W.codeIn K cd27 "Desk.__len__" = true) (k27 : PySem.W.keepIn K (.ref f27) = true)
    {od28 an28 : Option Addr} {sl28 : Array (Option Value)} {f28 : Addr} {oc28 kV28 dc28 pm28 cd28 ct28 : Value}
    (a28 : PySem.W.nsIn K mainGlobals "law" = some (some (.ref f28))) (l28 : K.lookup f28 = some ⟨oc28, od28, .func (PySem.W.fnOf "law" "law" (defArgs (topS 36)) (defBody (topS 36)) (defScope (topS 36)) .none kV28 dc28 pm28 an28 cd28 ct28), sl28⟩) (c28 : PySem.W.codeIn K cd28 "law" = true) (k28 : PySem.W.keepIn K (.ref f28) = true)
    (z_all : PySem.W.nsIn K mainGlobals "all" = some none)
    (z_bool : PySem.W.nsIn K mainGlobals "bool" = some none)
    (z_int : PySem.W.nsIn K mainGlobals "int" = some none)
    (z_isinstance : PySem.W.nsIn K mainGlobals "isinstance" = some none)
    (z_len : PySem.W.nsIn K mainGlobals "len" = some none)
    (z_list : PySem.W.nsIn K mainGlobals "list" = some none)
    (z_min : PySem.W.nsIn K mainGlobals "min" = some none)
    (z_range : PySem.W.nsIn K mainGlobals "range" = some none)
    (z_str : PySem.W.nsIn K mainGlobals "str" = some none)
    (z_sum : PySem.W.nsIn K mainGlobals "sum" = some none)
    (z_tuple : PySem.W.nsIn K mainGlobals "tuple" = some none)
    (z_zip : PySem.W.nsIn K mainGlobals "zip" = some none)
    {r_HANDED : Addr} {t_HANDED0 t_HANDED1 t_HANDED2 t_HANDED3 : Tok} {od_HANDED : Option Addr} {sl_HANDED : Array (Option Value)} {n_HANDED : Nat} (y_HANDED : PySem.W.nsIn K mainGlobals "HANDED" = some (some (.ref r_HANDED))) (w_HANDED : K.lookup r_HANDED = some ⟨.type "tuple", od_HANDED, .seq #[.str "fewer" t_HANDED0, .str "least" t_HANDED1, .str "sizes" t_HANDED2, .str "turns" t_HANDED3] n_HANDED, sl_HANDED⟩)
    {t_LONGEST : Tok} (y_LONGEST : PySem.W.nsIn K mainGlobals "LONGEST" = some (some (.int 40 t_LONGEST)))
    : ∃ fd : FuncData, (∀ (s : Shared) (v : Value), BindsTo s fd ⟨[v], []⟩ [("script", v)]) ∧ ∀ base : Heap, K.In base → base.Ns mainGlobals mg → FnOk l.prog w K mg base CX0 8 fa fd ["script"] (SpP ⟨K, w⟩ F_law) := by
  have e := hfa.symm.trans (PySem.W.mg_of KX G a28)
  cases e
  have T : Txt K mg CD := ⟨⟨aC, ⟨pgC, hdC, poC, saC⟩⟩,
    ⟨⟨aC, ⟨pgC, hdC, poC, saC⟩⟩, n0, n1, n2, n3⟩,
    mkC,
    kcC,
    PySem.W.mg_of KX G aC,
    has_mk KX G (fun _ _ _ _ _ _ us hl => match us, hl with | [_, _, _], _ => rfl) a0 l0 c0 k0,
    has_mk KX G (fun _ _ _ _ _ _ us hl => match us, hl with | [_], _ => rfl) a1 l1 c1 k1,
    has_mk KX G (fun _ _ _ _ _ _ us hl => match us, hl with | [_], _ => rfl) a2 l2 c2 k2,
    has_mk KX G (fun _ _ _ _ _ _ us hl => match us, hl with | [_], _ => rfl) a3 l3 c3 k3,
    has_mk KX G (fun _ _ _ _ _ _ us hl => match us, hl with | [_], _ => rfl) a4 l4 c4 k4,
    has_mk KX G (fun _ _ _ _ _ _ us hl => match us, hl with | [_, _], _ => rfl) a5 l5 c5 k5,
    has_mk KX G (fun _ _ _ _ _ _ us hl => match us, hl with | [_], _ => rfl) a6 l6 c6 k6,
    has_mk KX G (fun _ _ _ _ _ _ us hl => match us, hl with | [_], _ => rfl) a7 l7 c7 k7,
    has_mk KX G (fun _ _ _ _ _ _ us hl => match us, hl with | [_, _, _], _ => rfl) a8 l8 c8 k8,
    has_mk KX G (fun _ _ _ _ _ _ us hl => match us, hl with | [], _ => rfl) a9 l9 c9 k9,
    has_mk KX G (fun _ _ _ _ _ _ us hl => match us, hl with | [_, _, _], _ => rfl) a10 l10 c10 k10,
    has_mk KX G (fun _ _ _ _ _ _ us hl => match us, hl with | [_], _ => rfl) a11 l11 c11 k11,
    has_mk KX G (fun _ _ _ _ _ _ us hl => match us, hl with | [_, _, _, _], _ => rfl) a12 l12 c12 k12,
    has_mk KX G (fun _ _ _ _ _ _ us hl => match us, hl with | [_, _, _], _ => rfl) a13 l13 c13 k13,
    has_mk KX G (fun _ _ _ _ _ _ us hl => match us, hl with | [_, _, _], _ => rfl) a14 l14 c14 k14,
    has_mk KX G (fun _ _ _ _ _ _ us hl => match us, hl with | [_, _, _], _ => rfl) a15 l15 c15 k15,
    has_mk KX G (fun _ _ _ _ _ _ us hl => match us, hl with | [_, _, _], _ => rfl) a16 l16 c16 k16,
    has_mk KX G (fun _ _ _ _ _ _ us hl => match us, hl with | [_, _], _ => rfl) a17 l17 c17 k17,
    has_mk KX G (fun _ _ _ _ _ _ us hl => match us, hl with | [_, _, _], _ => rfl) a18 l18 c18 k18,
    has_mk KX G (fun _ _ _ _ _ _ us hl => match us, hl with | [_, _], _ => rfl) a19 l19 c19 k19,
    has_mk KX G (fun _ _ _ _ _ _ us hl => match us, hl with | [_, _, _], _ => rfl) a20 l20 c20 k20,
    ⟨_, _, fun_mk (st := (inClass (topS 29) 3)) l22 c22 k22, (fun_mk (st := (inClass (topS 29) 3)) l22 c22 k22).binds (ps := ["self"]) (fun _ _ _ _ _ _ us hl => match us, hl with | [_], _ => rfl), ⟨a22, i22, k22⟩⟩,
    ⟨_, _, fun_mk (st := (inClass (topS 29) 1)) l23 c23 k23, (fun_mk (st := (inClass (topS 29) 1)) l23 c23 k23).binds (ps := ["self", "job"]) (fun _ _ _ _ _ _ us hl => match us, hl with | [_, _], _ => rfl), ⟨a23, i23, k23⟩⟩,
    ⟨_, _, fun_mk (st := (inClass (topS 29) 4)) l24 c24 k24, (fun_mk (st := (inClass (topS 29) 4)) l24 c24 k24).binds (ps := ["self"]) (fun _ _ _ _ _ _ us hl => match us, hl with | [_], _ => rfl), ⟨a24, i24, k24⟩⟩,
    ⟨_, _, fun_mk (st := (inClass (topS 29) 6)) l25 c25 k25, (fun_mk (st := (inClass (topS 29) 6)) l25 c25 k25).binds (ps := ["self"]) (fun _ _ _ _ _ _ us hl => match us, hl with | [_], _ => rfl), ⟨a25, i25, k25⟩⟩,
    ⟨_, _, fun_mk (st := (inClass (topS 29) 0)) l26 c26 k26, (fun_mk (st := (inClass (topS 29) 0)) l26 c26 k26).binds (ps := ["self", "room", "rule"]) (fun _ _ _ _ _ _ us hl => match us, hl with | [_, _, _], _ => rfl), ⟨a26, i26, k26⟩⟩,
    ⟨_, _, fun_mk (st := (inClass (topS 29) 11)) l27 c27 k27, (fun_mk (st := (inClass (topS 29) 11)) l27 c27 k27).binds (ps := ["self"]) (fun _ _ _ _ _ _ us hl => match us, hl with | [_], _ => rfl), ⟨a27, i27, k27⟩⟩,
    has_mk KX G (fun _ _ _ _ _ _ us hl => match us, hl with | [_], _ => rfl) a28 l28 c28 k28,
    PySem.W.mg_none_of KX G z_all,
    PySem.W.mg_none_of KX G z_bool,
    PySem.W.mg_none_of KX G z_int,
    PySem.W.mg_none_of KX G z_isinstance,
    PySem.W.mg_none_of KX G z_len,
    PySem.W.mg_none_of KX G z_list,
    PySem.W.mg_none_of KX G z_min,
    PySem.W.mg_none_of KX G z_range,
    PySem.W.mg_none_of KX G z_str,
    PySem.W.mg_none_of KX G z_sum,
    PySem.W.mg_none_of KX G z_tuple,
    PySem.W.mg_none_of KX G z_zip,
    ⟨.ref _, _, PySem.W.mg_of KX G y_HANDED, rfl, fun _ _ => ⟨_, [V.str "fewer", V.str "least", V.str "sizes", V.str "turns"], rfl, .inr ⟨_, _, _, w_HANDED, rfl, rfl, by show 4 ≤ sizeLine; decide, .cons ⟨_, rfl⟩ (.cons ⟨_, rfl⟩ (.cons ⟨_, rfl⟩ (.cons ⟨_, rfl⟩ (.nil))))⟩, ⟨_, _, rfl, rfl, ⟨_, _, rfl, rfl, ⟨_, _, rfl, rfl, ⟨_, _, rfl, rfl, rfl⟩⟩⟩⟩⟩⟩,
    ⟨.int 40, _, PySem.W.mg_of KX G y_LONGEST, ⟨_, rfl⟩, fun _ _ => rfl⟩⟩
  exact ⟨PySem.W.fnOf "law" "law" (defArgs (topS 36)) (defBody (topS 36)) (defScope (topS 36)) .none kV28 dc28 pm28 an28 cd28 ct28, fun s v => .of_eq rfl, fun base _ _ => ok_law T (fun_mk l28 c28 k28)⟩
end Vd
open PySem PySem.W PyProof.Rows
set_option maxRecDepth 100000 in
set_option maxHeartbeats 0 in
theorem PySem.Challenge.cw_jobsenders_k46_whole_fifo_holds : PySem.Challenge.rw_jobsenders_k46_whole_fifo.Holds := by
  w_on; o_law; k_head; (case hw => w_witness2)
  k_fill
  refine L2.walk_of (l := PySem.Challenge.rw_jobsenders_k46_whole_fifo) (n := 63) (k := 8) (x := "script") (CX := fun _ => L2.CX0) (sp := fun w => Vd.SpP ⟨_, w⟩ Vd.F_law) rfl (by decide) rfl ⟨rfl, by decide, by decide⟩ (fun w h Y => PySem.W.kIn_of Y) ?F (fun _ _ a ns hl hO hS => Vd.law_sp hO hS (Vd.law_true ns hl)) (fun _ _ _ _ _ h => h)
  case F =>
    intro w mg fa h KX G hmg
    refine' Vd.all_mk KX G hmg ?aC ?pgC ?hdC ?poC ?saC ?mkC ?kcC ?n0 ?n1 ?n2 ?n3 ?a0 ?l0 ?c0 ?k0 ?a1 ?l1 ?c1 ?k1 ?a2 ?l2 ?c2 ?k2 ?a3 ?l3 ?c3 ?k3 ?a4 ?l4 ?c4 ?k4 ?a5 ?l5 ?c5 ?k5 ?a6 ?l6 ?c6 ?k6 ?a7 ?l7 ?c7 ?k7 ?a8 ?l8 ?c8 ?k8 ?a9 ?l9 ?c9 ?k9 ?a10 ?l10 ?c10 ?k10 ?a11 ?l11 ?c11 ?k11 ?a12 ?l12 ?c12 ?k12 ?a13 ?l13 ?c13 ?k13 ?a14 ?l14 ?c14 ?k14 ?a15 ?l15 ?c15 ?k15 ?a16 ?l16 ?c16 ?k16 ?a17 ?l17 ?c17 ?k17 ?a18 ?l18 ?c18 ?k18 ?a19 ?l19 ?c19 ?k19 ?a20 ?l20 ?c20 ?k20 ?a22 ?i22 ?l22 ?c22 ?k22 ?a23 ?i23 ?l23 ?c23 ?k23 ?a24 ?i24 ?l24 ?c24 ?k24 ?a25 ?i25 ?l25 ?c25 ?k25 ?a26 ?i26 ?l26 ?c26 ?k26 ?a27 ?i27 ?l27 ?c27 ?k27 ?a28 ?l28 ?c28 ?k28 ?z_all ?z_bool ?z_int ?z_isinstance ?z_len ?z_list ?z_min ?z_range ?z_str ?z_sum ?z_tuple ?z_zip ?y_HANDED ?w_HANDED ?y_LONGEST
    (case aC => k_is)
    (case pgC => k_is)
    (case hdC => k_is)
    (case poC => k_is)
    (case saC => k_is)
    (case mkC => k_is)
    (case kcC => k_is)
    (case n0 => k_is)
    (case n1 => k_is)
    (case n2 => k_is)
    (case n3 => k_is)
    (case a0 => k_is); (case l0 => k_is); (case c0 => k_is); (case k0 => k_is)
    (case a1 => k_is); (case l1 => k_is); (case c1 => k_is); (case k1 => k_is)
    (case a2 => k_is); (case l2 => k_is); (case c2 => k_is); (case k2 => k_is)
    (case a3 => k_is); (case l3 => k_is); (case c3 => k_is); (case k3 => k_is)
    (case a4 => k_is); (case l4 => k_is); (case c4 => k_is); (case k4 => k_is)
    (case a5 => k_is); (case l5 => k_is); (case c5 => k_is); (case k5 => k_is)
    (case a6 => k_is); (case l6 => k_is); (case c6 => k_is); (case k6 => k_is)
    (case a7 => k_is); (case l7 => k_is); (case c7 => k_is); (case k7 => k_is)
    (case a8 => k_is); (case l8 => k_is); (case c8 => k_is); (case k8 => k_is)
    (case a9 => k_is); (case l9 => k_is); (case c9 => k_is); (case k9 => k_is)
    (case a10 => k_is); (case l10 => k_is); (case c10 => k_is); (case k10 => k_is)
    (case a11 => k_is); (case l11 => k_is); (case c11 => k_is); (case k11 => k_is)
    (case a12 => k_is); (case l12 => k_is); (case c12 => k_is); (case k12 => k_is)
    (case a13 => k_is); (case l13 => k_is); (case c13 => k_is); (case k13 => k_is)
    (case a14 => k_is); (case l14 => k_is); (case c14 => k_is); (case k14 => k_is)
    (case a15 => k_is); (case l15 => k_is); (case c15 => k_is); (case k15 => k_is)
    (case a16 => k_is); (case l16 => k_is); (case c16 => k_is); (case k16 => k_is)
    (case a17 => k_is); (case l17 => k_is); (case c17 => k_is); (case k17 => k_is)
    (case a18 => k_is); (case l18 => k_is); (case c18 => k_is); (case k18 => k_is)
    (case a19 => k_is); (case l19 => k_is); (case c19 => k_is); (case k19 => k_is)
    (case a20 => k_is); (case l20 => k_is); (case c20 => k_is); (case k20 => k_is)
    (case a22 => k_is); (case i22 => k_is); (case l22 => k_is); (case c22 => k_is); (case k22 => k_is)
    (case a23 => k_is); (case i23 => k_is); (case l23 => k_is); (case c23 => k_is); (case k23 => k_is)
    (case a24 => k_is); (case i24 => k_is); (case l24 => k_is); (case c24 => k_is); (case k24 => k_is)
    (case a25 => k_is); (case i25 => k_is); (case l25 => k_is); (case c25 => k_is); (case k25 => k_is)
    (case a26 => k_is); (case i26 => k_is); (case l26 => k_is); (case c26 => k_is); (case k26 => k_is)
    (case a27 => k_is); (case i27 => k_is); (case l27 => k_is); (case c27 => k_is); (case k27 => k_is)
    (case a28 => k_is); (case l28 => k_is); (case c28 => k_is); (case k28 => k_is)
    (case z_all => k_is)
    (case z_bool => k_is)
    (case z_int => k_is)
    (case z_isinstance => k_is)
    (case z_len => k_is)
    (case z_list => k_is)
    (case z_min => k_is)
    (case z_range => k_is)
    (case z_str => k_is)
    (case z_sum => k_is)
    (case z_tuple => k_is)
    (case z_zip => k_is)
    (case y_HANDED => k_is); (case w_HANDED => k_is)
    (case y_LONGEST => k_is)
