import PyProof.Rows.All
import Wide.All
import OpenK.AllK
import Wide.FinOn
import HandS.ForMost
import HandS.Lambda
import HandS.TupAny
import HandS.Deep
import HandS.Wide
import HandS.Flow
import HandS.Style
import HandS.IsInst
import HandS.Codes
import HandS.WordsDict
import HandS.Small
import HandS.More
import KE.SortData
import HandS.Conv
import HandS.DeepEq
import KE.KDictDisplayH
import HandS.Ends
import HandS.Zip
import KE.GoesMore
import KE.GoesEnum
import HandS.DictComp
import HandS.WrittenGet
import HandS.Nested
import HandS.EndTab
import KE.KNestM
import KE.DataCmp
import PyProof.TupleOfSeq
import HandS.Text
import HandS.StrMore
import HandS.FStr
import HandS.RaiseMore
import HandS.SortKw
import HandS.ExcInit
import HandS.ExcSuper
import KE.KExcSuper
import HandS.TryOnly
import HandS.CallSlots
import HandS.WordsExc
import HandS.ExcField
import PyProof.StrLawsFrom
import PyProof.ListStr
import PyProof.Rows.StrMul
import PySem.Challenge.RW_wherewritten_k04_bounds_of_texts
set_option Elab.async false
set_option linter.all false
set_option maxRecDepth 100000
set_option maxHeartbeats 4000000
namespace Y
open PySem PySem.Spec L2

/-- data that nobody changes any more -/
inductive D where
  | non | bl (b : Bool) | int (i : Int) | str (x : Str) | tup (ds : List D) | lst (ds : List D) | raw (v : V) | fnv (f c : Addr) (q : Str) (vs : List V) (ds : List D) | obj (n : Nat)
/-- what stays for good: a table of code objects; the store's n-th object; its dict -/
inductive Kl where
  | tb (q : Str) | w (n : Nat) | wd (n : Nat)
  deriving DecidableEq
def Kl.tbl : Kl → Bool
  | .tb _ => true | _ => false
/-- a label: a slot of the body, a temporary, a slot whose object is walked now, another's, one that stays -/
inductive Lb where
  | s (i : Nat) | t (j : Nat) | h (i : Nat) | x | k (q : Kl)
  deriving DecidableEq
abbrev Own := Addr → Option Lb
/-- what a slot holds: data, or an object that it alone owns; sq: a list that is only read -/
inductive M where
  | im (d : D) | ls (ds : List D) | sq (ds : List D) | rd (ds : List D) | dk (kvs : List (Key × D)) | dt (kvs : List (List Key × D))
inductive Sl where
  | no | lo (m : M) | pa (m : M) | hd (p : Bool) (v : V) (m : M)
inductive R where
  | im (d : D) | tm (m : M) | sl (i : Nat)
/-- an object of the store: all that holds it may change it -/
inductive Ob where
  | ls (ds : List D) | dk (kvs : List (Key × D)) | dt (kvs : List (List Key × D)) | ins (C : Addr) (fs : List (Str × D))
abbrev Sto := List Ob

def Tp (_K : PySem.W.Frag) (o : Own) (H : Hp) (a : Addr) (xs : List V) : Prop := o a = none ∧ H a = some (.tup xs)
def Lq (K : PySem.W.Frag) (o : Own) (H : Hp) (a : Addr) (xs : List V) : Prop :=
  ((o a = none ∨ o a = some .x) ∧ Rd H a (.lst xs)) ∨
    ∃ (u : Obj) (its : Array Value) (n : Nat), K.lookup a = some u ∧ u.cls = .type "list" ∧ u.dict = none ∧ u.data = .seq its n ∧ its.size ≤ sizeLine ∧ Vals xs its.toList
mutual
inductive Dat (K : PySem.W.Frag) (o : Own) (H : Hp) : V → D → Prop
  | non : Dat K o H .non .non
  | bl (b : Bool) : Dat K o H (.bl b) (.bl b)
  | int (i : Int) : Dat K o H (.int i) (.int i)
  | str (x : Str) : Dat K o H (.str x) (.str x)
  | raw (v : V) : Dat K o H v (.raw v)
  | fnv {f c : Addr} {q : Str} {vs : List V} {ds : List D} : o c = none → H c = some (LamX.CodeO c q) → Dats K o H vs ds → Dat K o H (.ref f) (.fnv f c q vs ds)
  | tup {a : Addr} {xs : List V} {ds : List D} : Tp K o H a xs → Dats K o H xs ds → Dat K o H (.ref a) (.tup ds)
  | lst {a : Addr} {xs : List V} {ds : List D} : o a = none → H a = some (.lst xs) → Dats K o H xs ds → Dat K o H (.ref a) (.lst ds)
  | obj {a : Addr} {n : Nat} : o a = some (.k (.w n)) → Dat K o H (.ref a) (.obj n)
inductive Dats (K : PySem.W.Frag) (o : Own) (H : Hp) : List V → List D → Prop
  | nil : Dats K o H [] []
  | cons {v : V} {vs : List V} {d : D} {ds : List D} : Dat K o H v d → Dats K o H vs ds → Dats K o H (v :: vs) (d :: ds)
end
abbrev Kvs {κ : Type} (K : PySem.W.Frag) (o : Own) (H : Hp) : List (κ × V) → List (κ × D) → Prop := Paired fun (p : κ × V) (q : κ × D) => p.1 = q.1 ∧ Dat K o H p.2 q.2

def IsM (K : PySem.W.Frag) (o : Own) (H : Hp) (l : Lb) (v : V) : M → Prop
  | .im d => Dat K o H v d
  | .ls ds => ∃ a xs, v = .ref a ∧ o a = some l ∧ H a = some (.lst xs) ∧ Dats K o H xs ds
  | .sq ds => ∃ a xs, v = .ref a ∧ Lq K o H a xs ∧ Dats K o H xs ds
  | .rd ds => ∃ a xs, v = .ref a ∧ o a = some l ∧ H a = some (.lst xs) ∧ Dats K o H xs ds
  | .dk kvs => ∃ a ks, v = .ref a ∧ o a = some l ∧ H a = some (.dK ks) ∧ Kvs K o H ks kvs
  | .dt kvs => ∃ a ks, v = .ref a ∧ o a = some l ∧ H a = some (.dT ks) ∧ Kvs K o H ks kvs
def Vw (K : PySem.W.Frag) (o : Own) (H : Hp) (v : V) (m : M) : Prop := ∃ l, IsM K o H l v m
def M.own : M → Bool
  | .ls _ => true | .dk _ => true | .dt _ => true | .rd _ => true | _ => false
def M.res : M → R
  | .im d => .im d
  | m => .tm m
def Sl.m? : Sl → Option M
  | .no => none | .lo m => some m | .pa m => some m
  | .hd _ _ (.ls ds) => some (.rd ds)
  | .hd _ _ _ => none

def Mt : Option HO → Prop
  | some (.tbl _) => True
  | some (.lst _) => True
  | some (.dK _) => True
  | some (.dT _) => True
  | some (.ins _ _ _) => True
  | some (.own _) => True
  | _ => False
/-- at P: a table of code objects, each of the name q (k: the table is the body's to grow; x: another's) -/
def Tab (o : Own) (H : Hp) (P : Addr) (q : Str) : Prop := ∃ ps : Array Value, o P = some (.k (.tb q)) ∧ H P = some (.tbl ps) ∧ TriplesOk ps.toList ∧
  ∀ (pos : Pos) (cv : Value), codeAmong pos ps.toList = some cv → ∃ c, cv = .ref c ∧ o c = none ∧ H c = some (LamX.CodeO c q)
/-- what is not labelled stays; what is another's stays; a table stays one -/
structure Le (o : Own) (H : Hp) (o' : Own) (H' : Hp) : Prop where
  keep : ∀ b u, o b = none → H b = some u → o' b = none ∧ H' b = some u
  ext : ∀ b, o b = some .x → o' b = some .x ∧ H' b = H b
  tbs : ∀ P q, Tab o H P q → Tab o' H' P q
  wk : ∀ a n, o a = some (.k (.w n)) → o' a = some (.k (.w n))
theorem Le.mk' {o o' : Own} {H H' : Hp} (k : ∀ b u, o b = none → H b = some u → o' b = none ∧ H' b = some u) (e : ∀ b, o b = some .x → o' b = some .x ∧ H' b = H b) (t : ∀ b q, o b = some (.k q) → o' b = some (.k q) ∧ H' b = H b) : Le o H o' H' := by
  refine ⟨k, e, fun P q ⟨ps, hl, hP, ok, all⟩ => ?_, fun a n h => (t a _ h).1⟩
  have at_ : o' P = some (.k (.tb q)) ∧ H' P = H P := t P _ hl
  refine ⟨ps, at_.1, at_.2.trans hP, ok, fun pos cv hc => ?_⟩
  obtain ⟨c, e1, e2, e3⟩ := all pos cv hc
  exact ⟨c, e1, (k c _ e2 e3).1, (k c _ e2 e3).2⟩
theorem Le.refl {o : Own} {H : Hp} : Le o H o H := ⟨fun _ _ a b => ⟨a, b⟩, fun _ a => ⟨a, rfl⟩, fun _ _ a => a, fun _ _ a => a⟩
theorem Le.trans {o o1 o2 : Own} {H H1 H2 : Hp} (a : Le o H o1 H1) (b : Le o1 H1 o2 H2) : Le o H o2 H2 :=
  ⟨fun c u e f => let ⟨e1, f1⟩ := a.keep c u e f; b.keep c u e1 f1, fun c e => let ⟨e1, f1⟩ := a.ext c e; let ⟨e2, f2⟩ := b.ext c e1; ⟨e2, f2.trans f1⟩, fun P q t => b.tbs P q (a.tbs P q t), fun c n e => b.wk c n (a.wk c n e)⟩
section
variable {K : PySem.W.Frag} {o o' : Own} {H H' : Hp} {l l' : Lb} {v : V}
theorem Tp.mono (L : Le o H o' H') {a : Addr} {xs : List V} (h : Tp K o H a xs) : Tp K o' H' a xs := L.keep _ _ h.1 h.2
theorem Lq.mono (L : Le o H o' H') {a : Addr} {xs : List V} (h : Lq K o H a xs) : Lq K o' H' a xs := by
  rcases h with ⟨e | e, h⟩ | h
  · rcases h with h | ⟨u, h⟩
    · exact .inl ⟨.inl (L.keep _ _ e h).1, .inl (L.keep _ _ e h).2⟩
    · exact .inl ⟨.inl (L.keep _ _ e h).1, .inr ⟨u, (L.keep _ _ e h).2⟩⟩
  · obtain ⟨e1, e2⟩ := L.ext _ e
    refine .inl ⟨.inr e1, ?_⟩
    unfold Rd at h ⊢
    rw [e2]; exact h
  · exact .inr h
theorem Tp.sq {a : Addr} {xs : List V} (h : Tp K o H a xs) : SqT K H a xs := SqT.of h.2
theorem Lq.sq {a : Addr} {xs : List V} (h : Lq K o H a xs) : SqL K H a xs := by
  rcases h with ⟨_, h⟩ | h
  · exact .inl h
  · exact .inr h
mutual
theorem Dat.mono (L : Le o H o' H') : ∀ {v : V} {d : D}, Dat K o H v d → Dat K o' H' v d
  | _, _, .non => .non
  | _, _, .bl b => .bl b
  | _, _, .int b => .int b
  | _, _, .str b => .str b
  | _, _, .raw b => .raw b
  | _, _, .fnv a b r => .fnv (L.keep _ _ a b).1 (L.keep _ _ a b).2 (Dats.mono L r)
  | _, _, .tup h r => .tup (h.mono L) (Dats.mono L r)
  | _, _, .lst e h r => .lst (L.keep _ _ e h).1 (L.keep _ _ e h).2 (Dats.mono L r)
  | _, _, .obj e => .obj (L.wk _ _ e)
theorem Dats.mono (L : Le o H o' H') : ∀ {v : List V} {d : List D}, Dats K o H v d → Dats K o' H' v d
  | _, _, .nil => .nil
  | _, _, .cons a r => .cons (Dat.mono L a) (Dats.mono L r)
end
theorem Kvs.mono {κ : Type} (L : Le o H o' H') {ks : List (κ × V)} {kvs : List (κ × D)} (h : Kvs K o H ks kvs) : Kvs K o' H' ks kvs :=
  Paired.mapP h fun _ _ z => ⟨z.1, z.2.mono L⟩
theorem IsM.mono (L : Le o H o' H') (h : ∀ a, o a = some l → o' a = some l' ∧ H' a = H a) : ∀ {m : M}, IsM K o H l v m → IsM K o' H' l' v m
  | .im _, q => Dat.mono L q
  | .ls _, ⟨a, xs, e, f, g, q⟩ => ⟨a, xs, e, (h a f).1, (h a f).2.trans g, q.mono L⟩
  | .sq _, ⟨a, xs, e, f, q⟩ => ⟨a, xs, e, f.mono L, q.mono L⟩
  | .rd _, ⟨a, xs, e, f, g, q⟩ => ⟨a, xs, e, (h a f).1, (h a f).2.trans g, q.mono L⟩
  | .dk _, ⟨a, xs, e, f, g, q⟩ => ⟨a, xs, e, (h a f).1, (h a f).2.trans g, Kvs.mono L q⟩
  | .dt _, ⟨a, xs, e, f, g, q⟩ => ⟨a, xs, e, (h a f).1, (h a f).2.trans g, Kvs.mono L q⟩
theorem Dats.length : ∀ {v : List V} {d : List D}, Dats K o H v d → v.length = d.length
  | _, _, .nil => rfl
  | _, _, .cons _ r => congrArg (· + 1) r.length
theorem Dats.append : ∀ {v w : List V} {d e : List D}, Dats K o H v d → Dats K o H w e → Dats K o H (v ++ w) (d ++ e)
  | _, _, _, _, .nil, s => s
  | _, _, _, _, .cons a r, s => .cons a (r.append s)
theorem Dats.get : ∀ {v : List V} {d : List D} {i : Nat} {x : D}, Dats K o H v d → d[i]? = some x → ∃ u, v[i]? = some u ∧ Dat K o H u x
  | _, _, 0, _, .cons a _, rfl => ⟨_, rfl, a⟩
  | _, _, _ + 1, _, .cons _ r, e => r.get e
theorem Dats.getV : ∀ {v : List V} {d : List D} {i : Nat} {u : V}, Dats K o H v d → v[i]? = some u → ∃ x, d[i]? = some x ∧ Dat K o H u x
  | _, _, 0, _, .cons a _, rfl => ⟨_, rfl, a⟩
  | _, _, _ + 1, _, .cons _ r, e => r.getV e
theorem Dats.take : ∀ {v : List V} {d : List D} (n : Nat), Dats K o H v d → Dats K o H (v.take n) (d.take n)
  | _, _, 0, _ => .nil
  | _, _, _ + 1, .nil => .nil
  | _, _, n + 1, .cons a r => .cons a (r.take n)
theorem Dats.drop : ∀ {v : List V} {d : List D} (n : Nat), Dats K o H v d → Dats K o H (v.drop n) (d.drop n)
  | _, _, 0, r => r
  | _, _, _ + 1, .nil => .nil
  | _, _, n + 1, .cons _ r => r.drop n
theorem Dats.set {u : V} {x : D} (q : Dat K o H u x) : ∀ {v : List V} {d : List D} (i : Nat), Dats K o H v d → Dats K o H (v.set i u) (d.set i x)
  | _, _, _, .nil => .nil
  | _, _, 0, .cons _ r => .cons q r
  | _, _, i + 1, .cons a r => .cons a (r.set q i)
theorem Dats.reverse {v : List V} {d : List D} (h : Dats K o H v d) : Dats K o H v.reverse d.reverse := by
  induction v generalizing d with
  | nil => cases h; exact .nil
  | cons x r ih =>
    cases h with
    | cons a t => rw [List.reverse_cons, List.reverse_cons]; exact (ih t).append (.cons a .nil)
theorem Dats.dropLast {v : List V} {d : List D} (h : Dats K o H v d) : Dats K o H v.dropLast d.dropLast := by
  rw [List.dropLast_eq_take, List.dropLast_eq_take, h.length]; exact h.take _
theorem Dats.ints : ∀ {v : List V} {ns : List Int}, Dats K o H v (ns.map D.int) → v = ns.map V.int
  | _, [], h => by cases h; rfl
  | _, n :: ns, h => by
    cases h with
    | cons a r => cases a; rw [Dats.ints r]; rfl
theorem Dats.of_ints : ∀ (ns : List Int), Dats K o H (ns.map V.int) (ns.map D.int)
  | [] => .nil
  | n :: ns => .cons (.int n) (Dats.of_ints ns)
theorem Dats.bls : ∀ {v : List V} {ns : List Bool}, Dats K o H v (ns.map D.bl) → v = ns.map V.bl
  | _, [], h => by cases h; rfl
  | _, n :: ns, h => by
    cases h with
    | cons a r => cases a; rw [Dats.bls r]; rfl
end

/-! ### the state of a body -/
structure Cc where
  o0 : Own
  H0 : Hp
  pv : List V
def SlOk (K : PySem.W.Frag) (c : Cc) (o : Own) (σ : St) (H : Hp) (i : Nat) : Sl → Prop
  | .no => True
  | .lo m => ∃ v, σ[i]? = some (some v) ∧ IsM K o H (.s i) v m
  | .pa m => ∃ v, σ[i]? = some (some v) ∧ c.pv[i]? = some v ∧ IsM K o H (.s i) v m
  | .hd p v m => σ[i]? = some (some v) ∧ (p = true → c.pv[i]? = some v) ∧ IsM K o H (.h i) v m
/-- the slots, and the store -/
structure Env where
  sl : List Sl
  st : Sto
@[reducible] def Env.set (ρ : Env) (i : Nat) (s : Sl) : Env := ⟨ρ.sl.set i s, ρ.st⟩
/-- the store's n-th object is at a -/
def IsOb (K : PySem.W.Frag) (o : Own) (H : Hp) (n : Nat) (a : Addr) : Ob → Prop
  | .ls ds => ∃ xs, H a = some (.lst xs) ∧ Dats K o H xs ds
  | .dk kvs => ∃ ks, H a = some (.dK ks) ∧ Kvs K o H ks kvs
  | .dt kvs => ∃ ks, H a = some (.dT ks) ∧ Kvs K o H ks kvs
  | .ins C fs => ∃ dx vs, H a = some (.ins C dx vs) ∧ o dx = some (.k (.wd n)) ∧ H dx = some (.own a) ∧ Kvs K o H vs fs
structure StOk (K : PySem.W.Frag) (o : Own) (H : Hp) (W : Sto) : Prop where
  at_ : ∀ n u, W[n]? = some u → ∃ a, o a = some (.k (.w n)) ∧ IsOb K o H n a u
  one : ∀ a b n, o a = some (.k (.w n)) → o b = some (.k (.w n)) → a = b
  lt : ∀ a n, o a = some (.k (.w n)) → n < W.length
/-- what stays stands as it stood, and nothing new stays -/
structure Ks (o : Own) (H : Hp) (o' : Own) (H' : Hp) : Prop where
  f : ∀ b q, q.tbl = false → o b = some (.k q) → o' b = some (.k q) ∧ H' b = H b
  g : ∀ b q, o' b = some (.k q) → o b = some (.k q)
theorem IsOb.mono {K : PySem.W.Frag} {o o' : Own} {H H' : Hp} {n : Nat} {a : Addr} (L : Le o H o' H') (h : o a = some (.k (.w n))) (S : Ks o H o' H') : ∀ {u : Ob}, IsOb K o H n a u → IsOb K o' H' n a u
  | .ls _, ⟨xs, e, q⟩ => ⟨xs, (S.f _ _ rfl h).2.trans e, q.mono L⟩
  | .dk _, ⟨xs, e, q⟩ => ⟨xs, (S.f _ _ rfl h).2.trans e, Kvs.mono L q⟩
  | .dt _, ⟨xs, e, q⟩ => ⟨xs, (S.f _ _ rfl h).2.trans e, Kvs.mono L q⟩
  | .ins C fs, ⟨dx, vs, e, f, g, q⟩ => ⟨dx, vs, (S.f _ _ rfl h).2.trans e, (S.f _ _ rfl f).1, (S.f _ _ rfl f).2.trans g, Kvs.mono L q⟩
theorem StOk.mono {K : PySem.W.Frag} {o o' : Own} {H H' : Hp} {W : Sto} (L : Le o H o' H') (S : Ks o H o' H') (h : StOk K o H W) : StOk K o' H' W :=
  ⟨fun n u e => let ⟨a, e1, q⟩ := h.at_ n u e; ⟨a, (S.f _ _ rfl e1).1, q.mono L e1 S⟩, fun a b n e f => h.one a b n (S.g _ _ e) (S.g _ _ f), fun a n e => h.lt a n (S.g _ _ e)⟩
theorem Ks.refl {o : Own} {H : Hp} : Ks o H o H := ⟨fun _ _ _ e => ⟨e, rfl⟩, fun _ _ e => e⟩
theorem Ks.trans {o o1 o2 : Own} {H H1 H2 : Hp} (a : Ks o H o1 H1) (b : Ks o1 H1 o2 H2) : Ks o H o2 H2 :=
  ⟨fun c q w e => let ⟨e1, f1⟩ := a.f c q w e; let ⟨e2, f2⟩ := b.f c q w e1; ⟨e2, f2.trans f1⟩, fun c q e => a.g c q (b.g c q e)⟩
/-- an object with a label is changed -/
theorem Ks.upd {o : Own} {H : Hp} {a : Addr} {u : HO} (h : ∀ q, o a ≠ some (.k q)) : Ks o H o (L2.upd H a u) :=
  ⟨fun b q _ e => ⟨e, upd_ne fun z => h q (z ▸ e)⟩, fun _ _ e => e⟩
/-- a new object with a label -/
theorem Ks.new {o : Own} {H : Hp} {a : Addr} {u : HO} {l : Lb} (mu : ∀ a l, o a = some l → Mt (H a)) (hp : H a = none) (h : ∀ q, l ≠ .k q) : Ks o H (fun b => if b = a then some l else o b) (L2.upd H a u) :=
  ⟨fun b q _ e => by
    have ne : b ≠ a := fun z => by subst z; have := mu b _ e; rw [hp] at this; exact this
    exact ⟨by show (if b = a then _ else o b) = _; rw [if_neg ne]; exact e, upd_ne ne⟩,
   fun b q e => by
    have e : (if b = a then some l else o b) = some (.k q) := e
    split at e
    · injection e with e; exact absurd e (h q)
    · exact e⟩
structure Rep (K : PySem.W.Frag) (c : Cc) (o : Own) (σ : St) (H : Hp) (ρ : Env) (τ : List (V × M)) : Prop where
  sl : ∀ i s, ρ.sl[i]? = some s → SlOk K c o σ H i s
  tm : ∀ j v m, τ[j]? = some (v, m) → IsM K o H (.t j) v m ∧ m.own = true
  mu : ∀ a l, o a = some l → Mt (H a)
  le : Le c.o0 c.H0 o H
  ln : ρ.sl.length = σ.length
  st : StOk K o H ρ.st
/-- an object of the store, looked at -/
def Ob.vw (n : Nat) : Ob → M
  | .ls ds => .rd ds | .dk kvs => .dk kvs | .dt kvs => .dt kvs | .ins _ _ => .im (.obj n)
def vw (ρ : Env) : R → Option M
  | .im (.obj n) => match ρ.st[n]? with
    | some u => some (u.vw n)
    | none => none
  | .im d => some (.im d)
  | .tm m => some m
  | .sl i => match ρ.sl[i]? with
    | some s => s.m?
    | none => none
def RelR (K : PySem.W.Frag) (o : Own) (H : Hp) (σ : St) (v : V) (r : R) (τ τ' : List (V × M)) : Prop :=
  match r with
  | .im d => τ' = τ ∧ Dat K o H v d
  | .tm m => τ' = τ ++ [(v, m)]
  | .sl i => τ' = τ ∧ σ[i]? = some (some v)

section
variable {K : PySem.W.Frag} {c : Cc} {o o' : Own} {σ : St} {H H' : Hp} {ρ : Env} {τ τ' τ0 τ1 : List (V × M)} {v : V} {r : R} {m : M}
theorem SlOk.mono (L : Le o H o' H') {i : Nat} (h : ∀ a, o a = some (.s i) → o' a = some (.s i) ∧ H' a = H a) (hh : ∀ a, o a = some (.h i) → o' a = some (.h i) ∧ H' a = H a) : ∀ {s : Sl}, SlOk K c o σ H i s → SlOk K c o' σ H' i s
  | .no, _ => trivial
  | .lo _, ⟨v, e, q⟩ => ⟨v, e, q.mono L h⟩
  | .pa _, ⟨v, e, f, q⟩ => ⟨v, e, f, q.mono L h⟩
  | .hd _ _ _, ⟨e, f, q⟩ => ⟨e, f, q.mono L hh⟩
theorem SlOk.of {i : Nat} {s : Sl} (h : SlOk K c o σ H i s) (e : s.m? = some m) : ∃ v, σ[i]? = some (some v) ∧ Vw K o H v m := by
  cases s with
  | no => cases e
  | lo z => cases e; obtain ⟨v, a, q⟩ := h; exact ⟨v, a, _, q⟩
  | pa z => cases e; obtain ⟨v, a, _, q⟩ := h; exact ⟨v, a, _, q⟩
  | hd p v z =>
    obtain ⟨a, _, q⟩ := h
    cases z with
    | ls ds => cases e; exact ⟨v, a, _, q⟩
    | _ => cases e
theorem StOk.obj {W : Sto} (S : StOk K o H W) {n : Nat} {u : Ob} (e : W[n]? = some u) (h : Dat K o H v (.obj n)) : ∃ a, v = .ref a ∧ o a = some (.k (.w n)) ∧ IsOb K o H n a u := by
  obtain ⟨a, e1, q⟩ := S.at_ n u e
  cases h with
  | obj e2 => obtain rfl := S.one _ _ _ e1 e2; exact ⟨a, rfl, e1, q⟩
theorem StOk.vw {W : Sto} (S : StOk K o H W) {n : Nat} {u : Ob} (e : W[n]? = some u) (h : Dat K o H v (.obj n)) : Vw K o H v (u.vw n) := by
  obtain ⟨a, rfl, e1, q⟩ := S.obj e h
  cases u with
  | ls ds => obtain ⟨xs, e2, q⟩ := q; exact ⟨_, a, xs, rfl, e1, e2, q⟩
  | dk ds => obtain ⟨xs, e2, q⟩ := q; exact ⟨_, a, xs, rfl, e1, e2, q⟩
  | dt ds => obtain ⟨xs, e2, q⟩ := q; exact ⟨_, a, xs, rfl, e1, e2, q⟩
  | ins C fs => exact ⟨.x, h⟩
theorem Rep.vw_ok (R0 : Rep K c o σ H ρ τ) (h : RelR K o H σ v r τ0 τ1) (p : τ1 <+: τ) (e : vw ρ r = some m) : Vw K o H v m := by
  cases r with
  | im d =>
    unfold Y.vw at e
    split at e
    · rename_i n hh
      cases hh
      split at e
      · rename_i u eu
        cases e
        exact R0.st.vw eu h.2
      · cases e
    · rename_i hh
      cases hh
      cases e; exact ⟨.x, h.2⟩
    · rename_i hh; cases hh
    · rename_i hh; cases hh
  | tm z =>
    cases e
    have q : τ1 = τ0 ++ [(v, m)] := h
    subst q
    obtain ⟨t, rfl⟩ := p
    exact ⟨_, (R0.tm τ0.length v m (by simp)).1⟩
  | sl i =>
    obtain ⟨_, hs⟩ := h
    unfold vw at e
    cases q : ρ.sl[i]? with
    | none => simp only [q] at e; cases e
    | some s =>
      simp only [q] at e
      obtain ⟨w, hw, z⟩ := (R0.sl i s q).of e
      rw [hs] at hw; cases hw
      exact z
theorem RelR.mono (L : Le o H o' H') (h : RelR K o H σ v r τ τ') : RelR K o' H' σ v r τ τ' := by
  cases r with
  | im d => exact ⟨h.1, h.2.mono L⟩
  | tm z => exact h
  | sl i => exact h
theorem RelR.pre (h : RelR K o H σ v r τ τ') : τ <+: τ' := by
  cases r with
  | im d => rw [h.1]; exact List.prefix_rfl
  | tm z =>
    have q : τ' = τ ++ [(v, z)] := h
    rw [q]; exact List.prefix_append _ _
  | sl i => rw [h.1]; exact List.prefix_rfl
/-- only objects are added -/
def Grow (H H' : Hp) : Prop := ∀ b u, H b = some u → H' b = some u
theorem Grow.refl : Grow H H := fun _ _ h => h
theorem Grow.new {p : Addr} {u : HO} (h : H p = none) : Grow H (upd H p u) := fun b w e => by rw [upd_ne (ne_of_none e h)]; exact e
theorem mut_some (h : Mt (H v1)) : ∃ u, H v1 = some u := by
  cases e : H v1 with
  | none => rw [e] at h; exact h.elim
  | some u => exact ⟨u, rfl⟩
theorem Grow.le (g : Grow H H') (mu : ∀ a l, o a = some l → Mt (H a)) : Le o H o H' :=
  have at_ : ∀ b l, o b = some l → H' b = H b := fun b l e => by obtain ⟨u, q⟩ := mut_some (mu b l e); rw [q]; exact g b u q
  .mk' (fun b u e f => ⟨e, g b u f⟩) (fun b e => ⟨e, at_ b _ e⟩) fun b _ e => ⟨e, at_ b _ e⟩
theorem Grow.mu (g : Grow H H') (mu : ∀ a l, o a = some l → Mt (H a)) : ∀ a l, o a = some l → Mt (H' a) := fun a l e => by
  obtain ⟨u, q⟩ := mut_some (mu a l e)
  have := mu a l e
  rw [g a u q, ← q]; exact this
theorem Grow.at (g : Grow H H') (mu : ∀ a l, o a = some l → Mt (H a)) : ∀ a l, o a = some l → H' a = H a := fun a l e => by
  obtain ⟨u, q⟩ := mut_some (mu a l e)
  rw [g a u q, q]
theorem Grow.ks (g : Grow H H') (mu : ∀ a l, o a = some l → Mt (H a)) : Ks o H o H' := ⟨fun a _ _ q => ⟨q, g.at mu a _ q⟩, fun _ _ q => q⟩
theorem Rep.grow (R0 : Rep K c o σ H ρ τ) (g : Grow H H') : Rep K c o σ H' ρ τ :=
  ⟨fun i s e => (R0.sl i s e).mono (g.le R0.mu) (fun a q => ⟨q, g.at R0.mu a _ q⟩) fun a q => ⟨q, g.at R0.mu a _ q⟩, fun j v m e => ⟨(R0.tm j v m e).1.mono (g.le R0.mu) fun a q => ⟨q, g.at R0.mu a _ q⟩, (R0.tm j v m e).2⟩, g.mu R0.mu,
    R0.le.trans (g.le R0.mu), R0.ln, R0.st.mono (g.le R0.mu) (g.ks R0.mu)⟩
theorem Rep.fresh (R0 : Rep K c o σ H ρ τ) {p : Addr} (h : H p = none) : o p = none := by
  cases e : o p with
  | none => rfl
  | some l => have := R0.mu p l e; rw [h] at this; exact this.elim
/-- the temporaries from n on are let go: their objects are data now -/
def dropT (n : Nat) (o : Own) : Own := fun a => match o a with
  | some (.t j) => if j < n then some (.t j) else none
  | l => l
theorem dropT_le (n : Nat) : Le o H (dropT n o) H :=
  .mk' (fun b u e f => ⟨by unfold dropT; rw [e], f⟩) (fun b e => ⟨by unfold dropT; rw [e], rfl⟩) fun b _ e => ⟨(by unfold dropT; rw [e]), rfl⟩
theorem dropT_s {n i : Nat} {a : Addr} (h : o a = some (.s i)) : dropT n o a = some (.s i) := by unfold dropT; rw [h]
theorem dropT_h {n i : Nat} {a : Addr} (h : o a = some (.h i)) : dropT n o a = some (.h i) := by unfold dropT; rw [h]
theorem dropT_t {n j : Nat} {a : Addr} (h : o a = some (.t j)) (k : j < n) : dropT n o a = some (.t j) := by unfold dropT; rw [h]; simp [k]
theorem dropT_some {n : Nat} {a : Addr} {l : Lb} (h : dropT n o a = some l) : o a = some l := by
  unfold dropT at h
  split at h
  · rename_i j e
    split at h
    · rw [e]; exact h
    · cases h
  · exact h
theorem dropT_ks (n : Nat) : Ks o H (dropT n o) H := ⟨fun b q _ e => ⟨by unfold dropT; rw [e], rfl⟩, fun b q e => dropT_some e⟩
theorem Rep.drop (R0 : Rep K c o σ H ρ τ) (p : τ0 <+: τ) : Rep K c (dropT τ0.length o) σ H ρ τ0 := by
  obtain ⟨t, rfl⟩ := p
  refine ⟨fun i s e => (R0.sl i s e).mono (dropT_le _) (fun a q => ⟨dropT_s q, rfl⟩) fun a q => ⟨dropT_h q, rfl⟩, fun j v m e => ?_, fun a l e => R0.mu a l (dropT_some e), R0.le.trans (dropT_le _), R0.ln, R0.st.mono (dropT_le _) (dropT_ks _)⟩
  have hj : j < τ0.length := (List.getElem?_eq_some_iff.mp e).1
  have q := R0.tm j v m (by rw [List.getElem?_append_left hj]; exact e)
  exact ⟨q.1.mono (dropT_le _) fun a z => ⟨dropT_t z hj, rfl⟩, q.2⟩
/-- one more temporary -/
theorem Rep.push (R0 : Rep K c o σ H ρ τ) {p : Addr} {u : HO} (hp : H p = none) (hu : Mt (some u)) (hm : m.own = true)
    (h : IsM K (fun b => if b = p then some (.t τ.length) else o b) (upd H p u) (.t τ.length) (.ref p) m) :
    Rep K c (fun b => if b = p then some (.t τ.length) else o b) σ (upd H p u) ρ (τ ++ [(.ref p, m)]) ∧ Le o H (fun b => if b = p then some (.t τ.length) else o b) (upd H p u) := by
  have ne : ∀ b w, H b = some w → b ≠ p := fun b w e => ne_of_none e hp
  have neo : ∀ b l, o b = some l → b ≠ p := fun b l e => by obtain ⟨w, q⟩ := mut_some (R0.mu b l e); exact ne b w q
  have L : Le o H (fun b => if b = p then some (.t τ.length) else o b) (upd H p u) :=
    .mk' (fun b w e f => ⟨by show (if b = p then _ else o b) = none; rw [if_neg (ne b w f)]; exact e, by rw [upd_ne (ne b w f)]; exact f⟩)
     (fun b e => ⟨by show (if b = p then _ else o b) = _; rw [if_neg (neo b _ e)]; exact e, upd_ne (neo b _ e)⟩)
     fun b _ e => ⟨(by show (if b = p then _ else o b) = _; rw [if_neg (neo b _ e)]; exact e), upd_ne (neo b _ e)⟩
  have kp : ∀ l a, o a = some l → (if a = p then some (.t τ.length) else o a) = some l ∧ upd H p u a = H a := fun l a e => ⟨by rw [if_neg (neo a _ e)]; exact e, upd_ne (neo a _ e)⟩
  refine ⟨⟨fun i s e => (R0.sl i s e).mono L (kp _) (kp _), fun j v m' e => ?_, fun a l e => ?_, R0.le.trans L, R0.ln, R0.st.mono L (Ks.new R0.mu hp (by intro q z; cases z))⟩, L⟩
  · by_cases hj : j < τ.length
    · rw [List.getElem?_append_left hj] at e
      exact ⟨(R0.tm j v m' e).1.mono L (kp _), (R0.tm j v m' e).2⟩
    · rw [List.getElem?_append_right (by omega)] at e
      have hz : j - τ.length = 0 := by
        cases q : j - τ.length with
        | zero => rfl
        | succ n => rw [q] at e; simp at e
      rw [hz] at e
      have e2 : j = τ.length := by omega
      subst e2
      simp at e
      obtain ⟨rfl, rfl⟩ := e
      exact ⟨h, hm⟩
  · by_cases q : a = p
    · subst q; rw [upd_same]; exact hu
    · have e : (if a = p then some (.t τ.length) else o a) = some l := e
      rw [if_neg q] at e
      rw [upd_ne q]
      exact R0.mu a l e
/-- a result: data, or a new object -/
def NewM (K : PySem.W.Frag) (o : Own) (H H' : Hp) (v : V) : M → Prop
  | .im d => Dat K o H' v d
  | .ls ds => ∃ p xs, v = .ref p ∧ H p = none ∧ H' = upd H p (.lst xs) ∧ Dats K o H xs ds
  | .dk kvs => ∃ p ks, v = .ref p ∧ H p = none ∧ H' = upd H p (.dK ks) ∧ Kvs K o H ks kvs
  | .dt kvs => ∃ p ks, v = .ref p ∧ H p = none ∧ H' = upd H p (.dT ks) ∧ Kvs K o H ks kvs
  | .sq _ => False
  | .rd _ => False
/-- behind an operation that only makes: temporaries of the operands are let go -/
theorem Rep.made (R0 : Rep K c o σ H ρ τ) (p : τ0 <+: τ) (g : Grow H H') (h : NewM K o H H' v m) :
    ∃ o' τ', Le o H o' H' ∧ Rep K c o' σ H' ρ τ' ∧ RelR K o' H' σ v m.res τ0 τ' := by
  have R1 := R0.drop p
  have L1 : Le o H (dropT τ0.length o) H := dropT_le _
  cases m with
  | im d =>
    have h : Dat K o H' v d := h
    refine ⟨dropT τ0.length o, τ0, L1.trans (g.le R1.mu), R1.grow g, rfl, h.mono (dropT_le _)⟩
  | sq ds => exact h.elim
  | rd ds => exact h.elim
  | ls ds =>
    obtain ⟨a, xs, rfl, ha, rfl, q⟩ := h
    have ne : ∀ b w, H b = some w → b ≠ a := fun b w e => ne_of_none e ha
    have neo : ∀ b l, dropT τ0.length o b = some l → b ≠ a := fun b l e => by obtain ⟨w, q⟩ := mut_some (R1.mu b l e); exact ne b w q
    have L : Le (dropT τ0.length o) H (fun b => if b = a then some (.t τ0.length) else dropT τ0.length o b) (upd H a (.lst xs)) :=
      .mk' (fun b w e f => ⟨by show (if b = a then _ else _) = none; rw [if_neg (ne b w f)]; exact e, by rw [upd_ne (ne b w f)]; exact f⟩)
       (fun b e => ⟨by show (if b = a then _ else _) = _; rw [if_neg (neo b _ e)]; exact e, upd_ne (neo b _ e)⟩)
       fun b _ e => ⟨(by show (if b = a then _ else _) = _; rw [if_neg (neo b _ e)]; exact e), upd_ne (neo b _ e)⟩
    obtain ⟨R2, _⟩ := R1.push (m := .ls ds) (u := .lst xs) ha trivial rfl ⟨a, xs, rfl, by simp, upd_same, (q.mono L1).mono L⟩
    exact ⟨_, _, L1.trans L, R2, rfl⟩
  | dk kvs =>
    obtain ⟨a, xs, rfl, ha, rfl, q⟩ := h
    have ne : ∀ b w, H b = some w → b ≠ a := fun b w e => ne_of_none e ha
    have neo : ∀ b l, dropT τ0.length o b = some l → b ≠ a := fun b l e => by obtain ⟨w, q⟩ := mut_some (R1.mu b l e); exact ne b w q
    have L : Le (dropT τ0.length o) H (fun b => if b = a then some (.t τ0.length) else dropT τ0.length o b) (upd H a (.dK xs)) :=
      .mk' (fun b w e f => ⟨by show (if b = a then _ else _) = none; rw [if_neg (ne b w f)]; exact e, by rw [upd_ne (ne b w f)]; exact f⟩)
       (fun b e => ⟨by show (if b = a then _ else _) = _; rw [if_neg (neo b _ e)]; exact e, upd_ne (neo b _ e)⟩)
       fun b _ e => ⟨(by show (if b = a then _ else _) = _; rw [if_neg (neo b _ e)]; exact e), upd_ne (neo b _ e)⟩
    obtain ⟨R2, _⟩ := R1.push (m := .dk kvs) (u := .dK xs) ha trivial rfl ⟨a, xs, rfl, by simp, upd_same, Kvs.mono L (Kvs.mono L1 q)⟩
    exact ⟨_, _, L1.trans L, R2, rfl⟩
  | dt kvs =>
    obtain ⟨a, xs, rfl, ha, rfl, q⟩ := h
    have ne : ∀ b w, H b = some w → b ≠ a := fun b w e => ne_of_none e ha
    have neo : ∀ b l, dropT τ0.length o b = some l → b ≠ a := fun b l e => by obtain ⟨w, q⟩ := mut_some (R1.mu b l e); exact ne b w q
    have L : Le (dropT τ0.length o) H (fun b => if b = a then some (.t τ0.length) else dropT τ0.length o b) (upd H a (.dT xs)) :=
      .mk' (fun b w e f => ⟨by show (if b = a then _ else _) = none; rw [if_neg (ne b w f)]; exact e, by rw [upd_ne (ne b w f)]; exact f⟩)
       (fun b e => ⟨by show (if b = a then _ else _) = _; rw [if_neg (neo b _ e)]; exact e, upd_ne (neo b _ e)⟩)
       fun b _ e => ⟨(by show (if b = a then _ else _) = _; rw [if_neg (neo b _ e)]; exact e), upd_ne (neo b _ e)⟩
    obtain ⟨R2, _⟩ := R1.push (m := .dt kvs) (u := .dT xs) ha trivial rfl ⟨a, xs, rfl, by simp, upd_same, Kvs.mono L (Kvs.mono L1 q)⟩
    exact ⟨_, _, L1.trans L, R2, rfl⟩
end
end Y
namespace Y
open PySem PySem.Spec L2

/-! ### data as the library's -/
mutual
def D.py : D → PyData
  | .non => .none
  | .bl b => .bool b
  | .int i => .int i
  | .str x => .str x
  | .tup ds => .tuple (D.pys ds)
  | .lst ds => .list (D.pys ds)
  | .raw _ => .dict []
  | .fnv _ _ _ _ _ => .dict []
  | .obj _ => .dict []
def D.pys : List D → List PyData
  | [] => []
  | d :: ds => d.py :: D.pys ds
end
mutual
def D.ok : Nat → D → Bool
  | _, .non => true
  | _, .bl _ => true
  | _, .int _ => true
  | _, .str x => PyData.strOk x
  | 0, .tup _ => false
  | n + 1, .tup ds => D.oks n ds
  | 0, .lst _ => false
  | n + 1, .lst ds => D.oks n ds
  | _, .raw _ => false
  | _, .fnv _ _ _ _ _ => false
  | _, .obj _ => false
def D.oks : Nat → List D → Bool
  | _, [] => true
  | n, d :: ds => D.ok n d && D.oks n ds
end
theorem D.pys_map : ∀ ds : List D, D.pys ds = ds.map D.py
  | [] => rfl
  | d :: ds => by simp only [D.pys, List.map_cons]; rw [D.pys_map ds]
theorem D.oks_all (n : Nat) : ∀ ds : List D, D.oks n ds = ds.all (D.ok n)
  | [] => rfl
  | d :: ds => by simp only [D.oks, List.all_cons]; rw [D.oks_all n ds]
mutual
theorem D.ok_lay : ∀ (n : Nat) (d : D), D.ok n d = true → d.py.canLay0 = true ∧ d.py.depth ≤ n
  | n, .non, _ => by simp [D.py, PyData.canLay0, PyData.depth]
  | n, .bl _, _ => by simp [D.py, PyData.canLay0, PyData.depth]
  | n, .int _, _ => by simp [D.py, PyData.canLay0, PyData.depth]
  | n, .str x, h => by
    have h : PyData.strOk x = true := by simpa [D.ok] using h
    simp [D.py, PyData.canLay0, PyData.depth, h]
  | 0, .tup _, h => by simp [D.ok] at h
  | n + 1, .tup ds, h => by
    have h : D.oks n ds = true := by simpa [D.ok] using h
    have q := D.oks_lay n ds h
    simp only [D.py, PyData.canLay0, PyData.depth]
    exact ⟨q.1, by omega⟩
  | 0, .lst _, h => by simp [D.ok] at h
  | n + 1, .lst ds, h => by
    have h : D.oks n ds = true := by simpa [D.ok] using h
    have q := D.oks_lay n ds h
    simp only [D.py, PyData.canLay0, PyData.depth]
    exact ⟨q.1, by omega⟩
  | n, .raw _, h => by simp [D.ok] at h
  | n, .fnv _ _ _ _ _, h => by simp [D.ok] at h
  | n, .obj _, h => by simp [D.ok] at h
theorem D.oks_lay : ∀ (n : Nat) (ds : List D), D.oks n ds = true → PyData.canLayAll0 (D.pys ds) = true ∧ PyData.depthAll (D.pys ds) ≤ n
  | n, [], _ => by simp [D.pys, PyData.canLayAll0, PyData.depthAll]
  | n, d :: ds, h => by
    simp only [D.oks, Bool.and_eq_true] at h
    have a := D.ok_lay n d h.1
    have b := D.oks_lay n ds h.2
    simp only [D.pys, PyData.canLayAll0, PyData.depthAll, Bool.and_eq_true]
    exact ⟨⟨a.1, b.1⟩, by omega⟩
end
theorem D.ok_shaped {d : D} (h : D.ok 64 d = true) : SeqAt.shaped d.py = true := by
  have q := D.ok_lay 64 d h
  unfold SeqAt.shaped
  rw [q.1, decide_eq_true q.2]; rfl
def D.eqv (d e : D) : Bool := PyData.eqv d.py e.py

section
variable {K : PySem.W.Frag} {o o' : Own} {H H' : Hp} {l l' : Lb} {v : V}
mutual
theorem Dat.dp : ∀ {n : Nat} {v : V} {d : D}, Dat K o H v d → D.ok n d = true → Dp K H v d.py
  | _, _, _, .non, _ => by simp only [D.py]; exact .non
  | _, _, _, .bl b, _ => by simp only [D.py]; exact .bl b
  | _, _, _, .int b, _ => by simp only [D.py]; exact .int b
  | _, _, _, .str b, _ => by simp only [D.py]; exact .str b
  | _, _, _, .raw b, h => by simp [D.ok] at h
  | _, _, _, .fnv _ _ _, h => by simp [D.ok] at h
  | _, _, _, .obj _, h => by simp [D.ok] at h
  | 0, _, _, .tup _ _, h => by simp [D.ok] at h
  | n + 1, _, _, .tup h r, q => by
    simp only [D.py]
    exact .tup h.sq (Dats.dp r (by simpa [D.ok] using q))
  | 0, _, _, .lst _ _ _, h => by simp [D.ok] at h
  | n + 1, _, _, .lst e h r, q => by
    simp only [D.py]
    exact .lst (SqL.of h) (Dats.dp r (by simpa [D.ok] using q))
theorem Dats.dp : ∀ {n : Nat} {v : List V} {d : List D}, Dats K o H v d → D.oks n d = true → DpAll K H v (D.pys d)
  | _, _, _, .nil, _ => by simp only [D.pys]; exact .nil
  | n, _, _, .cons a r, h => by
    simp only [D.oks, Bool.and_eq_true] at h
    simp only [D.pys]
    exact .cons (Dat.dp a h.1) (Dats.dp r h.2)
end
def M.dat? : M → Option D
  | .im d => some d
  | .ls ds => some (.lst ds)
  | .sq ds => some (.lst ds)
  | .rd ds => some (.lst ds)
  | _ => none
theorem Vw.dp {m : M} {d : D} (h : Vw K o H v m) (e : m.dat? = some d) (k : D.ok 64 d = true) : Dp K H v d.py := by
  obtain ⟨l, h⟩ := h
  cases m with
  | im x => cases e; exact Dat.dp h k
  | ls ds =>
    cases e
    obtain ⟨a, xs, rfl, _, g, q⟩ := h
    simp only [D.py]
    exact .lst (SqL.of g) (Dats.dp (n := 63) q (by simpa [D.ok] using k))
  | sq ds =>
    cases e
    obtain ⟨a, xs, rfl, g, q⟩ := h
    simp only [D.py]
    exact .lst g.sq (Dats.dp (n := 63) q (by simpa [D.ok] using k))
  | rd ds =>
    cases e
    obtain ⟨a, xs, rfl, _, g, q⟩ := h
    simp only [D.py]
    exact .lst (SqL.of g) (Dats.dp (n := 63) q (by simpa [D.ok] using k))
  | dk _ => cases e
  | dt _ => cases e
/-- a list, by its items -/
def M.lst? : M → Option (List D)
  | .ls ds => some ds
  | .rd ds => some ds
  | .im (.lst ds) => some ds
  | _ => none
theorem Vw.lst {m : M} {ds : List D} (h : Vw K o H v m) (e : m.lst? = some ds) : ∃ a xs, v = .ref a ∧ H a = some (.lst xs) ∧ Dats K o H xs ds := by
  obtain ⟨l, h⟩ := h
  cases m with
  | im x =>
    cases x with
    | lst es => cases e; cases (show Dat K o H v (.lst ds) from h) with | lst e h' r => exact ⟨_, _, rfl, h', r⟩
    | _ => cases e
  | ls es => cases e; obtain ⟨a, xs, rfl, _, g, q⟩ := h; exact ⟨a, xs, rfl, g, q⟩
  | rd es => cases e; obtain ⟨a, xs, rfl, _, g, q⟩ := h; exact ⟨a, xs, rfl, g, q⟩
  | _ => cases e
/-- .. that is only read -/
def M.lq? : M → Option (List D)
  | .ls ds => some ds
  | .sq ds => some ds
  | .rd ds => some ds
  | .im (.lst ds) => some ds
  | _ => none
theorem Vw.lq {m : M} {ds : List D} (h : Vw K o H v m) (e : m.lq? = some ds) : ∃ a xs, v = .ref a ∧ SqL K H a xs ∧ Dats K o H xs ds := by
  cases m with
  | im x =>
    obtain ⟨a, xs, e1, e2, e3⟩ := Vw.lst (m := .im x) (ds := ds) h (by cases x <;> first | exact e | cases e)
    exact ⟨a, xs, e1, SqL.of e2, e3⟩
  | ls es => cases e; obtain ⟨l, a, xs, rfl, _, g, q⟩ := h; exact ⟨a, xs, rfl, SqL.of g, q⟩
  | sq es => cases e; obtain ⟨l, a, xs, rfl, g, q⟩ := h; exact ⟨a, xs, rfl, g.sq, q⟩
  | rd es => cases e; obtain ⟨l, a, xs, rfl, _, g, q⟩ := h; exact ⟨a, xs, rfl, SqL.of g, q⟩
  | _ => cases e
theorem Vw.tup {ds : List D} (h : Vw K o H v (.im (.tup ds))) : ∃ a xs, v = .ref a ∧ Tp K o H a xs ∧ Dats K o H xs ds := by
  obtain ⟨l, h⟩ := h
  cases (show Dat K o H v (.tup ds) from h) with
  | tup a r => exact ⟨_, _, rfl, a, r⟩
theorem Vw.int {i : Int} (h : Vw K o H v (.im (.int i))) : v = .int i := by
  obtain ⟨l, h⟩ := h; cases (show Dat K o H v (.int i) from h); rfl
theorem Vw.bl {i : Bool} (h : Vw K o H v (.im (.bl i))) : v = .bl i := by
  obtain ⟨l, h⟩ := h; cases (show Dat K o H v (.bl i) from h); rfl
theorem Vw.str {i : Str} (h : Vw K o H v (.im (.str i))) : v = .str i := by
  obtain ⟨l, h⟩ := h; cases (show Dat K o H v (.str i) from h); rfl
theorem Vw.non (h : Vw K o H v (.im .non)) : v = .non := by
  obtain ⟨l, h⟩ := h; cases (show Dat K o H v .non from h); rfl
theorem Vw.mono (L : Le o H o' H') (h : ∀ a l, o a = some l → o' a = some l ∧ H' a = H a) {m : M} (q : Vw K o H v m) : Vw K o' H' v m :=
  let ⟨l, z⟩ := q; ⟨l, z.mono L fun a e => h a l e⟩
end

/-! ### the judgements over data -/
abbrev TX := Env → (R → Env → Prop) → Prop
abbrev TQ := Env → (Bool → Env → Prop) → Prop
abbrev TL := Env → (List R → Env → Prop) → Prop
def TEo (K : PySem.W.Frag) (c : Cc) (t : TX) : TE := fun σ H k => ∃ o ρ τ Q, Rep K c o σ H ρ τ ∧ t ρ Q ∧
  ∀ v H' o' r ρ' τ', Le o H o' H' → Rep K c o' σ H' ρ' τ' → RelR K o' H' σ v r τ τ' → Q r ρ' → k v H'
def TTo (K : PySem.W.Frag) (c : Cc) (t : TQ) : TT := fun σ H k => ∃ o ρ τ Q, Rep K c o σ H ρ τ ∧ t ρ Q ∧
  ∀ b H' o' ρ', Le o H o' H' → Rep K c o' σ H' ρ' τ → Q b ρ' → k b H'
inductive RelRs (K : PySem.W.Frag) (o : Own) (H : Hp) (σ : St) : List V → List R → List (V × M) → List (V × M) → Prop
  | nil {τ} : RelRs K o H σ [] [] τ τ
  | cons {v vs r rs τ τ1 τ'} : RelR K o H σ v r τ τ1 → RelRs K o H σ vs rs τ1 τ' → RelRs K o H σ (v :: vs) (r :: rs) τ τ'
def TAo (K : PySem.W.Frag) (c : Cc) (t : TL) : TA := fun σ H k => ∃ o ρ τ Q, Rep K c o σ H ρ τ ∧ t ρ Q ∧
  ∀ vs H' o' rs ρ' τ', Le o H o' H' → Rep K c o' σ H' ρ' τ' → RelRs K o' H' σ vs rs τ τ' → Q rs ρ' → k vs H'
def DE (X : Cx) (c : Cc) (e : Expr) (t : TX) : Prop := PE X e (TEo X.K c t)
def DT (X : Cx) (c : Cc) (e : Expr) (t : TQ) : Prop := PT X e (TTo X.K c t)
def DW (X : Cx) (c : Cc) (e : Expr) (t : TQ) : Prop := PW X e (TTo X.K c t)
def DA (X : Cx) (c : Cc) (es : List Expr) (t : TL) : Prop := PA X es (TAo X.K c t)
theorem peImp {X : Cx} {e : Expr} {t t' : TE} (h : PE X e t) (f : ∀ σ H k, t' σ H k → t σ H k) : PE X e t' := ⟨fun pins s σ H Q I q => h.run pins s σ H Q I (f _ _ _ q)⟩
theorem ptImp {X : Cx} {e : Expr} {t t' : TT} (h : PT X e t) (f : ∀ σ H k, t' σ H k → t σ H k) : PT X e t' := ⟨fun pins s σ H Q I q => h.run pins s σ H Q I (f _ _ _ q)⟩
theorem pwImp {X : Cx} {e : Expr} {t t' : TT} (h : PW X e t) (f : ∀ σ H k, t' σ H k → t σ H k) : PW X e t' := ⟨fun wh pins s σ H Q I q => h.run wh pins s σ H Q I (f _ _ _ q)⟩
theorem paImp {X : Cx} {e : List Expr} {t t' : TA} (h : PA X e t) (f : ∀ σ H k, t' σ H k → t σ H k) : PA X e t' := ⟨fun pos pins s σ H Q I q => h.run pos pins s σ H Q I (f _ _ _ q)⟩

section
variable {K : PySem.W.Frag} {c : Cc} {o o' : Own} {σ : St} {H H' : Hp} {ρ : Env} {τ τ' τ0 τ1 : List (V × M)}
theorem RelRs.mono (L : Le o H o' H') : ∀ {vs rs τ τ'}, RelRs K o H σ vs rs τ τ' → RelRs K o' H' σ vs rs τ τ'
  | _, _, _, _, .nil => .nil
  | _, _, _, _, .cons a r => .cons (a.mono L) (RelRs.mono L r)
theorem RelRs.pre : ∀ {vs rs τ τ'}, RelRs K o H σ vs rs τ τ' → τ <+: τ'
  | _, _, _, _, .nil => List.prefix_rfl
  | _, _, _, _, .cons a r => a.pre.trans r.pre
theorem RelRs.length : ∀ {vs rs τ τ'}, RelRs K o H σ vs rs τ τ' → vs.length = rs.length
  | _, _, _, _, .nil => rfl
  | _, _, _, _, .cons _ r => congrArg (· + 1) r.length
end

/-! ### names and constants -/
section
variable {X : Cx} {c : Cc} {e a b : Expr} {es : List Expr} {pos : Pos} {t ta tb : TX}
def tIm (d : D) : TX := fun ρ Q => Q (.im d) ρ
def tNm (i : Nat) : TX := fun ρ Q => match ρ.sl[i]? with
  | some s => match s.m? with
    | some (.im d) => Q (.im d) ρ
    | some _ => Q (.sl i) ρ
    | none => False
  | none => False
theorem de_var (i : Nat) {x : Str} (hN : X.N[i]? = some x := by rfl) (hv : Vis X.env.scope x := by first | exact Or.inl rfl | exact Or.inr (Or.inl rfl) | exact Or.inr (Or.inr rfl)) (hd : (x == ("__debug__" : Str)) = false := by decide)
    (hcd : (x == ("__classdict__" : Str)) = false := by decide) : DE X c (.Name x pos) (tNm i) := by
  refine peImp (pe_var (i := i) hN hv hd hcd) fun σ H k h => ?_
  obtain ⟨o, ρ, τ, Q, R0, h, q⟩ := h
  unfold tNm at h
  split at h
  · rename_i s hs
    split at h
    · rename_i d hm
      obtain ⟨v, e, _, z⟩ := (R0.sl i s hs).of hm
      exact ⟨v, e, q v H o (.im d) ρ τ .refl R0 ⟨rfl, z⟩ h⟩
    · rename_i m _ hm
      obtain ⟨v, e, z⟩ := (R0.sl i s hs).of hm
      exact ⟨v, e, q v H o (.sl i) ρ τ .refl R0 ⟨rfl, e⟩ h⟩
    · exact h.elim
  · exact h.elim
theorem de_c {d : D} {v : V} (h : PE X e (tC v)) (hd : ∀ o H, Dat X.K o H v d) : DE X c e (tIm d) := peImp h fun σ H k ⟨o, ρ, τ, Q, R0, h, q⟩ => q v H o (.im d) ρ τ .refl R0 ⟨rfl, hd o H⟩ h
theorem de_int {i j pos} : DE X c (.Constant (.int i) j pos) (tIm (.int i)) := de_c pe_int fun _ _ => .int i
theorem de_bl {i j pos} : DE X c (.Constant (.bool i) j pos) (tIm (.bl i)) := de_c pe_bl fun _ _ => .bl i
theorem de_non {j pos} : DE X c (.Constant .none j pos) (tIm .non) := de_c pe_non fun _ _ => .non
theorem de_str {i j pos} : DE X c (.Constant (.str i) j pos) (tIm (.str i)) := de_c pe_str fun _ _ => .str i
/-- a global name: an int, a text, a def, a class -/
theorem de_glob {x : Str} {v : V} {u : Value} {d : D} (hg : Gl X x) (hm : X.mg x = some u) (r : RelV v u) (hd : ∀ o H, Dat X.K o H v d) (hdb : (x == ("__debug__" : Str)) = false := by decide) : DE X c (.Name x pos) (tIm d) :=
  de_c (pe_glob hg hm r hdb) hd
theorem de_bltn {x : Str} {v : V} {u : Value} (hg : Gl X x) (hm : X.mg x = none) (hv : bootBuiltins x = some u) (r : RelV v u) (hn : x ≠ "__name__" := by decide) (hdb : (x == ("__debug__" : Str)) = false := by decide) : DE X c (.Name x pos) (tIm (.raw v)) :=
  de_c (pe_bltn hg hm hv r hn hdb) fun _ _ => .raw v

/-! ### operations on two values -/
abbrev G2 := M → M → (M → Prop) → Prop
def rOp (K : PySem.W.Frag) (g : G2) : R2 := fun x y H k => ∃ o m1 m2 G, (∀ a l, o a = some l → Mt (H a)) ∧ Vw K o H x m1 ∧ Vw K o H y m2 ∧ g m1 m2 G ∧ ∀ v H' m, Grow H H' → NewM K o H H' v m → G m → k v H'
def w2 (ρ : Env) (r1 r2 : R) (f : M → M → Prop) : Prop := match vw ρ r1, vw ρ r2 with
  | some m1, some m2 => f m1 m2
  | _, _ => False
def tBin (g : G2) (ta tb : TX) : TX := fun ρ Q => ta ρ fun r1 ρ1 => tb ρ1 fun r2 ρ2 => w2 ρ2 r1 r2 fun m1 m2 => g m1 m2 fun m => Q m.res ρ2
theorem tBin_of {K : PySem.W.Frag} {g : G2} {σ : St} {H : Hp} {k : VK} (h : TEo K c (tBin g ta tb) σ H k) : tOp (rOp K g) (TEo K c ta) (TEo K c tb) σ H k := by
  obtain ⟨o, ρ, τ, Q, R0, h, q⟩ := h
  refine ⟨o, ρ, τ, _, R0, h, fun v1 H1 o1 r1 ρ1 τ1 L1 R1 z1 h1 => ?_⟩
  refine ⟨o1, ρ1, τ1, _, R1, h1, fun v2 H2 o2 r2 ρ2 τ2 L2 R2 z2 h2 => ?_⟩
  unfold w2 at h2
  split at h2
  · rename_i m1 m2 e1 e2
    have y1 := R2.vw_ok (z1.mono L2) z2.pre e1
    have y2 := R2.vw_ok z2 List.prefix_rfl e2
    refine ⟨o2, m1, m2, _, R2.mu, y1, y2, h2, fun v H' m g1 nm hm => ?_⟩
    obtain ⟨o', τ', L, R', z⟩ := R2.made (z1.pre.trans z2.pre) g1 nm
    exact q v H' o' _ ρ2 τ' (L1.trans (L2.trans L)) R' z hm
  · exact h2.elim
def OpG (X : Cx) (f : Value → Value → Sem Value) (g : G2) : Prop := OpR X f (rOp X.K g)
theorem opG {f : Value → Value → Sem Value} {g : G2} {r : R2} (h : OpR X f r) (i : ∀ x y H k, rOp X.K g x y H k → r x y H k) : OpG X f g := fun pins s σ H x y v u Q I rx ry q => h pins s σ H x y v u Q I rx ry (i _ _ _ _ q)
theorem de_op {op : Operator} {g : G2} (ho : OpG X (binaryOp op) g) (ha : DE X c a ta) (hb : DE X c b tb) : DE X c (.BinOp a op b pos) (tBin g ta tb) :=
  peImp (pe_op ho ha hb) fun _ _ _ h => tBin_of h
theorem de_cmp {op : CmpOp} {g : G2} (ho : OpG X (compareOp op) g) (ha : DE X c a ta) (hb : DE X c b tb) (hm : behindInMarks op b = false := by first | exact nomark _ | rfl) : DE X c (.Compare a [op] [b] pos) (tBin g ta tb) :=
  peImp (pe_cmpR ho ha hb hm) fun _ _ _ h => tBin_of h
/-- a value that is a bool, as a test -/
def tTst (t : TX) : TQ := fun ρ Q => t ρ fun r ρ1 => match r with
  | .im (.bl b) => Q b ρ1
  | _ => False
theorem tTst_of {K : PySem.W.Frag} {σ : St} {H : Hp} {k : Bool → Hp → Prop} (h : TTo K c (tTst t) σ H k) : tTest (TEo K c t) σ H k := by
  obtain ⟨o, ρ, τ, Q, R0, h, q⟩ := h
  refine ⟨o, ρ, τ, _, R0, h, fun v1 H1 o1 r1 ρ1 τ1 L1 R1 z1 h1 => ?_⟩
  split at h1
  · rename_i b
    obtain ⟨rfl, z⟩ := z1
    cases z
    exact ⟨b, rfl, q b H1 o1 ρ1 L1 R1 h1⟩
  · exact h1.elim
theorem dt_cmp {op : CmpOp} {g : G2} (ho : OpG X (compareOp op) g) (ha : DE X c a ta) (hb : DE X c b tb) (hm : behindInMarks op b = false := by first | exact nomark _ | rfl) : DT X c (.Compare a [op] [b] pos) (tTst (tBin g ta tb)) :=
  ptImp (pt_cmpR ho ha hb hm) fun σ H k h => by
    obtain ⟨o, ρ, τ, Q, R0, h, q⟩ := h
    refine tBin_of ⟨o, ρ, τ, _, R0, h, fun v1 H1 o1 r1 ρ1 τ1 L1 R1 z1 h1 => ?_⟩
    split at h1
    · rename_i b
      obtain ⟨rfl, z⟩ := z1
      cases z
      exact ⟨b, rfl, q b H1 o1 ρ1 L1 R1 h1⟩
    · exact h1.elim
theorem dt_val (h : DE X c e t) (he : ∀ whole, isTrue e X.env whole = (do let v ← whole; standAt e.pos; holding [v] (truthy v)) := by intro _; rfl) : DT X c e (tTst t) := ptImp (pt_val h he) fun _ _ _ h => tTst_of h

/-! ### truth -/
def M.tru : M → Option Bool
  | .im .non => some false
  | .im (.bl b) => some b
  | .im (.int i) => some (i != 0)
  | .im (.tup ds) => some (!ds.isEmpty)
  | .im (.lst ds) => some (!ds.isEmpty)
  | .ls ds => some (!ds.isEmpty)
  | .sq ds => some (!ds.isEmpty)
  | .rd ds => some (!ds.isEmpty)
  | .dk kvs => some (!kvs.isEmpty)
  | _ => none
theorem Dats.empty {K : PySem.W.Frag} {o : Own} {H : Hp} {xs : List V} {ds : List D} (h : Dats K o H xs ds) : ds.isEmpty = xs.isEmpty := by cases h <;> rfl
theorem Vw.tru {K : PySem.W.Frag} {o : Own} {H : Hp} {v : V} {m : M} {b : Bool} (h : Vw K o H v m) (e : m.tru = some b) : TruV K v H b := by
  cases m with
  | im d =>
    cases d with
    | non => cases e; rw [h.non]; rfl
    | bl b => cases e; rw [h.bl]; rfl
    | int b => cases e; rw [h.int]; rfl
    | str b => cases e
    | raw b => cases e
    | fnv _ _ _ _ _ => cases e
    | obj _ => cases e
    | tup ds => cases e; obtain ⟨a, xs, rfl, g, q⟩ := h.tup; exact .inr (.inl ⟨xs, g.sq, by rw [q.empty]⟩)
    | lst ds => cases e; obtain ⟨a, xs, rfl, g, q⟩ := h.lst rfl; exact .inl ⟨xs, SqL.of g, by rw [q.empty]⟩
  | ls ds => cases e; obtain ⟨a, xs, rfl, g, q⟩ := h.lq rfl; exact .inl ⟨xs, g, by rw [q.empty]⟩
  | sq ds => cases e; obtain ⟨a, xs, rfl, g, q⟩ := h.lq rfl; exact .inl ⟨xs, g, by rw [q.empty]⟩
  | rd ds => cases e; obtain ⟨a, xs, rfl, g, q⟩ := h.lq rfl; exact .inl ⟨xs, g, by rw [q.empty]⟩
  | dk kvs => cases e; obtain ⟨l, a, ks, rfl, _, g, q⟩ := h; exact .inr (.inr ⟨ks, g, by cases q <;> rfl⟩)
  | dt kvs => cases e
def tTru (t : TX) : TQ := fun ρ Q => t ρ fun r ρ1 => match vw ρ1 r with
  | some m => match m.tru with
    | some b => Q b ρ1
    | none => False
  | none => False
theorem dt_tru (h : DE X c e t) (he : ∀ whole, isTrue e X.env whole = (do let v ← whole; standAt e.pos; holding [v] (truthy v)) := by intro _; rfl) : DT X c e (tTru t) :=
  ptImp (pt_truth h he) fun σ H k h => by
    obtain ⟨o, ρ, τ, Q, R0, h, q⟩ := h
    refine ⟨o, ρ, τ, _, R0, h, fun v1 H1 o1 r1 ρ1 τ1 L1 R1 z1 h1 => ?_⟩
    split at h1
    · rename_i m hm
      split at h1
      · rename_i b hb
        have R2 := R1.drop z1.pre
        exact ⟨b, Vw.tru (R1.vw_ok z1 List.prefix_rfl hm) hb, q b H1 _ ρ1 (L1.trans (dropT_le _)) R2 h1⟩
      · exact h1.elim
    · exact h1.elim

/-! ### and, or, not, if else -/
variable {tq tr : TQ} {rest : List Expr} {tc : TX}
def tAndQ (t u : TQ) : TQ := fun ρ Q => t ρ fun b ρ1 => if b = true then u ρ1 Q else Q false ρ1
def tOrQ (t u : TQ) : TQ := fun ρ Q => t ρ fun b ρ1 => if b = true then Q true ρ1 else u ρ1 Q
def tNotQ (t : TQ) : TQ := fun ρ Q => t ρ fun b ρ1 => Q (!b) ρ1
theorem dw_pt (h : DW X c e tq) : DT X c e tq := PW.pt h
theorem dw_and1 (h : DT X c a tq) : DW X c (.BoolOp .And [a] pos) tq := pw_and1 h
theorem dw_or1 (h : DT X c a tq) : DW X c (.BoolOp .Or [a] pos) tq := pw_or1 h
theorem dw_and (h : DT X c a tq) (h2 : DW X c (.BoolOp .And (b :: rest) pos) tr) : DW X c (.BoolOp .And (a :: b :: rest) pos) (tAndQ tq tr) :=
  pwImp (pw_and h h2) fun σ H k h => by
    obtain ⟨o, ρ, τ, Q, R0, h, q⟩ := h
    refine ⟨o, ρ, τ, _, R0, h, fun b1 H1 o1 ρ1 L1 R1 h1 => ?_⟩
    cases b1 with
    | true => exact ⟨o1, ρ1, τ, _, R1, h1, fun b2 H2 o2 ρ2 L2 R2 h2 => q b2 H2 o2 ρ2 (L1.trans L2) R2 h2⟩
    | false => exact q false H1 o1 ρ1 L1 R1 h1
theorem dw_or (h : DT X c a tq) (h2 : DW X c (.BoolOp .Or (b :: rest) pos) tr) : DW X c (.BoolOp .Or (a :: b :: rest) pos) (tOrQ tq tr) :=
  pwImp (pw_or h h2) fun σ H k h => by
    obtain ⟨o, ρ, τ, Q, R0, h, q⟩ := h
    refine ⟨o, ρ, τ, _, R0, h, fun b1 H1 o1 ρ1 L1 R1 h1 => ?_⟩
    cases b1 with
    | false => exact ⟨o1, ρ1, τ, _, R1, h1, fun b2 H2 o2 ρ2 L2 R2 h2 => q b2 H2 o2 ρ2 (L1.trans L2) R2 h2⟩
    | true => exact q true H1 o1 ρ1 L1 R1 h1
theorem dt_not (h : DT X c a tq) : DT X c (.UnaryOp .Not a pos) (tNotQ tq) :=
  ptImp (pt_not h) fun σ H k h => by
    obtain ⟨o, ρ, τ, Q, R0, h, q⟩ := h
    exact ⟨o, ρ, τ, _, R0, h, fun b1 H1 o1 ρ1 L1 R1 h1 => q _ H1 o1 ρ1 L1 R1 h1⟩
/-- as values: bools but the last -/
def tAndX (t u : TX) : TX := fun ρ Q => tTst t ρ fun b ρ1 => if b = true then u ρ1 Q else Q (.im (.bl false)) ρ1
def tOrX (t u : TX) : TX := fun ρ Q => tTst t ρ fun b ρ1 => if b = true then Q (.im (.bl true)) ρ1 else u ρ1 Q
def tNotX (t : TX) : TX := fun ρ Q => tTst t ρ fun b ρ1 => Q (.im (.bl (!b))) ρ1
theorem de_one {op : BoolOp} (h : DE X c a t) : DE X c (.BoolOp op [a] pos) t := pe_one h
theorem de_and (h : DE X c a t) (h2 : DE X c (.BoolOp .And (b :: rest) pos) tc) : DE X c (.BoolOp .And (a :: b :: rest) pos) (tAndX t tc) :=
  peImp (pe_and h h2) fun σ H k h => by
    obtain ⟨o, ρ, τ, Q, R0, h, q⟩ := h
    refine ⟨o, ρ, τ, _, R0, h, fun v1 H1 o1 r1 ρ1 τ1 L1 R1 z1 h1 => ?_⟩
    split at h1
    · rename_i b1
      obtain ⟨rfl, z⟩ := z1
      cases z
      refine ⟨b1, rfl, ?_⟩
      cases b1 with
      | true => exact ⟨o1, ρ1, _, _, R1, h1, fun v2 H2 o2 r2 ρ2 τ2 L2 R2 z2 h2 => q v2 H2 o2 r2 ρ2 τ2 (L1.trans L2) R2 z2 h2⟩
      | false => exact q _ H1 o1 (.im (.bl false)) ρ1 _ L1 R1 ⟨rfl, .bl false⟩ h1
    · exact h1.elim
theorem de_or (h : DE X c a t) (h2 : DE X c (.BoolOp .Or (b :: rest) pos) tc) : DE X c (.BoolOp .Or (a :: b :: rest) pos) (tOrX t tc) :=
  peImp (pe_or h h2) fun σ H k h => by
    obtain ⟨o, ρ, τ, Q, R0, h, q⟩ := h
    refine ⟨o, ρ, τ, _, R0, h, fun v1 H1 o1 r1 ρ1 τ1 L1 R1 z1 h1 => ?_⟩
    split at h1
    · rename_i b1
      obtain ⟨rfl, z⟩ := z1
      cases z
      refine ⟨b1, rfl, ?_⟩
      cases b1 with
      | false => exact ⟨o1, ρ1, _, _, R1, h1, fun v2 H2 o2 r2 ρ2 τ2 L2 R2 z2 h2 => q v2 H2 o2 r2 ρ2 τ2 (L1.trans L2) R2 z2 h2⟩
      | true => exact q _ H1 o1 (.im (.bl true)) ρ1 _ L1 R1 ⟨rfl, .bl true⟩ h1
    · exact h1.elim
theorem de_not (h : DE X c a t) : DE X c (.UnaryOp .Not a pos) (tNotX t) :=
  peImp (pe_not h) fun σ H k h => by
    obtain ⟨o, ρ, τ, Q, R0, h, q⟩ := h
    refine ⟨o, ρ, τ, _, R0, h, fun v1 H1 o1 r1 ρ1 τ1 L1 R1 z1 h1 => ?_⟩
    split at h1
    · rename_i b1
      obtain ⟨rfl, z⟩ := z1
      cases z
      exact ⟨b1, rfl, q _ H1 o1 (.im (.bl (!b1))) ρ1 _ L1 R1 ⟨rfl, .bl _⟩ h1⟩
    · exact h1.elim
def tIfX (q : TQ) (t u : TX) : TX := fun ρ Q => q ρ fun b ρ1 => if b = true then t ρ1 Q else u ρ1 Q
theorem de_if (hq : DT X c e tq) (ha : DE X c a ta) (hb : DE X c b tb) : DE X c (.IfExp e a b pos) (tIfX tq ta tb) :=
  peImp (pe_ifExp hq ha hb) fun σ H k h => by
    obtain ⟨o, ρ, τ, Q, R0, h, q⟩ := h
    refine ⟨o, ρ, τ, _, R0, h, fun b1 H1 o1 ρ1 L1 R1 h1 => ?_⟩
    cases b1 with
    | true => exact ⟨o1, ρ1, τ, _, R1, h1, fun v2 H2 o2 r2 ρ2 τ2 L2 R2 z2 h2 => q v2 H2 o2 r2 ρ2 τ2 (L1.trans L2) R2 z2 h2⟩
    | false => exact ⟨o1, ρ1, τ, _, R1, h1, fun v2 H2 o2 r2 ρ2 τ2 L2 R2 z2 h2 => q v2 H2 o2 r2 ρ2 τ2 (L1.trans L2) R2 z2 h2⟩

/-! ### argument lists -/
def lNil : TL := fun ρ Q => Q [] ρ
def lCons (t : TX) (u : TL) : TL := fun ρ Q => t ρ fun r ρ1 => u ρ1 fun rs ρ2 => Q (r :: rs) ρ2
theorem da_nil : DA X c [] lNil := paImp pa_nil fun σ H k ⟨o, ρ, τ, Q, R0, h, q⟩ => q [] H o [] ρ τ .refl R0 .nil h
theorem da_cons {u : TL} (ha : DE X c e t) (hr : DA X c es u) (hs : starEach (e :: es) X.env = (false, eval e X.env) :: starEach es X.env := by rfl) : DA X c (e :: es) (lCons t u) :=
  paImp (pa_cons ha hr hs) fun σ H k ⟨o, ρ, τ, Q, R0, h, q⟩ =>
    ⟨o, ρ, τ, _, R0, h, fun v1 H1 o1 r1 ρ1 τ1 L1 R1 z1 h1 => ⟨o1, ρ1, τ1, _, R1, h1, fun vs H2 o2 rs ρ2 τ2 L2 R2 z2 h2 => q _ H2 o2 _ ρ2 τ2 (L1.trans L2) R2 (.cons (z1.mono L2) z2) h2⟩⟩
end
end Y
namespace Y
open PySem PySem.Spec L2

section
variable {K : PySem.W.Frag} {c : Cc} {o o' : Own} {σ : St} {H H' : Hp} {ρ : Env} {τ τ' τ0 τ1 : List (V × M)} {X : Cx}
theorem own_none (mu : ∀ a l, o a = some l → Mt (H a)) {p : Addr} (h : H p = none) : o p = none := by
  cases e : o p with
  | none => rfl
  | some l => have := mu p l e; rw [h] at this; exact this.elim
theorem newTup (mu : ∀ a l, o a = some l → Mt (H a)) {p : Addr} {xs : List V} {ds : List D} (h : H p = none) (d : Dats K o H xs ds) : Dat K o (upd H p (.tup xs)) (.ref p) (.tup ds) :=
  .tup ⟨own_none mu h, upd_same⟩ (d.mono ((Grow.new h).le mu))

theorem qim {k : VK} {G : M → Prop} (q : ∀ v H' m, Grow H H' → NewM K o H H' v m → G m → k v H') {v : V} {d : D} (a : Dat K o H v d) (b : G (.im d)) : k v H := q v H (.im d) .refl a b
/-! ### + -/
def gAdd : G2 := fun m n G => match m, n with
  | .im (.int i), .im (.int j) => G (.im (.int (i + j)))
  | .im (.str x), .im (.str y) => x.length + y.length ≤ sizeLine ∧ G (.im (.str (x ++ y)))
  | .im (.tup a), .im (.tup b) => a.length + b.length ≤ sizeLine ∧ G (.im (.tup (a ++ b)))
  | m, n => match m.lst?, n.lst? with
    | some a, some b => a.length + b.length ≤ sizeLine ∧ G (.ls (a ++ b))
    | _, _ => False
theorem add_ok : OpG X (binaryOp .Add) gAdd := by
  refine opG ((op_add.or op_add_str).or (op_catA.or op_cat)) fun x y H k h => ?_
  obtain ⟨o, m1, m2, G, mu, v1, v2, h, q⟩ := h
  unfold gAdd at h
  split at h
  · rename_i i j
    exact .inl (.inl ⟨i, j, v1.int, v2.int, qim q (.int _) h⟩)
  · rename_i i j
    exact .inl (.inr ⟨i, j, v1.str, v2.str, h.1, qim q (.str _) h.2⟩)
  · rename_i as bs
    obtain ⟨a, xs, rfl, ta, da⟩ := v1.tup
    obtain ⟨b, ys, rfl, tb, db⟩ := v2.tup
    refine .inr (.inl ⟨a, b, xs, ys, rfl, rfl, ta.sq, tb.sq, by rw [da.length, db.length]; exact h.1, fun e => ?_, fun e1 e2 => ?_, fun _ _ p hp => ?_⟩)
    · subst e; cases da
      exact q (.ref b) H (.im (.tup bs)) .refl (.tup tb db) h.2
    · subst e2; cases db
      refine q (.ref a) H (.im (.tup as)) .refl (.tup ta da) (by have := h.2; rwa [List.append_nil] at this)
    · exact q (.ref p) _ (.im (.tup (as ++ bs))) (.new hp) (newTup mu hp (da.append db)) h.2
  · split at h
    · rename_i as bs e1 e2
      obtain ⟨a, xs, rfl, ta, da⟩ := v1.lst e1
      obtain ⟨b, ys, rfl, tb, db⟩ := v2.lst e2
      refine .inr (.inr ⟨a, b, xs, ys, rfl, rfl, ta, tb, by rw [da.length, db.length]; exact h.1, fun p hp => ?_⟩)
      exact q (.ref p) _ (.ls (as ++ bs)) (.new hp) ⟨p, _, rfl, hp, rfl, da.append db⟩ h.2
    · exact h.elim
/-! ### other arithmetic -/
def gII (C : Int → Int → Prop) (f : Int → Int → D) : G2 := fun m n G => match m, n with
  | .im (.int i), .im (.int j) => C i j ∧ G (.im (f i j))
  | _, _ => False
def gI0 (f : Int → Int → D) : G2 := fun m n G => match m, n with
  | .im (.int i), .im (.int j) => G (.im (f i j))
  | _, _ => False
theorem opII {f : Value → Value → Sem Value} {C : Int → Int → Prop} {g : Int → Int → Int} (h : OpR X f (rI C fun i j => .int (g i j))) : OpG X f (gII C fun i j => .int (g i j)) := by
  refine opG h fun x y H k h => ?_
  obtain ⟨o, m1, m2, G, mu, v1, v2, h, q⟩ := h
  unfold gII at h
  split at h
  · rename_i i j
    exact ⟨i, j, v1.int, v2.int, h.1, qim q (.int _) h.2⟩
  · exact h.elim
theorem opI0' {f : Value → Value → Sem Value} {g : Int → Int → Int} (h : OpR X f (rI0 fun i j => .int (g i j))) : OpG X f (gI0 fun i j => .int (g i j)) := by
  refine opG h fun x y H k h => ?_
  obtain ⟨o, m1, m2, G, mu, v1, v2, h, q⟩ := h
  unfold gI0 at h
  split at h
  · rename_i i j
    exact ⟨i, j, v1.int, v2.int, qim q (.int _) h⟩
  · exact h.elim
theorem opIB {f : Value → Value → Sem Value} {g : Int → Int → Bool} (h : OpR X f (rI0 fun i j => .bl (g i j))) : OpG X f (gI0 fun i j => .bl (g i j)) := by
  refine opG h fun x y H k h => ?_
  obtain ⟨o, m1, m2, G, mu, v1, v2, h, q⟩ := h
  unfold gI0 at h
  split at h
  · rename_i i j
    exact ⟨i, j, v1.int, v2.int, qim q (.bl _) h⟩
  · exact h.elim
def gSub : G2 := gI0 fun i j => .int (i - j)
def gMul : G2 := gII CMulW fun i j => .int (i * j)
def gDiv : G2 := gII CDivW fun i j => .int (i / j)
def gMod : G2 := gII (fun _ j => 0 < j) fun i j => .int (i % j)
def gPow : G2 := gII CPow fun i j => .int (i ^ j.toNat)
def gLt : G2 := gI0 fun i j => .bl (decide (i < j))
def gLe : G2 := gI0 fun i j => .bl (decide (i ≤ j))
def gGt : G2 := gI0 fun i j => .bl (decide (j < i))
def gGe : G2 := gI0 fun i j => .bl (decide (j ≤ i))
theorem sub_ok : OpG X (binaryOp .Sub) gSub := opI0' op_sub
theorem mul_ok : OpG X (binaryOp .Mult) gMul := opII op_mulW
theorem div_ok : OpG X (binaryOp .FloorDiv) gDiv := opII op_fdivW
theorem mod_ok : OpG X (binaryOp .Mod) gMod := opII op_mod
theorem pow_ok : OpG X (binaryOp .Pow) gPow := opII op_pow
theorem lt_ok : OpG X (compareOp .Lt) gLt := opIB op_lt
theorem le_ok : OpG X (compareOp .LtE) gLe := opIB op_le
theorem gt_ok : OpG X (compareOp .Gt) gGt := opIB op_gt
theorem ge_ok : OpG X (compareOp .GtE) gGe := opIB op_ge

/-! ### == and != -/
def gEqs (neg : Bool) : G2 := fun m n G => match m, n with
  | .im (.int i), .im (.int j) => G (.im (.bl (neg ^^ decide (i = j))))
  | .im (.str i), .im (.str j) => G (.im (.bl (neg ^^ decide (i = j))))
  | m, n => match m.dat?, n.dat? with
    | some d, some e => D.ok 64 d = true ∧ D.ok 64 e = true ∧ G (.im (.bl (neg ^^ D.eqv d e)))
    | _, _ => False
theorem eq_ok (hu : X.A.units + 64 < cLine) : OpG X (compareOp .Eq) (gEqs false) := by
  refine opG (op_eq.or (op_eqD hu)) fun x y H k h => ?_
  obtain ⟨o, m1, m2, G, mu, v1, v2, h, q⟩ := h
  unfold gEqs at h
  split at h
  · rename_i i j
    refine .inl ?_
    rw [v1.int, v2.int]
    refine ⟨rfl, ?_⟩
    rw [show decide (V.int i = V.int j) = decide (i = j) by rw [dec_int]; exact Bool.beq_eq_decide_eq _ _]
    exact qim q (.bl _) (by simpa using h)
  · rename_i i j
    refine .inl ?_
    rw [v1.str, v2.str]
    refine ⟨rfl, ?_⟩
    rw [show decide (V.str i = V.str j) = decide (i = j) by rw [dec_str]; exact Bool.beq_eq_decide_eq _ _]
    exact qim q (.bl _) (by simpa using h)
  · split at h
    · rename_i d e e1 e2
      refine .inr ⟨d.py, e.py, v1.dp e1 h.1, v2.dp e2 h.2.1, D.ok_shaped h.1, D.ok_shaped h.2.1, ?_⟩
      exact qim q (.bl _) (by have := h.2.2; rwa [Bool.false_xor] at this)
    · exact h.elim
theorem ne_ok (hu : X.A.units + 64 < cLine) : OpG X (compareOp .NotEq) (gEqs true) := by
  refine opG (op_ne.or (op_neD hu)) fun x y H k h => ?_
  obtain ⟨o, m1, m2, G, mu, v1, v2, h, q⟩ := h
  unfold gEqs at h
  split at h
  · rename_i i j
    refine .inl ?_
    rw [v1.int, v2.int]
    refine ⟨rfl, ?_⟩
    rw [show decide (V.int i = V.int j) = decide (i = j) by rw [dec_int]; exact Bool.beq_eq_decide_eq _ _]
    exact qim q (.bl _) (by simpa using h)
  · rename_i i j
    refine .inl ?_
    rw [v1.str, v2.str]
    refine ⟨rfl, ?_⟩
    rw [show decide (V.str i = V.str j) = decide (i = j) by rw [dec_str]; exact Bool.beq_eq_decide_eq _ _]
    exact qim q (.bl _) (by simpa using h)
  · split at h
    · rename_i d e e1 e2
      refine .inr ⟨d.py, e.py, v1.dp e1 h.1, v2.dp e2 h.2.1, D.ok_shaped h.1, D.ok_shaped h.2.1, ?_⟩
      exact qim q (.bl _) (by have := h.2.2; rwa [Bool.true_xor] at this)
    · exact h.elim

/-! ### is None, is True -/
def M.isNon : M → Option Bool
  | .im .non => some true
  | .im (.raw _) => none
  | .im (.fnv _ _ _ _ _) => none
  | .im (.obj _) => some false
  | _ => some false
theorem Vw.isNon {v : V} {m : M} {b : Bool} (h : Vw K o H v m) (e : m.isNon = some b) : decide (v = .non) = b := by
  cases m with
  | im d =>
    cases d with
    | non => cases e; rw [h.non]; rfl
    | bl z => cases e; rw [h.bl]; rfl
    | int z => cases e; rw [h.int]; rfl
    | str z => cases e; rw [h.str]; rfl
    | raw _ => cases e
    | fnv _ _ _ _ _ => cases e
    | obj _ => cases e; obtain ⟨l, h⟩ := h; cases (show Dat K o H v (.obj _) from h); rfl
    | tup ds => cases e; obtain ⟨a, xs, rfl, _⟩ := h.tup; rfl
    | lst ds => cases e; obtain ⟨a, xs, rfl, _⟩ := h.lst rfl; rfl
  | ls ds => cases e; obtain ⟨a, xs, rfl, _⟩ := h.lq rfl; rfl
  | sq ds => cases e; obtain ⟨a, xs, rfl, _⟩ := h.lq rfl; rfl
  | rd ds => cases e; obtain ⟨a, xs, rfl, _⟩ := h.lq rfl; rfl
  | dk kvs => cases e; obtain ⟨l, a, ks, rfl, _⟩ := h; rfl
  | dt kvs => cases e; obtain ⟨l, a, ks, rfl, _⟩ := h; rfl
def gIs (neg : Bool) : G2 := fun m n G => match m, n with
  | .im (.bl i), .im (.bl j) => G (.im (.bl (neg ^^ decide (i = j))))
  | m, .im .non => match m.isNon with
    | some b => G (.im (.bl (neg ^^ b)))
    | none => False
  | _, _ => False
theorem is_ok : OpG X (compareOp .Is) (gIs false) := by
  refine opG (op_isN.or op_isBl) fun x y H k h => ?_
  obtain ⟨o, m1, m2, G, mu, v1, v2, h, q⟩ := h
  unfold gIs at h
  split at h
  · rename_i i j
    exact .inr ⟨i, j, v1.bl, v2.bl, qim q (.bl _) (by rwa [Bool.false_xor] at h)⟩
  · split at h
    · rename_i b e
      refine .inl ⟨v2.non, ?_⟩
      rw [v1.isNon e]
      exact qim q (.bl _) (by rwa [Bool.false_xor] at h)
    · exact h.elim
  · exact h.elim
theorem isnot_ok : OpG X (compareOp .IsNot) (gIs true) := by
  refine opG (op_notN.or op_notBl) fun x y H k h => ?_
  obtain ⟨o, m1, m2, G, mu, v1, v2, h, q⟩ := h
  unfold gIs at h
  split at h
  · rename_i i j
    exact .inr ⟨i, j, v1.bl, v2.bl, qim q (.bl _) (by rwa [Bool.true_xor] at h)⟩
  · split at h
    · rename_i b e
      refine .inl ⟨v2.non, ?_⟩
      rw [v1.isNon e]
      exact qim q (.bl _) (by rwa [Bool.true_xor] at h)
    · exact h.elim
  · exact h.elim

/-! ### dicts: keys -/
def D.key? : D → Option Key
  | .int i => some (.inl i)
  | .str x => some (.inr x)
  | _ => none
def D.keys? : List D → Option (List Key)
  | [] => some []
  | d :: ds => match d.key?, D.keys? ds with
    | some k, some ks => some (k :: ks)
    | _, _ => none
theorem Dat.key {v : V} {d : D} {k : Key} (h : Dat K o H v d) (e : d.key? = some k) : v = kV k := by
  cases d with
  | int i => cases e; cases h; rfl
  | str i => cases e; cases h; rfl
  | _ => cases e
theorem Dats.keys : ∀ {vs : List V} {ds : List D} {ks : List Key}, Dats K o H vs ds → D.keys? ds = some ks → vs = ks.map kV
  | _, _, _, .nil, e => by simp [D.keys?] at e; subst e; rfl
  | _, _, _, .cons a r, e => by
    unfold D.keys? at e
    split at e
    · rename_i k ks e1 e2
      cases e
      rw [a.key e1, Dats.keys r e2]; rfl
    · cases e
section
variable {κ : Type} [DecidableEq κ]
def getK (kvs : List (κ × D)) (k : κ) : Option D := (kvs.find? fun kv => decide (kv.1 = k)).map (·.2)
def putD (kvs : List (κ × D)) (k : κ) (d : D) : List (κ × D) := if (kvs.any fun kv => decide (kv.1 = k)) = true then kvs.map (fun kv => if kv.1 = k then (kv.1, d) else kv) else kvs ++ [(k, d)]
def RelD (K : PySem.W.Frag) (o : Own) (H : Hp) : Option V → Option D → Prop
  | some v, some d => Dat K o H v d
  | none, none => True
  | _, _ => False
theorem Kvs.val {ks : List (κ × V)} {kvs : List (κ × D)} (h : Kvs K o H ks kvs) (k : κ) : RelD K o H (valV ks k) (getK kvs k) := by
  unfold Kvs at h
  induction h with
  | nil => exact trivial
  | @cons p q ps qs a t ih =>
    by_cases e : p.1 = k
    · have e2 : q.1 = k := a.1 ▸ e
      simp only [valV, getK, List.find?_cons, e, e2, decide_true, Option.map_some]
      exact a.2
    · have e2 : ¬ q.1 = k := a.1 ▸ e
      simp only [valV, getK, List.find?_cons, e, e2, decide_false] at ih ⊢
      exact ih
theorem Kvs.any {ks : List (κ × V)} {kvs : List (κ × D)} (h : Kvs K o H ks kvs) (k : κ) : (ks.any fun kv => decide (kv.1 = k)) = kvs.any fun kv => decide (kv.1 = k) := by
  unfold Kvs at h
  induction h with
  | nil => rfl
  | @cons p q ps qs a t ih => rw [List.any_cons, List.any_cons, ih, a.1]
theorem Kvs.append {ks ls : List (κ × V)} {kvs lvs : List (κ × D)} (h : Kvs K o H ks kvs) (g : Kvs K o H ls lvs) : Kvs K o H (ks ++ ls) (kvs ++ lvs) := by
  unfold Kvs at h
  induction h with
  | nil => exact g
  | cons a t ih => exact .cons a ih
theorem Kvs.put {ks : List (κ × V)} {kvs : List (κ × D)} (h : Kvs K o H ks kvs) (k : κ) {v : V} {d : D} (r : Dat K o H v d) : Kvs K o H (putK ks k v) (putD kvs k d) := by
  unfold putK putD
  rw [h.any k]
  split
  · rename_i hh
    clear hh
    unfold Kvs at h
    induction h with
    | nil => exact .nil
    | @cons p q ps qs a t ih =>
      refine .cons ?_ ih
      show (if p.1 = k then (p.1, v) else p).1 = (if q.1 = k then (q.1, d) else q).1 ∧ Dat K o H (if p.1 = k then (p.1, v) else p).2 (if q.1 = k then (q.1, d) else q).2
      rw [← a.1]
      by_cases e : p.1 = k
      · rw [if_pos e, if_pos e]; exact ⟨rfl, r⟩
      · rw [if_neg e, if_neg e]; exact a
  · exact h.append (.cons ⟨rfl, r⟩ .nil)
theorem Kvs.length {ks : List (κ × V)} {kvs : List (κ × D)} (h : Kvs K o H ks kvs) : ks.length = kvs.length := Paired.length h
end
/-- a dict at a key: what it holds -/
def dGet (m : M) (d : D) : Option (Option D) := match m, d with
  | .dk kvs, d => match d.key? with
    | some k => some (getK kvs k)
    | none => none
  | .dt kvs, .tup ds => match D.keys? ds with
    | some k => some (getK kvs k)
    | none => none
  | _, _ => none
theorem dGet_ok {x y : V} {m : M} {d : D} {r : Option D} (h : Vw K o H x m) (g : Dat K o H y d) (e : dGet m d = some r) : ∃ a w, x = .ref a ∧ DGet H a y w ∧ RelD K o H w r := by
  unfold dGet at e
  split at e
  · rename_i kvs
    split at e
    · rename_i k ek
      cases e
      obtain ⟨l, a, ks, rfl, _, ha, q⟩ := h
      rw [g.key ek]
      exact ⟨a, _, rfl, DGet.k ha, q.val k⟩
    · cases e
  · rename_i kvs ds
    split at e
    · rename_i k ek
      cases e
      obtain ⟨l, a, ks, rfl, _, ha, q⟩ := h
      cases g with
      | tup t r =>
        have z := r.keys ek
        subst z
        exact ⟨a, _, rfl, DGet.t ha t.2, q.val k⟩
    · cases e
  · cases e
end

/-! ### in -/
def gIns (neg : Bool) : G2 := fun m n G => match n with
  | .dk kvs => match m with
    | .im d => match dGet (.dk kvs) d with
      | some r => G (.im (.bl (neg ^^ r.isSome)))
      | none => False
    | _ => False
  | .dt kvs => match m with
    | .im d => match dGet (.dt kvs) d with
      | some r => G (.im (.bl (neg ^^ r.isSome)))
      | none => False
    | _ => False
  | .im (.str x) => match m with
    | .im (.str y) => G (.im (.bl (neg ^^ !(Builtin.Str.occurrences x y 0 x.length 1).isEmpty)))
    | _ => False
  | .im (.tup ds) => match m with
    | .im d => D.ok 64 d = true ∧ D.oks 63 ds = true ∧ G (.im (.bl (neg ^^ ds.any fun z => z.eqv d)))
    | _ => False
  | n => match n.lq? with
    | some ds => match m with
      | .im d => D.ok 64 d = true ∧ D.oks 63 ds = true ∧ G (.im (.bl (neg ^^ ds.any fun z => z.eqv d)))
      | _ => False
    | none => False
section
variable {X : Cx}
def rInT (K : PySem.W.Frag) (neg : Bool) : R2 := fun x y H Q => ∃ d ds, Dp K H x d ∧ Dp K H y (.tuple ds) ∧ SeqAt.shaped d = true ∧ SeqAt.shaped (.tuple ds) = true ∧ Q (.bl (neg ^^ ds.any fun z => PyData.eqv z d)) H
theorem op_inT (hu : X.A.units + 65 < cLine) : OpR X (compareOp .In) (rInT X.K false) := fun _ _ _ H _ _ _ _ _ I rx ry ⟨d, ds, hd, he, sd, se, q⟩ =>
  let ⟨_, e1⟩ := Dp.reads I (.tuple ds) _ _ he ry
  let ⟨_, e2⟩ := Dp.reads I d _ _ hd rx
  SeqAt.in_tuple_reads e1 e2 (SeqAt.canLay_of_shaped se) (SeqAt.canLay_of_shaped sd) (PyProof.Rows.room_in_shaped sd hu) ⟨.bl _, H, I, rfl, by rwa [Bool.false_xor] at q⟩
theorem op_notInT (hu : X.A.units + 65 < cLine) : OpR X (compareOp .NotIn) (rInT X.K true) := fun _ _ _ H _ _ _ _ _ I rx ry ⟨d, ds, hd, he, sd, se, q⟩ =>
  let ⟨_, e1⟩ := Dp.reads I (.tuple ds) _ _ he ry
  let ⟨_, e2⟩ := Dp.reads I d _ _ hd rx
  SeqAt.notIn_tuple_reads e1 e2 (SeqAt.canLay_of_shaped se) (SeqAt.canLay_of_shaped sd) (PyProof.Rows.room_in_shaped sd hu) ⟨.bl _, H, I, rfl, by rwa [Bool.true_xor] at q⟩
def rDin (neg : Bool) : R2 := fun y x H Q => ∃ a w, x = .ref a ∧ DGet H a y w ∧ Q (.bl (neg ^^ w.isSome)) H
theorem op_din (hu : X.A.units + 1 < cLine) : OpR X (compareOp .In) (rDin false) := by
  rintro pins s σ H x _ v _ Q I rx ry ⟨a, w, rfl, g, q⟩
  obtain rfl := ry
  exact d_in hu I g rx fun s3 I3 => ⟨.bl w.isSome, H, I3, rfl, by rwa [Bool.false_xor] at q⟩
theorem op_dnotin (hu : X.A.units + 1 < cLine) : OpR X (compareOp .NotIn) (rDin true) := by
  rintro pins s σ H x _ v _ Q I rx ry ⟨a, w, rfl, g, q⟩
  obtain rfl := ry
  exact d_notIn hu I g rx fun s3 I3 => ⟨.bl (!w.isSome), H, I3, rfl, by rwa [Bool.true_xor] at q⟩
theorem any_eqv {d : D} : ∀ ds : List D, ((D.pys ds).any fun z => PyData.eqv z d.py) = ds.any fun z => z.eqv d
  | [] => rfl
  | e :: ds => by simp only [D.pys, List.any_cons, D.eqv]; rw [any_eqv ds]; rfl
theorem RelD.some_eq {K : PySem.W.Frag} {o : Own} {H : Hp} {w : Option V} {r : Option D} (h : RelD K o H w r) : w.isSome = r.isSome := by
  cases w <;> cases r <;> first | rfl | exact h.elim
theorem ins_ok {neg : Bool} {op : CmpOp} (h1 : OpR X (compareOp op) (rDin neg)) (h2 : OpR X (compareOp op) (fun x y H Q => ∃ i j, x = .str i ∧ y = .str j ∧ Q (.bl (neg ^^ !(Builtin.Str.occurrences j i 0 j.length 1).isEmpty)) H))
    (h3 : OpR X (compareOp op) (rInT X.K neg)) (h4 : OpR X (compareOp op) (fun x y H Q => ∃ d ds, Dp X.K H x d ∧ Dp X.K H y (.list ds) ∧ SeqAt.shaped d = true ∧ SeqAt.shaped (.list ds) = true ∧ Q (.bl (neg ^^ ds.any fun z => PyData.eqv z d)) H)) :
    OpG X (compareOp op) (gIns neg) := by
  refine opG ((h1.or h2).or (h3.or h4)) fun x y H k h => ?_
  obtain ⟨o, m1, m2, G, mu, v1, v2, h, q⟩ := h
  unfold gIns at h
  split at h
  · split at h
    · split at h
      · rename_i r e
        obtain ⟨l, g⟩ := v1
        obtain ⟨a, w, rfl, z, rd⟩ := dGet_ok v2 g e
        refine .inl (.inl ⟨a, w, rfl, z, ?_⟩)
        rw [rd.some_eq]
        exact qim q (.bl _) h
      · exact h.elim
    · exact h.elim
  · split at h
    · split at h
      · rename_i r e
        obtain ⟨l, g⟩ := v1
        obtain ⟨a, w, rfl, z, rd⟩ := dGet_ok v2 g e
        refine .inl (.inl ⟨a, w, rfl, z, ?_⟩)
        rw [rd.some_eq]
        exact qim q (.bl _) h
      · exact h.elim
    · exact h.elim
  · split at h
    · rename_i x' y'
      exact .inl (.inr ⟨_, _, v1.str, v2.str, qim q (.bl _) h⟩)
    · exact h.elim
  · rename_i ds
    split at h
    · rename_i d
      obtain ⟨h1, h2, h⟩ := h
      have e2 : D.ok 64 (.tup ds) = true := by simp only [D.ok]; exact h2
      have p2 := v2.dp (d := .tup ds) rfl e2
      simp only [D.py] at p2
      refine .inr (.inl ⟨d.py, D.pys ds, v1.dp rfl h1, p2, D.ok_shaped h1, by have := D.ok_shaped e2; simpa only [D.py] using this, ?_⟩)
      rw [any_eqv]
      exact qim q (.bl _) h
    · exact h.elim
  · split at h
    · rename_i ds e
      split at h
      · rename_i d
        obtain ⟨h1, h2, h⟩ := h
        have e2 : D.ok 64 (.lst ds) = true := by simp only [D.ok]; exact h2
        obtain ⟨a, xs, rfl, g, r⟩ := v2.lq e
        have p2 : Dp X.K H (.ref a) (D.lst ds).py := by simp only [D.py]; exact .lst g (r.dp h2)
        simp only [D.py] at p2
        refine .inr (.inr ⟨d.py, D.pys ds, v1.dp rfl h1, p2, D.ok_shaped h1, by have := D.ok_shaped e2; simpa only [D.py] using this, ?_⟩)
        rw [any_eqv]
        exact qim q (.bl _) h
      · exact h.elim
    · exact h.elim
theorem in_ok (hu : X.A.units + 65 < cLine) : OpG X (compareOp .In) (gIns false) := by
  refine ins_ok (op_din (by omega)) ?_ (op_inT hu) ?_
  · intro pins s σ H x y v u Q I rx ry ⟨i, j, a, b, q⟩
    exact op_in_str pins s σ H x y v u Q I rx ry ⟨i, j, a, b, by rwa [Bool.false_xor] at q⟩
  · intro pins s σ H x y v u Q I rx ry ⟨i, j, a, b, c, d, q⟩
    exact op_inD hu pins s σ H x y v u Q I rx ry ⟨i, j, a, b, c, d, by rwa [Bool.false_xor] at q⟩
theorem notin_ok (hu : X.A.units + 65 < cLine) : OpG X (compareOp .NotIn) (gIns true) := by
  refine ins_ok (op_dnotin (by omega)) ?_ (op_notInT hu) ?_
  · intro pins s σ H x y v u Q I rx ry ⟨i, j, a, b, q⟩
    exact op_notIn_str pins s σ H x y v u Q I rx ry ⟨i, j, a, b, by rwa [Bool.true_xor] at q⟩
  · intro pins s σ H x y v u Q I rx ry ⟨i, j, a, b, c, d, q⟩
    exact op_notInD hu pins s σ H x y v u Q I rx ry ⟨i, j, a, b, c, d, by rwa [Bool.true_xor] at q⟩
end
end Y
namespace Y
open PySem PySem.Spec L2

section
variable {K : PySem.W.Frag} {c : Cc} {o o' : Own} {σ : St} {H H' : Hp} {ρ ρ' : Env} {τ τ' τ0 τ1 : List (V × M)} {X : Cx} {e a b : Expr} {es : List Expr} {pos : Pos} {t ta tb : TX}
/-! ### what is put into a tuple or a list becomes data -/
def froz : Env → List R → Option (List D × Env)
  | ρ, [] => some ([], ρ)
  | ρ, .im d :: rs => match froz ρ rs with
    | some (ds, ρ') => some (d :: ds, ρ')
    | none => none
  | ρ, .tm (.ls es) :: rs => match froz ρ rs with
    | some (ds, ρ') => some (.lst es :: ds, ρ')
    | none => none
  | ρ, .sl i :: rs => match ρ.sl[i]? with
    | some s => match s.m? with
      | some (.ls es) => match froz (ρ.set i .no) rs with
        | some (ds, ρ') => some (.lst es :: ds, ρ')
        | none => none
      | _ => none
    | none => none
  | _, _ => none
/-- an item once the temporaries are let go -/
def ElR (K : PySem.W.Frag) (o : Own) (H : Hp) (σ : St) (v : V) : R → Prop
  | .im d => Dat K o H v d
  | .tm (.ls es) => Dat K o H v (.lst es)
  | .tm _ => True
  | .sl i => σ[i]? = some (some v)
theorem ElR.mono (L : Le o H o' H') {v : V} : ∀ {r : R}, ElR K o H σ v r → ElR K o' H' σ v r
  | .im _, h => Dat.mono L h
  | .tm (.ls _), h => Dat.mono L h
  | .tm (.im _), _ => trivial
  | .tm (.sq _), _ => trivial
  | .tm (.rd _), _ => trivial
  | .tm (.dk _), _ => trivial
  | .tm (.dt _), _ => trivial
  | .sl _, h => h
theorem RelRs.els {ρ0 : Env} {base : Nat} : ∀ {vs rs τ τ1}, RelRs K o H σ vs rs τ τ1 → base ≤ τ.length → (∀ j v m, τ1[j]? = some (v, m) → IsM K o H (.t j) v m) → Paired (ElR K (dropT base o) H σ) vs rs
  | _, _, _, _, .nil, _, _ => .nil
  | _, _, _, _, .cons (v := v) (r := r) (τ := τ) (τ1 := τ1) a t, hb, h => by
    have hb2 : base ≤ τ1.length := Nat.le_trans hb a.pre.length_le
    refine .cons ?_ (RelRs.els (ρ0 := ρ0) t hb2 h)
    cases r with
    | im d => exact a.2.mono (dropT_le _)
    | sl i => exact a.2
    | tm m =>
      have e : τ1 = τ ++ [(v, m)] := a
      obtain ⟨w, hw⟩ := t.pre
      have q : IsM K o H (.t τ.length) v m := h τ.length v m (by rw [← hw, e]; simp)
      cases m with
      | ls ds =>
        obtain ⟨ad, xs, rfl, ho, hH, dd⟩ := q
        refine Dat.lst ?_ hH (dd.mono (dropT_le _))
        unfold dropT
        rw [ho]
        show (if τ.length < base then _ else none) = none
        rw [if_neg (by omega)]
      | im _ => trivial
      | sq _ => trivial
      | rd _ => trivial
      | dk _ => trivial
      | dt _ => trivial
theorem SlOk.ofS {i : Nat} {s : Sl} {es : List D} (h : SlOk K c o σ H i s) (e : s.m? = some (.ls es)) : ∃ v, σ[i]? = some (some v) ∧ IsM K o H (.s i) v (.ls es) := by
  cases s with
  | no => cases e
  | lo z => cases e; obtain ⟨v, a, q⟩ := h; exact ⟨v, a, q⟩
  | pa z => cases e; obtain ⟨v, a, _, q⟩ := h; exact ⟨v, a, q⟩
  | hd p v z =>
    cases z with
    | ls ds => cases e
    | _ => cases e
/-- a slot's object is let go -/
def unS (i : Nat) (o : Own) : Own := fun a => if o a = some (.s i) then none else o a
theorem unS_le (i : Nat) : Le o H (unS i o) H := Le.mk' (fun b u e f => ⟨by unfold unS; rw [e]; simp, f⟩) (fun b e => ⟨by unfold unS; rw [e]; simp, rfl⟩) fun b _ e => ⟨(by unfold unS; rw [e]; simp), rfl⟩
theorem unS_ks (i : Nat) : Ks o H (unS i o) H := ⟨fun b q _ e => ⟨by unfold unS; rw [e]; simp, rfl⟩, fun b q e => by unfold unS at e; split at e; cases e; exact e⟩
theorem Rep.unslot (R0 : Rep K c o σ H ρ τ) (i : Nat) : Rep K c (unS i o) σ H (ρ.set i .no) τ := by
  refine ⟨fun j s e => ?_, fun j v m e => ⟨(R0.tm j v m e).1.mono (unS_le i) fun a q => ⟨by unfold unS; rw [q]; simp, rfl⟩, (R0.tm j v m e).2⟩, fun a l e => ?_, R0.le.trans (unS_le i), by rw [List.length_set]; exact R0.ln, R0.st.mono (unS_le i) (unS_ks i)⟩
  · by_cases hj : i = j
    · subst hj
      by_cases hl : i < ρ.sl.length
      · rw [List.getElem?_set_self hl] at e; cases e; exact trivial
      · rw [List.getElem?_eq_none (by simpa using hl)] at e; cases e
    · rw [List.getElem?_set_ne hj] at e
      refine (R0.sl j s e).mono (unS_le i) (fun a q => ⟨?_, rfl⟩) fun a q => ⟨by unfold unS; rw [q]; simp, rfl⟩
      unfold unS; rw [q]
      rw [if_neg (by intro z; injection z with z; injection z with z; exact hj z.symm)]
  · unfold unS at e
    split at e
    · cases e
    · exact R0.mu a l e
theorem froz_ok : ∀ {vs : List V} {rs : List R} {o : Own} {ρ ρ' : Env} {ds : List D}, Rep K c o σ H ρ τ → Paired (ElR K o H σ) vs rs → froz ρ rs = some (ds, ρ') →
    ∃ o', Le o H o' H ∧ Rep K c o' σ H ρ' τ ∧ Dats K o' H vs ds
  | _, _, o, ρ, _, _, R0, .nil, e => by simp [froz] at e; obtain ⟨rfl, rfl⟩ := e; exact ⟨o, .refl, R0, .nil⟩
  | _, r :: rs, o, ρ, _, _, R0, .cons a t, e => by
    unfold froz at e
    split at e
    · rename_i hh; cases hh
    · rename_i ρ0 d rs' hh
      cases hh
      split at e
      · rename_i ds' ρ1 e1
        cases e
        obtain ⟨o', L, R1, dd⟩ := froz_ok R0 t e1
        exact ⟨o', L, R1, .cons (Dat.mono L a) dd⟩
      · cases e
    · rename_i ρ0 es' rs' hh
      cases hh
      split at e
      · rename_i ds' ρ1 e1
        cases e
        obtain ⟨o', L, R1, dd⟩ := froz_ok R0 t e1
        exact ⟨o', L, R1, .cons (Dat.mono L (show Dat K o H _ (.lst es') from a)) dd⟩
      · cases e
    · rename_i ρ0 i rs' hh
      cases hh
      split at e
      · rename_i s hs
        split at e
        · rename_i es' hm
          split at e
          · rename_i ds' ρ1 e1
            cases e
            obtain ⟨v, hv, z⟩ := (R0.sl i s hs).ofS hm
            have hv2 : σ[i]? = some (some _) := a
            rw [hv2] at hv; cases hv
            have R1 := R0.unslot i
            have L1 : Le o H (unS i o) H := unS_le i
            obtain ⟨o', L, R2, dd⟩ := froz_ok R1 (Paired.mapP t fun _ _ q => q.mono L1) e1
            obtain ⟨ad, xs, rfl, ho, hH, dz⟩ := z
            refine ⟨o', L1.trans L, R2, .cons ?_ dd⟩
            refine Dat.mono L (.lst ?_ hH (dz.mono L1))
            unfold unS
            rw [ho]; simp
          · cases e
        · cases e
      · cases e
    · cases e
def tFrz (ta : TL) (f : List D → Env → Prop) : Env → Prop := fun ρ => ta ρ fun rs ρ1 => match froz ρ1 rs with
  | some (ds, ρ2) => f ds ρ2
  | none => False
def tTp (ta : TL) : TX := fun ρ Q => tFrz ta (fun ds ρ2 => ds.length ≤ sizeLine ∧ Q (.im (.tup ds)) ρ2) ρ
def tLs (ta : TL) : TX := fun ρ Q => tFrz ta (fun ds ρ2 => ds.length ≤ sizeLine ∧ Q (.tm (.ls ds)) ρ2) ρ
theorem tFrz_of {ta : TL} {f : List D → Env → Prop} {k : List V → Hp → Prop} (R0 : Rep K c o σ H ρ τ) (h : tFrz ta f ρ)
    (q : ∀ vs H' o' ds ρ', Le o H o' H' → Rep K c o' σ H' ρ' τ → Dats K o' H' vs ds → f ds ρ' → k vs H') : TAo K c ta σ H k := by
  refine ⟨o, ρ, τ, _, R0, h, fun vs H1 o1 rs ρ1 τ1 L1 R1 z1 h1 => ?_⟩
  split at h1
  · rename_i ds ρ2 e
    have R2 := R1.drop z1.pre
    have els := z1.els (ρ0 := ρ1) (base := τ.length) (Nat.le_refl _) (fun j v m e => (R1.tm j v m e).1)
    obtain ⟨o', L, R3, dd⟩ := froz_ok R2 els e
    exact q vs H1 o' ds ρ2 (L1.trans ((dropT_le _).trans L)) R3 dd h1
  · exact h1.elim
theorem de_tup {x1} {ta : TL} (h : DA X c es ta) : DE X c (.Tuple es x1 pos) (tTp ta) := peImp (pe_tup h) fun σ H k h => by
  obtain ⟨o, ρ, τ, Q, R0, h, q⟩ := h
  refine tFrz_of R0 h fun vs H1 o1 ds ρ1 L1 R1 dd h1 => ?_
  refine ⟨by rw [dd.length]; exact h1.1, fun p hp => ?_⟩
  exact q _ _ o1 (.im (.tup ds)) ρ1 τ (L1.trans ((Grow.new hp).le R1.mu)) (R1.grow (.new hp)) ⟨rfl, newTup R1.mu hp dd⟩ h1.2
theorem de_lst {ta : TL} (h : DA X c es ta) : DE X c (.List es pos) (tLs ta) := peImp (pe_lst h) fun σ H k h => by
  obtain ⟨o, ρ, τ, Q, R0, h, q⟩ := h
  refine tFrz_of R0 h fun vs H1 o1 ds ρ1 L1 R1 dd h1 => ?_
  refine ⟨by rw [dd.length]; exact h1.1, fun p hp => ?_⟩
  obtain ⟨o', τ', L, R', z⟩ := R1.made (m := .ls ds) List.prefix_rfl (.new hp) ⟨p, vs, rfl, hp, rfl, dd⟩
  exact q _ _ o' _ ρ1 τ' (L1.trans L) R' z h1.2

/-! ### subscripts -/
def atD {α : Type} (xs : List α) (i : Int) : Option α := atI xs i
theorem atI_D {vs : List V} {ds : List D} {i : Int} {d : D} (h : Dats K o H vs ds) (e : atI ds i = some d) : ∃ v, atI vs i = some v ∧ Dat K o H v d := by
  unfold atI at e ⊢
  rw [h.length]
  cases q : ixN ds.length i with
  | none => rw [q] at e; cases e
  | some j => rw [q] at e; exact h.get e
def gIx : G2 := fun m n G => match m, n with
  | .dk kvs, .im d => match dGet (.dk kvs) d with
    | some (some r) => G (.im r)
    | _ => False
  | .dt kvs, .im d => match dGet (.dt kvs) d with
    | some (some r) => G (.im r)
    | _ => False
  | .im (.tup ds), .im (.int i) => match atI ds i with
    | some d => G (.im d)
    | none => False
  | .im (.str x), .im (.int i) => x.length ≤ sizeLine ∧ match atI x.cps.toList i with
    | some ch => G (.im (.str ⟨#[ch]⟩))
    | none => False
  | m, .im (.int i) => match m.lq? with
    | some ds => match atI ds i with
      | some d => G (.im d)
      | none => False
    | none => False
  | _, _ => False
def rDgt : R2 := fun x y H Q => ∃ a v, x = .ref a ∧ DGet H a y (some v) ∧ Q v H
theorem ix_dict (hu : X.A.units + 1 < cLine) : IxR X rDgt := by
  rintro value slice pins s σ H _ y _ u Q I rx ry ⟨a, w, rfl, g, q⟩ hs
  obtain rfl := rx
  exact PyProof.Rows.tail_any (dict_typeIs I g) PySem.F.slot_dict_getitem.lookup (d_getItem hu I g ry fun w' s3 I3 rw' => ⟨w, H, I3, rw', q⟩) hs
theorem RelD.get {w : Option V} {d : D} (h : RelD K o H w (some d)) : ∃ v, w = some v ∧ Dat K o H v d := by
  cases w with
  | none => exact h.elim
  | some v => exact ⟨v, rfl, h⟩
theorem ix_ok (hu : X.A.units + 1 < cLine) : IxR X (rOp X.K gIx) := by
  have B := (ix_dict hu).or (ix_list.or (ix_tup.or ix_str))
  refine fun value slice pins s σ H x y v u Q I rx ry h hs => B value slice pins s σ H x y v u Q I rx ry ?_ hs
  obtain ⟨o, m1, m2, G, mu, v1, v2, h, q⟩ := h
  unfold gIx at h
  split at h
  · split at h
    · rename_i r e
      obtain ⟨l, g⟩ := v2
      obtain ⟨a, w, rfl, z, rd⟩ := dGet_ok v1 g e
      obtain ⟨w', rfl, dw⟩ := rd.get
      exact .inl ⟨a, w', rfl, z, qim q dw h⟩
    · exact h.elim
  · split at h
    · rename_i r e
      obtain ⟨l, g⟩ := v2
      obtain ⟨a, w, rfl, z, rd⟩ := dGet_ok v1 g e
      obtain ⟨w', rfl, dw⟩ := rd.get
      exact .inl ⟨a, w', rfl, z, qim q dw h⟩
    · exact h.elim
  · split at h
    · rename_i d e
      obtain ⟨a, xs, rfl, ht, dd⟩ := v1.tup
      obtain ⟨w, ew, dw⟩ := atI_D dd e
      exact .inr (.inr (.inl ⟨a, xs, _, w, rfl, v2.int, ht.sq, ew, qim q dw h⟩))
    · exact h.elim
  · obtain ⟨h0, h⟩ := h
    split at h
    · rename_i d e
      exact .inr (.inr (.inr ⟨_, _, _, v1.str, v2.int, h0, e, qim q (.str _) h⟩))
    · exact h.elim
  · split at h
    · rename_i ds el
      split at h
      · rename_i d e
        obtain ⟨a, xs, rfl, ht, dd⟩ := v1.lq el
        obtain ⟨w, ew, dw⟩ := atI_D dd e
        exact .inr (.inl ⟨a, xs, _, w, rfl, v2.int, ht, ew, qim q dw h⟩)
      · exact h.elim
    · exact h.elim
  · exact h.elim
theorem de_ix (hu : X.A.units + 1 < cLine) (ha : DE X c a ta) (hb : DE X c b tb) (hs : PlainIx b := by intro _ _; rfl) : DE X c (.Subscript a b pos) (tBin gIx ta tb) :=
  peImp (pe_ix (ix_ok hu) ha hb hs) fun _ _ _ h => tBin_of h

/-! ### slices -/
abbrev TP' := Env → (Option Int → Env → Prop) → Prop
def TOo (K : PySem.W.Frag) (c : Cc) (t : TP') : TO := fun σ H k => ∃ o ρ τ Q, Rep K c o σ H ρ τ ∧ t ρ Q ∧ ∀ i H' o' ρ', Le o H o' H' → Rep K c o' σ H' ρ' τ → Q i ρ' → k i H'
def DO (X : Cx) (c : Cc) (e : Option Expr) (t : TP') : Prop := PO X e (TOo X.K c t)
theorem poImp {e : Option Expr} {t t' : TO} (h : PO X e t) (f : ∀ σ H k, t' σ H k → t σ H k) : PO X e t' := ⟨fun pins s σ H Q I q => h.run pins s σ H Q I (f _ _ _ q)⟩
def pNo : TP' := fun ρ Q => Q none ρ
def pSo (t : TX) : TP' := fun ρ Q => t ρ fun r ρ1 => match r with
  | .im (.int i) => Q (some i) ρ1
  | _ => False
theorem do_no : DO X c none pNo := poImp po_none fun σ H k ⟨o, ρ, τ, Q, R0, h, q⟩ => q none H o ρ .refl R0 h
theorem do_so (h : DE X c e t) : DO X c (some e) (pSo t) := poImp (po_some h) fun σ H k h => by
  obtain ⟨o, ρ, τ, Q, R0, h, q⟩ := h
  refine ⟨o, ρ, τ, _, R0, h, fun v1 H1 o1 r1 ρ1 τ1 L1 R1 z1 h1 => ?_⟩
  split at h1
  · obtain ⟨rfl, z⟩ := z1
    cases z
    exact ⟨_, rfl, q _ H1 o1 ρ1 L1 R1 h1⟩
  · exact h1.elim
def cutD {α : Type} (xs : List α) (lo hi : Option Int) : List α := (xs.drop (HT.sIx xs.length 0 lo)).take (HT.sIx xs.length xs.length hi - HT.sIx xs.length 0 lo)
theorem Dats.cut {vs : List V} {ds : List D} (h : Dats K o H vs ds) (lo hi : Option Int) : Dats K o H (cutV vs lo hi) (cutD ds lo hi) := by
  unfold cutV cutD
  rw [h.length]
  exact (h.drop _).take _
abbrev G3 := M → Option Int → Option Int → (M → Prop) → Prop
def gSl : G3 := fun m lo hi G => match m with
  | .im (.tup ds) => G (.im (.tup (cutD ds lo hi)))
  | .im (.str x) => x.length ≤ sizeLine ∧ G (.im (.str (Txt.slice x lo hi)))
  | m => match m.lq? with
    | some ds => G (.ls (cutD ds lo hi))
    | none => False
def rSlO (K : PySem.W.Frag) (g : G3) : V → Option Int → Option Int → Hp → VK → Prop := fun x lo hi H k => ∃ o m G, (∀ a l, o a = some l → Mt (H a)) ∧ Vw K o H x m ∧ g m lo hi G ∧ ∀ v H' m', Grow H H' → NewM K o H H' v m' → G m' → k v H'
theorem cut_whole {α : Type} {xs : List α} {lo hi : Option Int} (h : HT.sIx xs.length 0 lo = 0 ∧ HT.sIx xs.length xs.length hi = xs.length) : cutD xs lo hi = xs := by
  unfold cutD
  rw [h.1, h.2]
  simp
theorem sl_ok : SlR X (rSlO X.K gSl) := by
  have B := (sl_tupA (X := X)).or (sl_list.or C8.sl_txt)
  intro pins s σ H x v vl vu lo hi sl Q I rx hs pl pu h
  refine B pins s σ H x v vl vu lo hi sl Q I rx hs pl pu ?_
  obtain ⟨o, m, G, mu, v1, h, q⟩ := h
  unfold gSl at h
  split at h
  · rename_i ds
    obtain ⟨a, xs, rfl, ht, dd⟩ := v1.tup
    refine .inl ⟨a, xs, rfl, ht.sq, fun w => ?_, fun _ p hp => ?_⟩
    · refine qim q (d := .tup ds) (.tup ht dd) ?_
      rw [dd.length] at w
      rwa [cut_whole w] at h
    · exact q _ _ (.im (.tup (cutD ds lo hi))) (.new hp) (newTup mu hp (dd.cut lo hi)) h
  · exact .inr (.inr ⟨_, v1.str, h.1, qim q (.str _) h.2⟩)
  · split at h
    · rename_i ds e
      obtain ⟨a, xs, rfl, ht, dd⟩ := v1.lq e
      exact .inr (.inl ⟨a, xs, rfl, ht, fun p hp => q _ _ (.ls (cutD ds lo hi)) (.new hp) ⟨p, _, rfl, hp, rfl, dd.cut lo hi⟩ h⟩)
    · exact h.elim
def tSlc (t : TX) (tl th : TP') : TX := fun ρ Q => t ρ fun r ρ1 => tl ρ1 fun lo ρ2 => th ρ2 fun hi ρ3 => match vw ρ3 r with
  | some m => gSl m lo hi fun m' => Q m'.res ρ3
  | none => False
theorem de_slice {lo hi : Option Expr} {tl th : TP'} {p2 : Pos} (h : DE X c e t) (hl : DO X c lo tl) (hh : DO X c hi th) : DE X c (.Subscript e (.Slice lo hi none p2) pos) (tSlc t tl th) :=
  peImp (pe_slice sl_ok h hl hh) fun σ H k h => by
    obtain ⟨o, ρ, τ, Q, R0, h, q⟩ := h
    refine ⟨o, ρ, τ, _, R0, h, fun v1 H1 o1 r1 ρ1 τ1 L1 R1 z1 h1 => ?_⟩
    refine ⟨o1, ρ1, τ1, _, R1, h1, fun i H2 o2 ρ2 L2 R2 h2 => ?_⟩
    refine ⟨o2, ρ2, τ1, _, R2, h2, fun j H3 o3 ρ3 L3 R3 h3 => ?_⟩
    split at h3
    · rename_i m e
      have y1 := R3.vw_ok (z1.mono (L2.trans L3)) List.prefix_rfl e
      refine ⟨o3, m, _, R3.mu, y1, h3, fun v H' m' g nm hm => ?_⟩
      obtain ⟨o', τ', L, R', z⟩ := R3.made z1.pre g nm
      exact q v H' o' _ ρ3 τ' (L1.trans (L2.trans (L3.trans L))) R' z hm
    · exact h3.elim

/-! ### calls of built-ins -/
def vws (ρ : Env) : List R → Option (List M)
  | [] => some []
  | r :: rs => match vw ρ r, vws ρ rs with
    | some m, some ms => some (m :: ms)
    | _, _ => none
theorem RelRs.vws (R0 : Rep K c o σ H ρ τ) : ∀ {vs rs τ0 τ1 ms}, RelRs K o H σ vs rs τ0 τ1 → τ1 <+: τ → Y.vws ρ rs = some ms → Paired (Vw K o H) vs ms
  | _, _, _, _, _, .nil, _, e => by simp [Y.vws] at e; subst e; exact .nil
  | _, _, _, _, _, .cons a t, p, e => by
    unfold Y.vws at e
    split at e
    · rename_i m ms e1 e2
      cases e
      exact .cons (R0.vw_ok a (t.pre.trans p) e1) (RelRs.vws R0 t p e2)
    · cases e
abbrev GC := List M → (M → Prop) → Prop
def rCl (K : PySem.W.Frag) (g : GC) : List V → Hp → VK → Prop := fun vs H k => ∃ o ms G, (∀ a l, o a = some l → Mt (H a)) ∧ Paired (Vw K o H) vs ms ∧ g ms G ∧ ∀ v H' m, Grow H H' → NewM K o H H' v m → G m → k v H'
def tCl (g : GC) (ta : TL) : TX := fun ρ Q => ta ρ fun rs ρ1 => match vws ρ1 rs with
  | some ms => g ms fun m => Q m.res ρ1
  | none => False
def CallG (X : Cx) (f : Value) (g : GC) : Prop := CallR X f (rCl X.K g)
theorem callG {f : Value} {g : GC} {r : List V → Hp → VK → Prop} (h : CallR X f r) (i : ∀ vs H k, rCl X.K g vs H k → r vs H k) : CallG X f g := fun pins s σ H xs us Q I rs q => h pins s σ H xs us Q I rs (i _ _ _ q)
theorem tCl_of {g : GC} {ta : TL} {k : VK} (h : TEo K c (tCl g ta) σ H k) : tCB (rCl K g) (TAo K c ta) σ H k := by
  obtain ⟨o, ρ, τ, Q, R0, h, q⟩ := h
  refine ⟨o, ρ, τ, _, R0, h, fun vs H1 o1 rs ρ1 τ1 L1 R1 z1 h1 => ?_⟩
  split at h1
  · rename_i ms e
    refine ⟨o1, ms, _, R1.mu, RelRs.vws R1 z1 List.prefix_rfl e, h1, fun v H' m g nm hm => ?_⟩
    obtain ⟨o', τ', L, R', z⟩ := R1.made z1.pre g nm
    exact q v H' o' _ ρ1 τ' (L1.trans L) R' z hm
  · exact h1.elim
section
variable {x : Str} {p : Pos} {id T : String} {g : GC} {tl : TL}
theorem de_callB (hc : CallG X (.builtin id) g) (hg : Gl X x) (hm : X.mg x = none) (hv : bootBuiltins x = some (.builtin id)) (ha : DA X c (e :: es) tl) (hn : x ≠ "__name__" := by decide) (hdb : (x == ("__debug__" : Str)) = false := by decide)
    (he : starEach (e :: es) X.env = (false, eval e X.env) :: starEach es X.env := by rfl) (hpl : (backTo pos (starEach es X.env)).any (·.1) = false := by rfl) : DE X c (.Call (.Name x p) (e :: es) [] pos) (tCl g tl) :=
  peImp (pe_callB hc hg hm hv ha hn hdb he hpl) fun _ _ _ h => tCl_of h
theorem de_callT (hc : CallG X (.type T) g) (hg : Gl X x) (hm : X.mg x = none) (hv : bootBuiltins x = some (.type T)) (ha : DA X c (e :: es) tl) (hn : x ≠ "__name__" := by decide) (hdb : (x == ("__debug__" : Str)) = false := by decide)
    (he : starEach (e :: es) X.env = (false, eval e X.env) :: starEach es X.env := by rfl) (hpl : (backTo pos (starEach es X.env)).any (·.1) = false := by rfl) : DE X c (.Call (.Name x p) (e :: es) [] pos) (tCl g tl) :=
  peImp (pe_callTy hc hg hm hv ha hn hdb he hpl) fun _ _ _ h => tCl_of h
end
theorem pv1 {vs : List V} {m : M} (h : Paired (Vw K o H) vs [m]) : ∃ v, vs = [v] ∧ Vw K o H v m := by
  cases h with | cons a t => cases t; exact ⟨_, rfl, a⟩
theorem pv2 {vs : List V} {m n : M} (h : Paired (Vw K o H) vs [m, n]) : ∃ v w, vs = [v, w] ∧ Vw K o H v m ∧ Vw K o H w n := by
  cases h with | cons a t => cases t with | cons b t => cases t; exact ⟨_, _, rfl, a, b⟩

/-- len -/
def gLen : GC := fun ms G => match ms with
  | [.im (.tup ds)] => G (.im (.int ds.length))
  | [.im (.str x)] => x.length ≤ sizeLine ∧ G (.im (.int x.length))
  | [.dk kvs] => G (.im (.int kvs.length))
  | [m] => match m.lq? with
    | some ds => G (.im (.int ds.length))
    | none => False
  | _ => False
theorem len_ok : CallG X (.builtin "len") gLen := by
  refine callG (call_len_seq.or (call_len_str.or call_lenD)) fun vs H k h => ?_
  obtain ⟨o, ms, G, mu, v1, h, q⟩ := h
  unfold gLen at h
  split at h
  · obtain ⟨v, rfl, w1⟩ := pv1 v1
    obtain ⟨a, xs, rfl, ht, dd⟩ := w1.tup
    exact .inl ⟨a, xs, rfl, .inr ht.sq, qim q (.int _) (by rw [dd.length]; exact h)⟩
  · obtain ⟨v, rfl, w1⟩ := pv1 v1
    exact .inr (.inl ⟨_, by rw [w1.str], h.1, qim q (.int _) h.2⟩)
  · obtain ⟨v, rfl, w1⟩ := pv1 v1
    obtain ⟨l, a, ks, rfl, _, ha, kv⟩ := w1
    exact .inr (.inr ⟨a, ks, rfl, ha, qim q (.int _) (by rw [kv.length]; exact h)⟩)
  · obtain ⟨v, rfl, w1⟩ := pv1 v1
    split at h
    · rename_i ds e
      obtain ⟨a, xs, rfl, ht, dd⟩ := w1.lq e
      exact .inl ⟨a, xs, rfl, .inl ht, qim q (.int _) (by rw [dd.length]; exact h)⟩
    · exact h.elim
  · exact h.elim
/-- int(n), abs(n) -/
def gInt : GC := fun ms G => match ms with
  | [.im (.int i)] => G (.im (.int i))
  | [.im (.bl b)] => G (.im (.int (if b then 1 else 0)))
  | _ => False
theorem int_ok : CallG X (.type "int") gInt := by
  refine callG call_int1 fun vs H k h => ?_
  obtain ⟨o, ms, G, mu, v1, h, q⟩ := h
  unfold gInt at h
  split at h
  · obtain ⟨v, rfl, w1⟩ := pv1 v1
    exact .inl ⟨_, by rw [w1.int], qim q (.int _) h⟩
  · obtain ⟨v, rfl, w1⟩ := pv1 v1
    exact .inr ⟨_, by rw [w1.bl], qim q (.int _) h⟩
  · exact h.elim
def gAbs : GC := fun ms G => match ms with
  | [.im (.int i)] => G (.im (.int (if i < 0 then -i else i)))
  | _ => False
theorem abs_ok : CallG X (.builtin "abs") gAbs := by
  refine callG call_abs fun vs H k h => ?_
  obtain ⟨o, ms, G, mu, v1, h, q⟩ := h
  unfold gAbs at h
  split at h
  · obtain ⟨v, rfl, w1⟩ := pv1 v1
    exact ⟨_, by rw [w1.int], qim q (.int _) h⟩
  · exact h.elim
/-- list(x), tuple(x) -/
def M.sq? : M → Option (List D)
  | .im (.tup ds) => some ds
  | m => m.lq?
def gList : GC := fun ms G => match ms with
  | [m] => match m.sq? with
    | some ds => G (.ls ds)
    | none => False
  | _ => False
theorem Vw.sq {v : V} {m : M} {ds : List D} (h : Vw K o H v m) (e : m.sq? = some ds) : ∃ a xs, v = .ref a ∧ (SqL K H a xs ∨ SqT K H a xs) ∧ Dats K o H xs ds := by
  unfold M.sq? at e
  split at e
  · cases e
    obtain ⟨a, xs, rfl, ht, dd⟩ := h.tup
    exact ⟨a, xs, rfl, .inr ht.sq, dd⟩
  · obtain ⟨a, xs, rfl, ht, dd⟩ := h.lq e
    exact ⟨a, xs, rfl, .inl ht, dd⟩
theorem list_ok : CallG X (.type "list") gList := by
  refine callG call_list_of fun vs H k h => ?_
  obtain ⟨o, ms, G, mu, v1, h, q⟩ := h
  unfold gList at h
  split at h
  · obtain ⟨v, rfl, w1⟩ := pv1 v1
    split at h
    · rename_i ds e
      obtain ⟨a, xs, rfl, ht, dd⟩ := w1.sq e
      exact ⟨a, xs, rfl, ht, fun l hl => q _ _ (.ls ds) (.new hl) ⟨l, xs, rfl, hl, rfl, dd⟩ h⟩
    · exact h.elim
  · exact h.elim
def gTuple : GC := fun ms G => match ms with
  | [m] => match m.sq? with
    | some ds => G (.im (.tup ds))
    | none => False
  | _ => False
theorem tuple_ok : CallG X (.type "tuple") gTuple := by
  refine callG call_tuple_of fun vs H k h => ?_
  obtain ⟨o, ms, G, mu, v1, h, q⟩ := h
  unfold gTuple at h
  split at h
  · obtain ⟨v, rfl, w1⟩ := pv1 v1
    split at h
    · rename_i ds e
      unfold M.sq? at e
      split at e
      · cases e
        obtain ⟨a, xs, rfl, ht, dd⟩ := w1.tup
        exact ⟨a, xs, rfl, .inr ⟨ht.sq, qim q (.tup ht dd) h⟩⟩
      · obtain ⟨a, xs, rfl, ht, dd⟩ := w1.lq e
        exact ⟨a, xs, rfl, .inl ⟨ht, fun l hl => q _ _ (.im (.tup ds)) (.new hl) (newTup mu hl dd) h⟩⟩
    · exact h.elim
  · exact h.elim
/-- all, any -/
def D.bls? : List D → Option (List Bool)
  | [] => some []
  | .bl b :: ds => (D.bls? ds).map (b :: ·)
  | _ => none
theorem D.bls_eq : ∀ {ds : List D} {bs : List Bool}, D.bls? ds = some bs → ds = bs.map D.bl
  | [], _, e => by cases e; rfl
  | d :: ds, bs, e => by
    unfold D.bls? at e
    split at e
    · rename_i hh; cases hh
    · rename_i b ds' hh
      cases hh
      cases q : D.bls? ds with
      | none => rw [q] at e; cases e
      | some cs => rw [q] at e; cases e; rw [D.bls_eq q]; rfl
    · cases e
theorem D.bls_map : ∀ bs : List Bool, D.bls? (bs.map D.bl) = some bs
  | [] => rfl
  | b :: bs => by simp only [List.map_cons, D.bls?]; rw [D.bls_map bs]; rfl
def gAll (f : List Bool → Bool) : GC := fun ms G => match ms with
  | [m] => match m.lq? with
    | some ds => match D.bls? ds with
      | some bs => G (.im (.bl (f bs)))
      | none => False
    | none => False
  | _ => False
theorem all_ok (hc : X.calm = true) : CallG X (.builtin "all") (gAll fun bs => bs.all id) := by
  refine callG (cr_all hc) fun vs H k h => ?_
  obtain ⟨o, ms, G, mu, v1, h, q⟩ := h
  unfold gAll at h
  split at h
  · obtain ⟨v, rfl, w1⟩ := pv1 v1
    split at h
    · rename_i ds e
      split at h
      · rename_i bs eb
        obtain ⟨a, xs, rfl, ht, dd⟩ := w1.lq e
        have e2 := D.bls_eq eb
        subst e2
        have e3 := dd.bls
        subst e3
        exact ⟨a, bs, rfl, ht, qim q (.bl _) h⟩
      · exact h.elim
    · exact h.elim
  · exact h.elim
theorem any_ok (hc : X.calm = true) : CallG X (.builtin "any") (gAll fun bs => bs.any id) := by
  refine callG (cr_any hc) fun vs H k h => ?_
  obtain ⟨o, ms, G, mu, v1, h, q⟩ := h
  unfold gAll at h
  split at h
  · obtain ⟨v, rfl, w1⟩ := pv1 v1
    split at h
    · rename_i ds e
      split at h
      · rename_i bs eb
        obtain ⟨a, xs, rfl, ht, dd⟩ := w1.lq e
        have e2 := D.bls_eq eb
        subst e2
        have e3 := dd.bls
        subst e3
        exact ⟨a, bs, rfl, ht, qim q (.bl _) h⟩
      · exact h.elim
    · exact h.elim
  · exact h.elim
/-- isinstance(x, T), T a built-in class -/
def tyNames : List String := ["NoneType", "bool", "int", "str", "tuple", "list", "dict"]
def isiT (a b : String) : Bool := a == b || (a == "bool" && b == "int")
theorem isi_kit : ∀ a ∈ tyNames, ∀ b ∈ ["bool", "int", "str", "tuple", "list", "dict"], kitB a b = some (isiT a b) := by decide +kernel
def M.ty : M → Option String
  | .im .non => some "NoneType"
  | .im (.bl _) => some "bool"
  | .im (.int _) => some "int"
  | .im (.str _) => some "str"
  | .im (.tup _) => some "tuple"
  | .im (.lst _) => some "list"
  | .ls _ => some "list"
  | .rd _ => some "list"
  | .dk _ => some "dict"
  | .dt _ => some "dict"
  | _ => none
theorem Vw.ty {v : V} {m : M} {n : String} (h : Vw K o H v m) (e : m.ty = some n) : TyX K H v (.type n) ∧ n ∈ tyNames := by
  cases m with
  | im d =>
    cases d with
    | non => cases e; rw [h.non]; exact ⟨.base .non, by decide⟩
    | bl z => cases e; rw [h.bl]; exact ⟨.base (.bl _), by decide⟩
    | int z => cases e; rw [h.int]; exact ⟨.base (.int _), by decide⟩
    | str z => cases e; rw [h.str]; exact ⟨.base (.str _), by decide⟩
    | raw _ => cases e
    | fnv _ _ _ _ _ => cases e
    | obj _ => cases e
    | tup ds => cases e; obtain ⟨a, xs, rfl, ht, _⟩ := h.tup; exact ⟨.base (.tup ht.2), by decide⟩
    | lst ds => cases e; obtain ⟨a, xs, rfl, ht, _⟩ := h.lst rfl; exact ⟨.base (.lst ht), by decide⟩
  | ls ds => cases e; obtain ⟨a, xs, rfl, ht, _⟩ := h.lst rfl; exact ⟨.base (.lst ht), by decide⟩
  | sq ds => cases e
  | rd ds => cases e; obtain ⟨a, xs, rfl, ht, _⟩ := h.lst rfl; exact ⟨.base (.lst ht), by decide⟩
  | dk kvs => cases e; obtain ⟨l, a, ks, rfl, _, ha, _⟩ := h; exact ⟨.base (.dK ha), by decide⟩
  | dt kvs => cases e; obtain ⟨l, a, ks, rfl, _, ha, _⟩ := h; exact ⟨.base (.dT ha), by decide⟩
def gIsi : GC := fun ms G => match ms with
  | [m, .im (.raw (.ty n))] => match m.ty with
    | some a => n ∈ ["bool", "int", "str", "tuple", "list", "dict"] ∧ G (.im (.bl (isiT a n)))
    | none => False
  | _ => False
theorem isi_ok : CallG X (.builtin "isinstance") gIsi := by
  refine callG call_isi fun vs H k h => ?_
  obtain ⟨o, ms, G, mu, v1, h, q⟩ := h
  unfold gIsi at h
  split at h
  · obtain ⟨v, w, rfl, w1, w2⟩ := pv2 v1
    split at h
    · rename_i a e
      obtain ⟨t1, t2⟩ := w1.ty e
      obtain ⟨l, w2⟩ := w2
      cases (show Dat X.K o H w (.raw _) from w2)
      exact ⟨v, _, _, _, _, rfl, .ty _, t1, isi_kit a t2 _ h.1, qim q (.bl _) h.2⟩
    · exact h.elim
  · exact h.elim
end
end Y
namespace Y
open PySem PySem.Spec L2

/-! ### statements -/
structure EndP where
  nx : Env → Prop
  rt : M → Env → Prop
  bk : Env → Prop := fun _ => False
  ct : Env → Prop := fun _ => False
abbrev TSX := EndP → Env → Prop
/-- the way on: from a state that is wanted to what the statement is to reach -/
def Way (K : PySem.W.Frag) (c : Cc) (o : Own) (H : Hp) (f : Env → Prop) (g : St → Hp → Prop) : Prop :=
  ∀ σ' H' o' ρ', Le o H o' H' → Rep K c o' σ' H' ρ' [] → f ρ' → g σ' H'
def WayR (K : PySem.W.Frag) (c : Cc) (o : Own) (H : Hp) (f : M → Env → Prop) (g : VK) : Prop :=
  ∀ v σ' H' o' ρ' m, Le o H o' H' → Rep K c o' σ' H' ρ' [] → IsM K o' H' (.t 0) v m → f m ρ' → g v H'
structure Ways (K : PySem.W.Frag) (c : Cc) (o : Own) (H : Hp) (P : EndP) (D : Ends) : Prop where
  nx : Way K c o H P.nx D.nx
  rt : WayR K c o H P.rt D.rt
  bk : Way K c o H P.bk D.bk
  ct : Way K c o H P.ct D.ct
def TSo (K : PySem.W.Frag) (c : Cc) (t : TSX) : TS := fun D σ H => ∃ o ρ P, Rep K c o σ H ρ [] ∧ t P ρ ∧ Ways K c o H P D
def DS (X : Cx) (c : Cc) (st : Stmt) (t : TSX) : Prop := PS X st (TSo X.K c t)
def DSs (X : Cx) (c : Cc) (st : List Stmt) (t : TSX) : Prop := PSs X st (TSo X.K c t)
theorem psImp {X : Cx} {st : Stmt} {t t' : TS} (h : PS X st t) (f : ∀ D σ H, t' D σ H → t D σ H) : PS X st t' := ⟨fun pins s σ H D I q => h.run pins s σ H D I (f _ _ _ q)⟩
theorem pssImp {X : Cx} {st : List Stmt} {t t' : TS} (h : PSs X st t) (f : ∀ D σ H, t' D σ H → t D σ H) : PSs X st t' := ⟨fun pins s σ H D I q => h.run pins s σ H D I (f _ _ _ q)⟩

section
variable {K : PySem.W.Frag} {c : Cc} {o o' : Own} {σ σ' : St} {H H' : Hp} {ρ ρ' : Env} {τ τ' τ0 τ1 : List (V × M)} {X : Cx} {e a b : Expr} {es : List Expr} {pos : Pos} {t u : TX} {P : EndP} {D : Ends}
theorem Way.le {f : Env → Prop} {g : St → Hp → Prop} (w : Way K c o H f g) (L : Le o H o' H') : Way K c o' H' f g := fun σ2 H2 o2 ρ2 L2 R q => w σ2 H2 o2 ρ2 (L.trans L2) R q
theorem WayR.le {f : M → Env → Prop} {g : VK} (w : WayR K c o H f g) (L : Le o H o' H') : WayR K c o' H' f g := fun v σ2 H2 o2 ρ2 m L2 R i q => w v σ2 H2 o2 ρ2 m (L.trans L2) R i q
theorem Ways.le (w : Ways K c o H P D) (L : Le o H o' H') : Ways K c o' H' P D := ⟨w.nx.le L, w.rt.le L, w.bk.le L, w.ct.le L⟩
theorem Rep.forget (R0 : Rep K c o σ H ρ τ) : Rep K c o σ H ρ [] := ⟨R0.sl, fun j v m e => by simp at e, R0.mu, R0.le, R0.ln, R0.st⟩

def sNil : TSX := fun P ρ => P.nx ρ
def sSeq (t u : TSX) : TSX := fun P ρ => t { P with nx := u P } ρ
theorem ds_nil : DSs X c [] sNil := pssImp pss_nil fun D σ H ⟨o, ρ, P, R0, h, w⟩ => w.nx σ H o ρ .refl R0 h
theorem ds_cons {s : Stmt} {ss : List Stmt} {t u : TSX} (h1 : DS X c s t) (h2 : DSs X c ss u) : DSs X c (s :: ss) (sSeq t u) :=
  pssImp (pss_cons h1 h2) fun D σ H ⟨o, ρ, P, R0, h, w⟩ =>
    ⟨o, ρ, _, R0, h, ⟨fun σ' H' o' ρ' L R q => ⟨o', ρ', P, R, q, w.le L⟩, w.rt, w.bk, w.ct⟩⟩
theorem ds_one {s : Stmt} {t : TSX} (h1 : DS X c s t) : DSs X c [s] t := pss_one h1
def sBk : TSX := fun P ρ => P.bk ρ
def sCt : TSX := fun P ρ => P.ct ρ
theorem ds_pass : DS X c (.Pass pos) sNil := psImp ps_pass fun D σ H ⟨o, ρ, P, R0, h, w⟩ => w.nx σ H o ρ .refl R0 h
theorem ds_break : DS X c (.Break pos) sBk := psImp ps_break fun D σ H ⟨o, ρ, P, R0, h, w⟩ => w.bk σ H o ρ .refl R0 h
theorem ds_continue : DS X c (.Continue pos) sCt := psImp ps_continue fun D σ H ⟨o, ρ, P, R0, h, w⟩ => w.ct σ H o ρ .refl R0 h
def sDrop (t : TX) : TSX := fun P ρ => t ρ fun _ ρ1 => P.nx ρ1
theorem ds_expr (h : DE X c e t) (hs : swapsWith e none pos.line X.env = pure false := by rfl) : DS X c (.Expr e pos) (sDrop t) :=
  psImp (ps_expr h hs) fun D σ H ⟨o, ρ, P, R0, h, w⟩ => ⟨o, ρ, [], _, R0, h, fun v H' o' r ρ' τ' L R z q => w.nx σ H' o' ρ' L R.forget q⟩
def sIf (q : TQ) (t u : TSX) : TSX := fun P ρ => q ρ fun b ρ1 => if b = true then t P ρ1 else u P ρ1
theorem ds_if {cond : Expr} {as bs : List Stmt} {q : TQ} {t u : TSX} (hc : DT X c cond q) (ha : DSs X c as t) (hb : DSs X c bs u) : DS X c (.If cond as bs pos) (sIf q t u) :=
  psImp (ps_if hc ha hb) fun D σ H ⟨o, ρ, P, R0, h, w⟩ => ⟨o, ρ, [], _, R0, h, fun b H' o' ρ' L R q => by
    cases b with
    | true => exact ⟨o', ρ', P, R, q, w.le L⟩
    | false => exact ⟨o', ρ', P, R, q, w.le L⟩⟩

/-! ### labels changed -/
def relL (l l' : Lb) (o : Own) : Own := fun a => if o a = some l then some l' else o a
theorem relL_le {l l' : Lb} (h : l ≠ .x) (hk : ∀ q, l ≠ .k q := by intro q z; cases z) : Le o H (relL l l' o) H :=
  .mk' (fun b u e f => ⟨by unfold relL; rw [e]; simp, f⟩) (fun b e => ⟨by unfold relL; rw [e, if_neg (by intro z; cases z; exact h rfl)], rfl⟩) fun b q e => ⟨(by unfold relL; rw [e, if_neg (by intro z; cases z; exact hk q rfl)]), rfl⟩
theorem relL_other {l l' k : Lb} (h : k ≠ l) {a : Addr} (e : o a = some k) : relL l l' o a = some k := by
  unfold relL; rw [e, if_neg (by intro z; cases z; exact h rfl)]
theorem relL_same {l l' : Lb} {a : Addr} (e : o a = some l) : relL l l' o a = some l' := by unfold relL; rw [if_pos e]
theorem relL_mu {l l' : Lb} (mu : ∀ a l, o a = some l → Mt (H a)) : ∀ a k, relL l l' o a = some k → Mt (H a) := fun a k e => by
  unfold relL at e
  split at e
  · rename_i q; exact mu a _ q
  · exact mu a _ e
theorem relL_ks {l l' : Lb} (h : ∀ q, l ≠ .k q := by intro q z; cases z) (h' : ∀ q, l' ≠ .k q := by intro q z; cases z) : Ks o H (relL l l' o) H :=
  ⟨fun b q _ e => ⟨relL_other (fun z => h q z.symm) e, rfl⟩, fun b q e => by
    unfold relL at e
    split at e
    · injection e with e; exact absurd e (h' q)
    · exact e⟩
/-- a slot's object goes to another label; the slot is empty -/
theorem Rep.move (R0 : Rep K c o σ H ρ τ) (i : Nat) (l' : Lb) (hl : ∀ q, l' ≠ .k q := by intro q z; cases z) : Rep K c (relL (.s i) l' o) σ H (ρ.set i .no) τ := by
  have L : Le o H (relL (.s i) l' o) H := relL_le (by intro z; cases z)
  refine ⟨fun j s e => ?_, fun j v m e => ⟨(R0.tm j v m e).1.mono L fun a q => ⟨relL_other (by intro z; cases z) q, rfl⟩, (R0.tm j v m e).2⟩, relL_mu R0.mu, R0.le.trans L, by rw [List.length_set]; exact R0.ln, R0.st.mono L (relL_ks (h' := hl))⟩
  by_cases hj : i = j
  · subst hj
    by_cases hl : i < ρ.sl.length
    · rw [List.getElem?_set_self hl] at e; cases e; exact trivial
    · rw [List.getElem?_eq_none (by simpa using hl)] at e; cases e
  · rw [List.getElem?_set_ne hj] at e
    exact (R0.sl j s e).mono L (fun a q => ⟨relL_other (by intro z; injection z with z; exact hj z.symm) q, rfl⟩) fun a q => ⟨relL_other (by intro z; cases z) q, rfl⟩
/-- the last temporary's object goes to a label of a slot -/
theorem Rep.takeT (R0 : Rep K c o σ H ρ (τ ++ [(v, m)])) (l' : Lb) (hl : ∀ q, l' ≠ .k q := by intro q z; cases z) : Rep K c (relL (.t τ.length) l' o) σ H ρ τ ∧ IsM K (relL (.t τ.length) l' o) H l' v m := by
  have L : Le o H (relL (.t τ.length) l' o) H := relL_le (by intro z; cases z)
  refine ⟨⟨fun j s e => (R0.sl j s e).mono L (fun a q => ⟨relL_other (by intro z; cases z) q, rfl⟩) fun a q => ⟨relL_other (by intro z; cases z) q, rfl⟩, fun j w m' e => ?_, relL_mu R0.mu, R0.le.trans L, R0.ln, R0.st.mono L (relL_ks (h' := hl))⟩, ?_⟩
  · have hj : j < τ.length := (List.getElem?_eq_some_iff.mp e).1
    have q := R0.tm j w m' (by rw [List.getElem?_append_left hj]; exact e)
    exact ⟨q.1.mono L fun a z => ⟨relL_other (by intro w; injection w with w; omega) z, rfl⟩, q.2⟩
  · exact (R0.tm τ.length v m (by simp)).1.mono L fun a z => ⟨relL_same z, rfl⟩
/-- a slot is set -/
theorem Rep.set (R0 : Rep K c o σ H ρ τ) {i : Nat} {v : V} {s : Sl} (h : SlOk K c o (σ.set i (some v)) H i s ∨ ¬ i < ρ.sl.length) : Rep K c o (σ.set i (some v)) H (ρ.set i s) τ := by
  refine ⟨fun j s' e => ?_, R0.tm, R0.mu, R0.le, by rw [List.length_set, List.length_set]; exact R0.ln, R0.st⟩
  by_cases hj : i = j
  · subst hj
    rcases h with h | h
    · by_cases hl : i < ρ.sl.length
      · rw [List.getElem?_set_self hl] at e; cases e; exact h
      · rw [List.getElem?_eq_none (by simpa using hl)] at e; cases e
    · rw [List.getElem?_eq_none (by simpa using h)] at e; cases e
  · rw [List.getElem?_set_ne hj] at e
    have q := R0.sl j s' e
    have es : (σ.set i (some v))[j]? = σ[j]? := List.getElem?_set_ne hj
    cases s' with
    | no => exact trivial
    | lo m => obtain ⟨w, e1, z⟩ := q; exact ⟨w, by rw [es]; exact e1, z⟩
    | pa m => obtain ⟨w, e1, e2, z⟩ := q; exact ⟨w, by rw [es]; exact e1, e2, z⟩
    | hd p w m => obtain ⟨e1, e2, z⟩ := q; exact ⟨by rw [es]; exact e1, e2, z⟩
theorem set_at {i : Nat} {v w : V} (h : σ[i]? = some (some w)) : (σ.set i (some v))[i]? = some (some v) := by
  have hl : i < σ.length := (List.getElem?_eq_some_iff.mp h).1
  rw [List.getElem?_set_self hl]
/-- a slot that holds something stands within the frame's slots -/
theorem Rep.asg (R0 : Rep K c o σ H ρ τ) {i : Nat} {v : V} {m : M} (h : IsM K o H (.s i) v m) : Rep K c o (σ.set i (some v)) H (ρ.set i (.lo m)) τ := by
  refine R0.set ?_
  by_cases q : i < ρ.sl.length
  · exact .inl ⟨v, by rw [List.getElem?_set_self (by rw [← R0.ln]; exact q)], h⟩
  · exact .inr q
/-- a name is given a value: data; a new object; another name's object, which that name loses -/
def asg (i : Nat) (r : R) (ρ : Env) (k : Env → Prop) : Prop := match r with
  | .im d => k (ρ.set i (.lo (.im d)))
  | .tm m => k (ρ.set i (.lo m))
  | .sl j => match ρ.sl[j]? with
    | some (.lo (.sq ds)) => k (ρ.set i (.lo (.sq ds)))
    | some (.pa (.sq ds)) => k (ρ.set i (.lo (.sq ds)))
    | some (.lo m) => k ((ρ.set j .no).set i (.lo m))
    | some (.pa m) => k ((ρ.set j .no).set i (.lo m))
    | _ => False
theorem asg_ok (R0 : Rep K c o σ H ρ τ') {i : Nat} {v : V} {r : R} {f : Env → Prop} (z : RelR K o H σ v r τ τ') (h : asg i r ρ f) (q : ∀ o' ρ', Le o H o' H → Rep K c o' (σ.set i (some v)) H ρ' τ → f ρ' → D.nx (σ.set i (some v)) H) : D.nx (σ.set i (some v)) H := by
  unfold asg at h
  split at h
  · obtain ⟨rfl, z⟩ := z
    exact q o _ .refl (R0.asg (m := .im _) z) h
  · have z : τ' = τ ++ [(v, _)] := z
    subst z
    obtain ⟨R1, i1⟩ := R0.takeT (.s i)
    exact q _ _ (relL_le (by intro z; cases z)) (R1.asg i1) h
  · rename_i j
    obtain ⟨rfl, z⟩ := z
    split at h
    · rename_i ds e
      obtain ⟨w, e1, q1⟩ := R0.sl _ _ e
      rw [z] at e1; cases e1
      exact q o _ .refl (R0.asg (m := .sq ds) q1) h
    · rename_i ds e
      obtain ⟨w, e1, e2, q1⟩ := R0.sl _ _ e
      rw [z] at e1; cases e1
      exact q o _ .refl (R0.asg (m := .sq ds) q1) h
    · rename_i m _ e
      obtain ⟨w, e1, q1⟩ := R0.sl _ _ e
      rw [z] at e1; cases e1
      refine q _ _ (relL_le (l := .s j) (l' := .s i) (by intro z; cases z)) ((R0.move j (.s i)).asg (m := m) (q1.mono (relL_le (by intro z; cases z)) fun a y => ⟨relL_same y, rfl⟩)) h
    · rename_i m _ e
      obtain ⟨w, e1, e2, q1⟩ := R0.sl _ _ e
      rw [z] at e1; cases e1
      refine q _ _ (relL_le (l := .s j) (l' := .s i) (by intro z; cases z)) ((R0.move j (.s i)).asg (m := m) (q1.mono (relL_le (by intro z; cases z)) fun a y => ⟨relL_same y, rfl⟩)) h
    · exact h.elim
def sAsg (i : Nat) (t : TX) : TSX := fun P ρ => t ρ fun r ρ1 => asg i r ρ1 P.nx
theorem sAsg_of {i : Nat} {t : TX} (h : TSo K c (sAsg i t) D σ H) : tAsg (TEo K c t) (gName i) D σ H := by
  obtain ⟨o, ρ, P, R0, h, w⟩ := h
  refine ⟨o, ρ, [], _, R0, h, fun v H1 o1 r1 ρ1 τ1 L1 R1 z1 h1 => ?_⟩
  exact asg_ok R1 z1 h1 fun o' ρ' L R q => w.nx _ _ o' ρ' (L1.trans L) R q
theorem ds_set {i : Nat} {x : Str} {pos' : Pos} (hN : X.N.Nodup) (h : DE X c e t) (hi : X.N[i]? = some x := by rfl) (hx : Loc X.env.scope x := by first | exact Or.inl rfl | exact Or.inr rfl) (hs : swapsWith e (some (.Name x pos')) pos.line X.env = pure false := by rfl)
    (hf : X.fn x = true ∨ X.env.scope.names.lookup x = some .local := by first | exact .inl rfl | exact .inr rfl | assumption) : DS X c (.Assign [.Name x pos'] e pos) (sAsg i t) :=
  psImp (ps_set hN hi hx h hs hf) fun _ _ _ h => sAsg_of h
def sRet (t : TX) : TSX := fun P ρ => t ρ fun r ρ1 => match r with
  | .im d => P.rt (.im d) ρ1
  | .tm m => P.rt m ρ1
  | .sl j => match ρ1.sl[j]? with
    | some (.lo m) => P.rt m (ρ1.set j .no)
    | some (.pa m) => P.rt m (ρ1.set j .no)
    | _ => False
theorem ds_ret (h : DE X c e t) : DS X c (.Return (some e) pos) (sRet t) := psImp (ps_ret h) fun D σ H h => by
  obtain ⟨o, ρ, P, R0, h, w⟩ := h
  refine ⟨o, ρ, [], _, R0, h, fun v H1 o1 r1 ρ1 τ1 L1 R1 z1 h1 => ?_⟩
  split at h1
  · obtain ⟨rfl, z⟩ := z1
    exact w.rt v σ H1 o1 ρ1 (.im _) L1 R1 z h1
  · rename_i m
    have z : τ1 = [] ++ [(v, m)] := z1
    subst z
    exact w.rt v σ H1 o1 ρ1 m L1 R1.forget (R1.tm 0 v m rfl).1 h1
  · rename_i j
    obtain ⟨rfl, z⟩ := z1
    split at h1
    · rename_i m e
      obtain ⟨w', e1, q1⟩ := R1.sl _ _ e
      rw [z] at e1; cases e1
      exact w.rt v σ H1 _ _ m (L1.trans (relL_le (l := .s j) (l' := .t 0) (by intro z; cases z))) (R1.move j (.t 0)) (q1.mono (relL_le (by intro z; cases z)) fun a y => ⟨relL_same y, rfl⟩) h1
    · rename_i m e
      obtain ⟨w', e1, e2, q1⟩ := R1.sl _ _ e
      rw [z] at e1; cases e1
      exact w.rt v σ H1 _ _ m (L1.trans (relL_le (l := .s j) (l' := .t 0) (by intro z; cases z))) (R1.move j (.t 0)) (q1.mono (relL_le (by intro z; cases z)) fun a y => ⟨relL_same y, rfl⟩) h1
    · exact h1.elim
def sRetN : TSX := fun P ρ => P.rt (.im .non) ρ
theorem ds_retN : DS X c (.Return none pos) sRetN := psImp ps_retN fun D σ H ⟨o, ρ, P, R0, h, w⟩ => w.rt .non σ H o ρ (.im .non) .refl R0 .non h
end
end Y
namespace Y
open PySem PySem.Spec L2

section
variable {K : PySem.W.Frag} {c : Cc} {o o' : Own} {σ σ' : St} {H H' : Hp} {ρ ρ' : Env} {τ τ' τ0 τ1 : List (V × M)} {X : Cx} {e a b : Expr} {es : List Expr} {pos : Pos} {t u : TX} {P : EndP} {D' : Ends}
/-! ### a slot's object is changed -/
def Sl.up : Sl → M → Sl
  | .pa _, m => .pa m
  | _, m => .lo m
/-- what a slot owns -/
def Sl.m! : Sl → Option M
  | .lo m => some m
  | .pa m => some m
  | _ => none
theorem SlOk.of! {i : Nat} {s : Sl} {m : M} (h : SlOk K c o σ H i s) (e : s.m! = some m) : ∃ v, σ[i]? = some (some v) ∧ IsM K o H (.s i) v m := by
  cases s with
  | no => cases e
  | lo z => cases e; exact h
  | pa z => cases e; obtain ⟨v, a, _, q⟩ := h; exact ⟨v, a, q⟩
  | hd p v z => cases e
theorem Rep.mut1 (R0 : Rep K c o σ H ρ τ) {i : Nat} {s : Sl} {m0 m : M} {a : Addr} {u : HO} (e : ρ.sl[i]? = some s) (hs : s.m! = some m0) (hv : σ[i]? = some (some (.ref a))) (ho : o a = some (.s i)) (hu : Mt (some u))
    (h : IsM K o (upd H a u) (.s i) (.ref a) m) : Rep K c o σ (upd H a u) (ρ.set i (s.up m)) τ ∧ Le o H o (upd H a u) := by
  have ne : ∀ b l, o b = some l → l ≠ .s i → b ≠ a := fun b l q z w => by subst w; rw [ho] at q; cases q; exact z rfl
  have L : Le o H o (upd H a u) := Le.mk' (fun b w q f => ⟨q, by rw [upd_ne (fun z => by subst z; rw [ho] at q; cases q)]; exact f⟩) (fun b q => ⟨q, upd_ne (ne b _ q (by intro z; cases z))⟩) fun b _ q => ⟨q, upd_ne (ne b _ q (by intro z; cases z))⟩
  have kp : ∀ l, l ≠ .s i → ∀ b, o b = some l → o b = some l ∧ upd H a u b = H b := fun l z b q => ⟨q, upd_ne (ne b l q z)⟩
  refine ⟨⟨fun j s' q => ?_, fun j v m' q => ⟨(R0.tm j v m' q).1.mono L (kp _ (by intro z; cases z)), (R0.tm j v m' q).2⟩, fun b l q => ?_, R0.le.trans L, by rw [List.length_set]; exact R0.ln, R0.st.mono L (Ks.upd fun q z => by rw [ho] at z; cases z)⟩, L⟩
  · by_cases hj : i = j
    · subst hj
      have hl : i < ρ.sl.length := (List.getElem?_eq_some_iff.mp e).1
      rw [List.getElem?_set_self hl] at q; cases q
      have k := R0.sl i s e
      cases s with
      | no => cases hs
      | lo z => exact ⟨_, hv, h⟩
      | pa z => obtain ⟨v, a1, a2, _⟩ := k; rw [hv] at a1; cases a1; exact ⟨_, hv, a2, h⟩
      | hd p v z => cases hs
    · rw [List.getElem?_set_ne hj] at q
      exact (R0.sl j s' q).mono L (kp _ (by intro z; injection z with z; exact hj z.symm)) (kp _ (by intro z; cases z))
  · by_cases z : b = a
    · subst z; rw [upd_same]; exact hu
    · rw [upd_ne z]; exact R0.mu b l q

/-! ### methods of a list that change it -/
abbrev GM := List D → List D → (D → List D → Prop) → Prop
def rMt (K : PySem.W.Frag) (g : GM) : V → List V → Hp → VK → Prop := fun x vs H Q => ∃ l xs ds es o G, x = .ref l ∧ H l = some (.lst xs) ∧ Dats K o H xs ds ∧ Dats K o H vs es ∧ g ds es G ∧
  ∀ y d xs' ds', Dat K o H y d → Dats K o H xs' ds' → G d ds' → Q y (upd H l (.lst xs'))
def MtG (X : Cx) (id : String) (g : GM) : Prop := MtR X id (rMt X.K g)
theorem mtG {id : String} {g : GM} {r : V → List V → Hp → VK → Prop} (h : MtR X id r) (i : ∀ x vs H k, rMt X.K g x vs H k → r x vs H k) : MtG X id g := fun pins s σ H x xs v us Q I rx rs q => h pins s σ H x xs v us Q I rx rs (i _ _ _ _ q)
def gApp : GM := fun ds es G => match es with
  | [d] => ds.length < sizeLine ∧ G .non (ds ++ [d])
  | _ => False
theorem app_ok : MtG X "list.append" gApp := by
  refine mtG mt_append fun x vs H k h => ?_
  obtain ⟨l, xs, ds, es, o, G, rfl, hl, d1, d2, h, q⟩ := h
  unfold gApp at h
  split at h
  · cases d2 with | cons a t => cases t; exact ⟨l, xs, _, rfl, rfl, hl, by rw [d1.length]; exact h.1, q _ _ _ _ .non (d1.append (.cons a .nil)) h.2⟩
  · exact h.elim
def gExt : GM := fun ds es G => match es with
  | [.lst zs] => ds.length + zs.length ≤ sizeLine ∧ G .non (ds ++ zs)
  | _ => False
theorem ext_ok : MtG X "list.extend" gExt := by
  refine mtG mt_extend fun x vs H k h => ?_
  obtain ⟨l, xs, ds, es, o, G, rfl, hl, d1, d2, h, q⟩ := h
  unfold gExt at h
  split at h
  · cases d2 with
    | cons a t =>
      cases t
      cases a with
      | lst a1 a2 a3 => exact ⟨l, _, xs, _, rfl, rfl, hl, a2, by rw [d1.length, a3.length]; exact h.1, q _ _ _ _ .non (d1.append a3) h.2⟩
  · exact h.elim
def gPop : GM := fun ds es G => match es with
  | [] => match ds.getLast? with
    | some d => G d ds.dropLast
    | none => False
  | _ => False
theorem pop_ok : MtG X "list.pop" gPop := by
  refine mtG mt_pop fun x vs H k h => ?_
  obtain ⟨l, xs, ds, es, o, G, rfl, hl, d1, d2, h, q⟩ := h
  unfold gPop at h
  split at h
  · cases d2
    split at h
    · rename_i d e
      rw [List.getLast?_eq_getElem?] at e
      obtain ⟨w, e2, dw⟩ := d1.get e
      rw [← d1.length] at e2
      exact ⟨l, xs, w, rfl, rfl, hl, e2, q _ _ _ _ dw d1.dropLast h⟩
    · exact h.elim
  · exact h.elim
def gRev : GM := fun ds es G => match es with
  | [] => G .non ds.reverse
  | _ => False
theorem rev_ok : MtG X "list.reverse" gRev := by
  refine mtG mt_reverse fun x vs H k h => ?_
  obtain ⟨l, xs, ds, es, o, G, rfl, hl, d1, d2, h, q⟩ := h
  unfold gRev at h
  split at h
  · cases d2; exact ⟨l, xs, rfl, rfl, hl, q _ _ _ _ .non d1.reverse h⟩
  · exact h.elim
/-- x.m(..) of a name's own list -/
def tMt (g : GM) (i : Nat) (ta : TL) : TX := fun ρ Q => (match ρ.sl[i]? with
  | some s => match s.m! with
    | some (.ls _) => True
    | _ => False
  | none => False) ∧ tFrz ta (fun ds ρ1 => match ρ1.sl[i]? with
    | some s => match s.m! with
      | some (.ls xs) => g xs ds fun d xs' => Q (.im d) (ρ1.set i (s.up (.ls xs')))
      | _ => False
    | none => False) ρ
theorem tMt_of {g : GM} {i : Nat} {ta : TL} {k : VK} (h : TEo K c (tMt g i ta) σ H k) : tBM K "list" (rMt K g) (tVar i) (TAo K c ta) σ H k := by
  obtain ⟨o, ρ, τ, Q, R0, ⟨h0, h⟩, q⟩ := h
  split at h0
  · rename_i s e
    split at h0
    · rename_i xs em
      obtain ⟨v, hv, ⟨a, ys, rfl, ho, hH, dd⟩⟩ := (R0.sl i s e).of! em
      refine ⟨_, hv, .inl ⟨rfl, ys, SqL.of hH⟩, ?_⟩
      refine tFrz_of R0 h fun vs H1 o1 ds ρ1 L1 R1 d1 h1 => ?_
      split at h1
      · rename_i s' e'
        split at h1
        · rename_i zs em'
          obtain ⟨v', hv', ⟨a', ys', rfl, ho', hH', dd'⟩⟩ := (R1.sl i s' e').of! em'
          rw [hv] at hv'; cases hv'
          refine ⟨a, ys', zs, ds, o1, _, rfl, hH', dd', d1, h1, fun y d xs' ds' dy dxs hG => ?_⟩
          have L : Le o1 H1 o1 (upd H1 a (.lst xs')) := (R1.mut1 (m := .rd []) (u := .lst []) e' em' hv ho' trivial ⟨a, [], rfl, ho', upd_same, .nil⟩).2 |> fun _ => by
            exact .mk' (fun b w q f => ⟨q, by rw [upd_ne (fun z => by subst z; rw [ho'] at q; cases q)]; exact f⟩) (fun b q => ⟨q, upd_ne (fun z => by subst z; rw [ho'] at q; cases q)⟩) fun b _ q => ⟨q, upd_ne (fun z => by subst z; rw [ho'] at q; cases q)⟩
          obtain ⟨R2, L2⟩ := R1.mut1 (m := .ls ds') (u := .lst xs') e' em' hv ho' trivial ⟨a, xs', rfl, ho', upd_same, dxs.mono L⟩
          exact q y _ o1 (.im d) _ τ (L1.trans L2) R2 ⟨rfl, dy.mono L2⟩ hG
        · exact h1.elim
      · exact h1.elim
    · exact h0.elim
  · exact h0.elim
section
variable {name : Str} {x : Str} {px apos cpos : Pos} {id : String} {g : GM} {ta : TL}
theorem de_mt (i : Nat) (pa : PySem.PlainAttrs "list") (slot : PySem.Slot "list" name id) (hty : typeOf (.builtin id) = pure (.type "method_descriptor")) (hm : MtG X id g) (ha : DA X c (e :: es) ta)
    (hN : X.N[i]? = some x := by rfl) (hv : Vis X.env.scope x := by first | exact Or.inl rfl | exact Or.inr (Or.inl rfl) | exact Or.inr (Or.inr rfl))
    (hbase : attributeBase (.Name x px) name X.env (eval (.Name x px) X.env) = eval (.Name x px) X.env := by rfl)
    (hfew : ((backTo cpos (starEach (e :: es) X.env)).all (fun x => !x.1) && (backToKw cpos (keywordEach [] X.env)).all (fun x => x.1.isSome)
      && decide ((e :: es).length + ([] : List Keyword).length + (if ([] : List Keyword).isEmpty then 0 else 1) < 30)) = true := by rfl)
    (hline : (apos.endLine == cpos.line) = true := by rfl) (hs : starEach (e :: es) X.env = (false, eval e X.env) :: starEach es X.env := by rfl) (hplain : (backTo cpos (starEach es X.env)).any (·.1) = false := by rfl)
    (hd : (x == ("__debug__" : Str)) = false := by decide) (hcd : (x == ("__classdict__" : Str)) = false := by decide) :
    DE X c (.Call (.Attribute (.Name x px) name apos) (e :: es) [] cpos) (tMt g i ta) :=
  peImp (pe_bm pa slot hty hm (pe_var (i := i) hN hv hd hcd) ha hbase hfew hline hs hplain) fun _ _ _ h => tMt_of h
theorem de_mt0 (i : Nat) (pa : PySem.PlainAttrs "list") (slot : PySem.Slot "list" name id) (hty : typeOf (.builtin id) = pure (.type "method_descriptor")) (hm : MtG X id g)
    (hN : X.N[i]? = some x := by rfl) (hv : Vis X.env.scope x := by first | exact Or.inl rfl | exact Or.inr (Or.inl rfl) | exact Or.inr (Or.inr rfl))
    (hbase : attributeBase (.Name x px) name X.env (eval (.Name x px) X.env) = eval (.Name x px) X.env := by rfl) (hline : (apos.endLine == cpos.line) = true := by rfl)
    (hd : (x == ("__debug__" : Str)) = false := by decide) (hcd : (x == ("__classdict__" : Str)) = false := by decide) :
    DE X c (.Call (.Attribute (.Name x px) name apos) [] [] cpos) (tMt g i lNil) :=
  peImp (pe_bm0 pa slot hty hm (pe_var (i := i) hN hv hd hcd) hbase hline) fun σ H k h => by
    obtain ⟨v, hv, ty, q⟩ := tMt_of h
    refine ⟨v, hv, ty, ?_⟩
    obtain ⟨o, ρ, τ, Q, R0, h, q⟩ := q
    exact q [] H o [] ρ τ .refl R0 .nil h
end

/-! ### x[k] = v of a name's own list or dict -/
def setM (m : M) (k v : D) (G : M → Prop) : Prop := match m, k with
  | .ls ds, .int i => match ixN ds.length i with
    | some j => G (.ls (ds.set j v))
    | none => False
  | .dk kvs, k => match k.key? with
    | some k => kvs.length < sizeLine ∧ G (.dk (putD kvs k v))
    | none => False
  | .dt kvs, .tup ks => match D.keys? ks with
    | some k => kvs.length < sizeLine ∧ G (.dt (putD kvs k v))
    | none => False
  | _, _ => False
theorem PSet.or {t t' : TSet} (h : PSet X t) (h' : PSet X t') : PSet X (fun o i v H Q => t o i v H Q ∨ t' o i v H Q) := by
  intro pins s σ H o i v ov iv u Q I ro ri rv q
  rcases q with q | q
  · exact h pins s σ H o i v ov iv u Q I ro ri rv q
  · exact h' pins s σ H o i v ov iv u Q I ro ri rv q
theorem le_mut {a : Addr} {i : Nat} {w : HO} (ho : o a = some (.s i)) : Le o H o (upd H a w) :=
  Le.mk' (fun b w q f => ⟨q, by rw [upd_ne (fun z => by subst z; rw [ho] at q; cases q)]; exact f⟩) (fun b q => ⟨q, upd_ne (fun z => by subst z; rw [ho] at q; cases q)⟩) fun b _ q => ⟨q, upd_ne (fun z => by subst z; rw [ho] at q; cases q)⟩
theorem setM_ok (R0 : Rep K c o σ H ρ τ) {i : Nat} {s : Sl} {m : M} {v vk vx : V} {dk dx : D} {G : M → Prop} {Q : Hp → Prop} (e : ρ.sl[i]? = some s) (em : s.m! = some m) (hv : σ[i]? = some (some v)) (d1 : Dat K o H vk dk) (d2 : Dat K o H vx dx) (h : setM m dk dx G)
    (q : ∀ H' m', Rep K c o σ H' (ρ.set i (s.up m')) τ → Le o H o H' → G m' → Q H') : rSetL v vk vx H Q ∨ rSetD v vk vx H Q := by
  obtain ⟨v', hv', z⟩ := (R0.sl i s e).of! em
  rw [hv] at hv'; cases hv'
  unfold setM at h
  split at h
  · rename_i ds j
    split at h
    · rename_i n en
      obtain ⟨a, xs, rfl, ho, hH, dd⟩ := z
      cases d1
      refine .inl ⟨a, xs, j, n, rfl, rfl, hH, by rw [dd.length]; exact en, ?_⟩
      obtain ⟨R1, L1⟩ := R0.mut1 (m := .ls (ds.set n dx)) (u := .lst (xs.set n vx)) e em hv ho trivial ⟨a, _, rfl, ho, upd_same, (dd.set d2 n).mono (le_mut ho)⟩
      exact q _ _ R1 L1 h
    · exact h.elim
  · rename_i kvs
    split at h
    · rename_i ky ek
      obtain ⟨a, ks, rfl, ho, hH, dd⟩ := z
      have ek' := d1.key ek
      subst ek'
      refine .inr ⟨a, _, rfl, DPut.k hH (by rw [dd.length]; exact h.1), ?_⟩
      obtain ⟨R1, L1⟩ := R0.mut1 (m := .dk (putD kvs ky dx)) (u := .dK (putK ks ky vx)) e em hv ho trivial ⟨a, _, rfl, ho, upd_same, Kvs.mono (le_mut ho) (dd.put ky d2)⟩
      exact q _ _ R1 L1 h.2
    · exact h.elim
  · rename_i kvs ks'
    split at h
    · rename_i ky ek
      obtain ⟨a, ks, rfl, ho, hH, dd⟩ := z
      cases d1 with
      | tup t r =>
        have ek' := r.keys ek
        subst ek'
        refine .inr ⟨a, _, rfl, DPut.t hH t.2 (by rw [dd.length]; exact h.1), ?_⟩
        obtain ⟨R1, L1⟩ := R0.mut1 (m := .dt (putD kvs ky dx)) (u := .dT (putK ks ky vx)) e em hv ho trivial ⟨a, _, rfl, ho, upd_same, Kvs.mono (le_mut ho) (dd.put ky d2)⟩
        exact q _ _ R1 L1 h.2
    · exact h.elim
  · exact h.elim
def hasM (ρ : Env) (i : Nat) : Prop := match ρ.sl[i]? with
  | some s => match s.m! with
    | some _ => True
    | none => False
  | none => False
theorem hasM_at {ρ : Env} {i : Nat} (R0 : Rep K c o σ H ρ τ) (h : hasM ρ i) : ∃ y, σ[i]? = some (some y) := by
  unfold hasM at h
  split at h
  · rename_i s e
    split at h
    · rename_i m em
      obtain ⟨v, hv, _⟩ := (R0.sl i s e).of! em
      exact ⟨v, hv⟩
    · exact h.elim
  · exact h.elim
def sSetI (i : Nat) (tk tv : TX) : TSX := fun P ρ => tFrz (lCons tv lNil) (fun ds ρ1 => match ds with
  | [d] => hasM ρ1 i ∧ tk ρ1 fun rk ρ2 => match rk with
    | .im k => match ρ2.sl[i]? with
      | some s => match s.m! with
        | some m => setM m k d fun m' => P.nx (ρ2.set i (s.up m'))
        | none => False
      | none => False
    | _ => False
  | _ => False) ρ
theorem frz1 {f : List D → Env → Prop} {t : TX} {k : VK} (R0 : Rep K c o σ H ρ τ) (h : tFrz (lCons t lNil) f ρ)
    (q : ∀ v H' o' d ρ', Le o H o' H' → Rep K c o' σ H' ρ' τ → Dat K o' H' v d → f [d] ρ' → k v H') : TEo K c t σ H k := by
  refine ⟨o, ρ, τ, _, R0, h, fun v H1 o1 r ρ1 τ1 L1 R1 z1 h1 => ?_⟩
  have h1 : match froz ρ1 [r] with
    | some (ds, ρ2) => f ds ρ2
    | none => False := h1
  split at h1
  · rename_i ds ρ2 e
    have R2 := R1.drop z1.pre
    have els := (RelRs.cons z1 .nil).els (ρ0 := ρ1) (base := τ.length) (Nat.le_refl _) (fun j v m e => (R1.tm j v m e).1)
    obtain ⟨o', L, R3, dd⟩ := froz_ok R2 els e
    cases dd with
    | cons a t => cases t; exact q v H1 o' _ ρ2 (L1.trans ((dropT_le _).trans L)) R3 a h1
  · exact h1.elim
theorem ds_setI (i : Nat) {x : Str} {px ppos : Pos} {tk tv : TX} (hu : X.A.units + 1 < cLine) (hv : DE X c e tv) (hk : DE X c a tk) (hN : X.N[i]? = some x := by rfl) (hvis : Vis X.env.scope x := by first | exact Or.inl rfl | exact Or.inr (Or.inl rfl) | exact Or.inr (Or.inr rfl))
    (hs : swapsWithSole [.Subscript (.Name x px) a ppos] e pos.line X.env = pure false := by rfl) (hw : swappedStores [.Subscript (.Name x px) a ppos] e X.env = pure none := by rfl)
    (h1 : (assignEach [.Subscript (.Name x px) a ppos] X.env).map (·.2) = [assign (.Subscript (.Name x px) a ppos) X.env] := by rfl)
    (hsub : ∀ v, assign (.Subscript (.Name x px) a ppos) X.env v = (do
      let ov ← holding [v] (eval (.Name x px) X.env)
      let iv ← holding [v, ov] (eval a X.env)
      standAt ppos
      holding [v, ov, iv] (setItem ov iv v)
      release [v, ov, iv] []) := by intro _; rfl)
    (hd : (x == ("__debug__" : Str)) = false := by decide) (hcd : (x == ("__classdict__" : Str)) = false := by decide) : DS X c (.Assign [.Subscript (.Name x px) a ppos] e pos) (sSetI i tk tv) :=
  psImp (ps_asg hv (pg_sub (pe_var (i := i) hN hvis hd hcd) hk (PSet.or set_list (set_dict hu)) hsub) hs hw h1) fun D σ H h => by
    obtain ⟨o, ρ, P, R0, h, w⟩ := h
    refine frz1 R0 h fun v H1 o1 d ρ1 L1 R1 d1 h1 => ?_
    obtain ⟨h0, h1⟩ := (show hasM ρ1 i ∧ tk ρ1 fun rk ρ2 => match rk with
      | .im k => match ρ2.sl[i]? with
        | some s => match s.m! with
          | some m => setM m k d fun m' => P.nx (ρ2.set i (s.up m'))
          | none => False
        | none => False
      | _ => False from h1)
    obtain ⟨y, hy⟩ := hasM_at R1 h0
    refine ⟨y, hy, o1, ρ1, [], _, R1, h1, fun v2 H2 o2 r2 ρ2 τ2 L2 R2 z2 h2 => ?_⟩
    split at h2
    · obtain ⟨rfl, z2⟩ := z2
      split at h2
      · rename_i s es
        split at h2
        · rename_i m em
          exact setM_ok (Q := fun H3 => D.nx σ H3) R2 es em hy z2 (d1.mono L2) h2 fun H3 m' R3 L3 hG => w.nx _ _ _ _ (L1.trans (L2.trans L3)) R3 hG
        · exact h2.elim
      · exact h2.elim
    · exact h2.elim
end
end Y
namespace Y
open PySem PySem.Spec L2

section
variable {K : PySem.W.Frag} {c : Cc} {o o' : Own} {σ σ' : St} {H H' : Hp} {ρ ρ' : Env} {τ τ' τ0 τ1 : List (V × M)} {X : Cx} {e a b : Expr} {es : List Expr} {pos : Pos} {t u : TX} {P : EndP} {D' : Ends}
/-! ### targets -/
inductive Bd where
  | one (i : Nat) | many (is : List Nat)
def gNms : List Nat → TGs
  | [] => gNil
  | i :: is => gCons (gName i) (gNms is)
def Bd.tg (K : PySem.W.Frag) : Bd → TG
  | .one i => gName i
  | .many is => gTup K is.length (gNms is)
def Bd.slots : Bd → List Nat
  | .one i => [i]
  | .many is => is
def setAll (ρ : Env) : List Nat → List D → Env
  | i :: is, d :: ds => setAll (ρ.set i (.lo (.im d))) is ds
  | _, _ => ρ
def bnd (b : Bd) (d : D) (ρ : Env) (k : Env → Prop) : Prop := match b with
  | .one i => k (ρ.set i (.lo (.im d)))
  | .many is => match d with
    | .tup ds => ds.length = is.length ∧ k (setAll ρ is ds)
    | _ => False
theorem wipe_at {i : Nat} : ∀ {vs : List Nat}, i ∈ vs → i < σ.length → (wipe σ vs)[i]? = some none
  | v :: vs, h, l => by
    unfold wipe
    by_cases e : v = i
    · subst e; rw [List.getElem?_set_self (by rw [wipe_length]; exact l)]
    · rw [List.getElem?_set_ne e]
      rcases List.mem_cons.mp h with h | h
      · exact absurd h.symm e
      · exact wipe_at h l
theorem wipe_set {i : Nat} {x : Option V} {vs : List Nat} (h : i ∈ vs) : wipe (σ.set i x) vs = wipe σ vs := by
  apply List.ext_getElem?
  intro j
  by_cases hj : j ∈ vs
  · by_cases hl : j < σ.length
    · rw [wipe_at hj hl, wipe_at hj (by rw [List.length_set]; exact hl)]
    · rw [List.getElem?_eq_none (by rw [wipe_length, List.length_set]; omega), List.getElem?_eq_none (by rw [wipe_length]; omega)]
  · rw [wipe_out hj, wipe_out hj, List.getElem?_set_ne (fun e => hj (by rw [← e]; exact h))]
theorem setAll_ok : ∀ {is : List Nat} {ds : List D} {vs : List V} {σ : St} {ρ : Env}, Rep K c o σ H ρ τ → Dats K o H vs ds → ds.length = is.length → {f : Env → Prop} → f (setAll ρ is ds) → {k : St → Hp → Prop} →
    (∀ σ' ρ', Rep K c o σ' H ρ' τ → (∀ ws, (∀ i ∈ is, i ∈ ws) → wipe σ' ws = wipe σ ws) → f ρ' → k σ' H) → gNms is vs σ H k
  | [], [], _, σ, ρ, R0, .nil, _, f, h, k, q => ⟨rfl, q σ ρ R0 (fun _ _ => rfl) h⟩
  | i :: is, d :: ds, _, σ, ρ, R0, .cons (v := v) (vs := vs) a r, hl, f, h, k, q => by
    refine ⟨v, vs, rfl, ?_⟩
    show gNms is vs (σ.set i (some v)) H k
    refine setAll_ok (R0.asg (i := i) (m := .im d) a) r (Nat.succ.inj hl) h fun σ' ρ' R w hf => q σ' ρ' R (fun ws hw => ?_) hf
    rw [w ws (fun j hj => hw j (List.mem_cons_of_mem _ hj)), wipe_set (hw i List.mem_cons_self)]
theorem bnd_ok {bd : Bd} {v : V} {d : D} {f : Env → Prop} {k : St → Hp → Prop} (R0 : Rep K c o σ H ρ τ) (hd : Dat K o H v d) (h : bnd bd d ρ f)
    (q : ∀ σ' ρ', Rep K c o σ' H ρ' τ → (∀ ws, (∀ i ∈ bd.slots, i ∈ ws) → wipe σ' ws = wipe σ ws) → f ρ' → k σ' H) : bd.tg K v σ H k := by
  cases bd with
  | one i => exact q _ _ (R0.asg (m := .im d) hd) (fun ws hw => wipe_set (hw i (by simp [Bd.slots]))) h
  | many is =>
    unfold bnd at h
    simp only at h
    split at h
    · cases hd with
      | tup t r =>
        refine ⟨_, _, rfl, t.sq, by rw [r.length]; exact h.1, ?_⟩
        exact setAll_ok R0 r h.1 h.2 q
    · exact h.elim

/-! ### what is walked -/
inductive Src where
  | fx (ds : List D) | sl (i : Nat) (es ds : List D) | hs (i : Nat) (p : Bool) (v : V) (es ds : List D) | wo (n : Nat) (es ds : List D)
/-- the iterator yields what stands in ds, wherever C holds -/
def Runs (K : PySem.W.Frag) (J : It) (ds : List D) (C : Own → Hp → Prop) : Prop := ∀ o H, C o H → (∀ a l, o a = some l → Mt (H a)) →
  (∀ (i : Nat) d, ds[i]? = some d → J.go i H ∧ ∀ x H', J.yld i H x H' → Grow H H' ∧ Dat K o H' x d) ∧ J.stop ds.length H
def SrcOk (K : PySem.W.Frag) (J : It) (o : Own) (H : Hp) (σ : St) : Src → Prop
  | .fx ds => Runs K J ds fun o' H' => Le o H o' H'
  | .sl i es ds => ∃ v, σ[i]? = some (some v) ∧ Runs K J ds fun o' H' => ∃ l, IsM K o' H' l v (.ls es)
  | .hs i p v es ds => Runs K J ds fun o' H' => ∃ l, IsM K o' H' l v (.ls es)
  | .wo n es ds => ∃ ad, o ad = some (.k (.w n)) ∧ Runs K J ds fun o' H' => ∃ xs, H' ad = some (.lst xs) ∧ Dats K o' H' xs es
/-- the store's list that is walked stands where it stood -/
theorem Rep.woC {o1 : Own} {H1 : Hp} {ad : Addr} {n : Nat} {es : List D} (R : Rep K c o σ H ρ τ) (e1 : o1 ad = some (.k (.w n))) (L : Le o1 H1 o H) (e : ρ.st[n]? = some (.ls es)) : ∃ xs, H ad = some (.lst xs) ∧ Dats K o H xs es := by
  obtain ⟨a, e2, xs, e3, q⟩ := R.st.at_ n _ e
  obtain rfl := R.st.one _ _ _ e2 (L.wk _ _ e1)
  exact ⟨xs, e3, q⟩
abbrev TSrc := Env → (Src → Env → Prop) → Prop
def TIo (K : PySem.W.Frag) (c : Cc) (ti : TSrc) : TI := fun σ H R => ∃ o ρ τ Q, Rep K c o σ H ρ τ ∧ ti ρ Q ∧ ∀ J H' o' ρ' s, Le o H o' H' → Rep K c o' σ H' ρ' τ → SrcOk K J o' H' σ s → Q s ρ' → R J H'
def DI (X : Cx) (c : Cc) (tg iter : Expr) (ti : TSrc) : Prop := PI X tg iter (TIo X.K c ti)
theorem piImp {tg iter : Expr} {wi wi' : TI} (h : PI X tg iter wi) (f : ∀ σ H R, wi' σ H R → wi σ H R) : PI X tg iter wi' := ⟨fun pins s σ H R I q => h.run pins s σ H R I (f _ _ _ q)⟩
theorem PI.or {tg iter : Expr} {wi wi' : TI} (h : PI X tg iter wi) (h' : PI X tg iter wi') : PI X tg iter (fun σ H R => wi σ H R ∨ wi' σ H R) := ⟨fun pins s σ H R I q => by
  rcases q with q | q
  · exact h.run pins s σ H R I q
  · exact h'.run pins s σ H R I q⟩
theorem runs_list {ad : Addr} {ds : List D} {C : Own → Hp → Prop} (h : ∀ o H, C o H → ∃ xs, SqL K H ad xs ∧ Dats K o H xs ds) : Runs K (Itl K ad) ds C := fun o H hc mu => by
  obtain ⟨xs, h1, h2⟩ := h o H hc
  refine ⟨fun i d e => ?_, ⟨xs, h1, by rw [h2.length]; exact Nat.le_refl _⟩⟩
  obtain ⟨v, ev, dv⟩ := h2.get e
  refine ⟨⟨xs, v, h1, ev⟩, fun x H' y => ?_⟩
  obtain ⟨rfl, y⟩ := y
  have := y xs h1
  rw [ev] at this; cases this
  exact ⟨.refl, dv⟩
theorem runs_tup {ad : Addr} {xs : List V} {ds : List D} {C : Own → Hp → Prop} (h : ∀ o H, C o H → SqT K H ad xs ∧ Dats K o H xs ds) : Runs K (Itt K ad) ds C := fun o H hc mu => by
  obtain ⟨h1, h2⟩ := h o H hc
  refine ⟨fun i d e => ?_, ⟨xs, h1, by rw [h2.length]; exact Nat.le_refl _⟩⟩
  obtain ⟨v, ev, dv⟩ := h2.get e
  refine ⟨⟨xs, v, h1, ev⟩, fun x H' y => ?_⟩
  obtain ⟨rfl, y⟩ := y
  have := y xs h1
  rw [ev] at this; cases this
  exact ⟨.refl, dv⟩
/-- for .. in x: x data, a new list, a name's own list (which stays while it is walked), a list that is only read -/
def srcOf (r : R) (ρ : Env) (k : Src → Env → Prop) : Prop := match r with
  | .im (.tup ds) => k (.fx ds) ρ
  | .im (.lst ds) => k (.fx ds) ρ
  | .tm (.ls ds) => k (.fx ds) ρ
  | .sl i => match ρ.sl[i]? with
    | some (.lo (.ls ds)) => k (.sl i ds ds) ρ
    | some (.pa (.ls ds)) => k (.sl i ds ds) ρ
    | some (.lo (.sq ds)) => k (.fx ds) ρ
    | some (.pa (.sq ds)) => k (.fx ds) ρ
    | some (.hd p v (.ls ds)) => k (.hs i p v ds ds) ρ
    | _ => False
  | .im (.str z) => k (.fx (z.cps.toList.map fun n => D.str ⟨#[n]⟩)) ρ
  | .im (.obj n) => match ρ.st[n]? with
    | some (.ls ds) => k (.wo n ds ds) ρ
    | _ => False
  | _ => False
def iAny (K : PySem.W.Frag) (tl : TE) : TI := fun σ H R => tl σ H fun x H1 => (∃ ad xs, x = .ref ad ∧ SqL K H1 ad xs ∧ R (Itl K ad) H1) ∨ (∃ ad xs, x = .ref ad ∧ SqT K H1 ad xs ∧ R (Itt K ad) H1) ∨ ∃ z, x = .str z ∧ R (Its z) H1
theorem pi_any {tg l : Expr} {tl : TE} (hl : PE X l tl) : PI X tg l (iAny X.K tl) := by
  constructor
  intro pins s σ H R I h
  refine thn (hl.run pins s σ H _ I h) ?_
  rintro v s1 ⟨x, H1, I1, r1, q⟩
  rcases q with ⟨ad, xs, rfl, hq, q⟩ | ⟨ad, xs, rfl, hq, q⟩ | ⟨z, rfl, q⟩
  · cases r1
    obtain ⟨its, rv, p, hz⟩ := I1.list hq
    exact wpAny_pyIter_list p.isList (pi_one (tk := s1.toks) I1 _ (turn_list ad _) ⟨_, Heap.get?_push_size _ rfl, rfl, rfl⟩ q)
  · cases r1
    obtain ⟨its, rv, p, hz⟩ := I1.tuple hq
    exact wpAny_pyIter_tuple (show s1.heap.IsTuple ad its.toArray from p) (pi_one (tk := s1.toks) I1 _ (turn_tuple ad _) ⟨_, Heap.get?_push_size _ rfl, rfl, rfl⟩ q)
  · obtain ⟨t, rfl⟩ := r1
    cases ha : z.cps.all (· < 128)
    · exact PySem.wpAny_pyIter_wide ha (pi_one (tk := s1.toks) I1 _ (turn_str _ z t "str_iterator" (.inr rfl)) ⟨_, Heap.get?_push_size _ rfl, rfl, rfl⟩ q)
    · exact PySem.wpAny_pyIter_ascii ha (pi_one (tk := s1.toks) I1 _ (turn_str _ z t "str_ascii_iterator" (.inl rfl)) ⟨_, Heap.get?_push_size _ rfl, rfl, rfl⟩ q)
def iSeq (t : TX) : TSrc := fun ρ k => t ρ fun r ρ1 => srcOf r ρ1 k
theorem runs_str {z : Str} {C : Own → Hp → Prop} : Runs K (Its z) (z.cps.toList.map fun n => D.str ⟨#[n]⟩) C := fun o H _ mu => by
  refine ⟨fun i d e => ?_, by show z.cps.size ≤ _; simp⟩
  rw [List.getElem?_map] at e
  cases q : z.cps.toList[i]? with
  | none => rw [q] at e; cases e
  | some n =>
    rw [q] at e; cases e
    have q2 : z.cps[i]? = some n := by simpa using q
    refine ⟨(Array.getElem?_eq_some_iff.mp q2).1, fun x H' y => ?_⟩
    obtain ⟨rfl, n', e', rfl⟩ := y
    rw [q2] at e'; cases e'
    exact ⟨.refl, .str _⟩
theorem src_ok {v : V} {r : R} {ti : Src → Env → Prop} {R' : It → Hp → Prop} (R1 : Rep K c o σ H ρ τ') (z : RelR K o H σ v r τ τ') (h : srcOf r ρ ti)
    (q : ∀ J o' s, Le o H o' H → Rep K c o' σ H ρ τ → SrcOk K J o' H σ s → ti s ρ → R' J H) :
    (∃ ad xs, v = .ref ad ∧ SqL K H ad xs ∧ R' (Itl K ad) H) ∨ (∃ ad xs, v = .ref ad ∧ SqT K H ad xs ∧ R' (Itt K ad) H) ∨ ∃ z, v = .str z ∧ R' (Its z) H := by
  unfold srcOf at h
  split at h
  · obtain ⟨rfl, z⟩ := z
    cases z with
    | tup t d => exact .inr (.inl ⟨_, _, rfl, t.sq, q _ o (.fx _) .refl R1 (runs_tup fun o' H' L => ⟨(t.mono L).sq, d.mono L⟩) h⟩)
  · obtain ⟨rfl, z⟩ := z
    cases z with
    | lst a b d => exact .inl ⟨_, _, rfl, SqL.of b, q _ o (.fx _) .refl R1 (runs_list fun o' H' L => ⟨_, SqL.of (L.keep _ _ a b).2, d.mono L⟩) h⟩
  · have z : τ' = τ ++ [(v, _)] := z
    subst z
    obtain ⟨a, xs, rfl, ho, hH, d⟩ := (R1.tm τ.length _ _ (by rw [List.getElem?_append_right (Nat.le_refl _), Nat.sub_self]; rfl)).1
    have R2 := R1.drop (List.prefix_append τ _)
    have e : dropT τ.length o a = none := by unfold dropT; rw [ho]; show (if τ.length < τ.length then _ else none) = none; rw [if_neg (Nat.lt_irrefl _)]
    exact .inl ⟨_, _, rfl, SqL.of hH, q _ _ (.fx _) (dropT_le _) R2 (runs_list fun o' H' L => ⟨_, SqL.of (L.keep _ _ e hH).2, (d.mono (dropT_le τ.length)).mono L⟩) h⟩
  · obtain ⟨rfl, z⟩ := z
    split at h
    · rename_i ds e
      obtain ⟨w, e1, a, xs, rfl, ho, hH, d⟩ := R1.sl _ _ e
      rw [z] at e1; cases e1
      refine .inl ⟨_, _, rfl, SqL.of hH, q _ o (.sl _ ds ds) .refl R1 ⟨_, z, runs_list fun o' H' ⟨l, b, ys, e2, h1, h2, h3⟩ => ?_⟩ h⟩
      cases e2; exact ⟨ys, SqL.of h2, h3⟩
    · rename_i ds e
      obtain ⟨w, e1, _, a, xs, rfl, ho, hH, d⟩ := R1.sl _ _ e
      rw [z] at e1; cases e1
      refine .inl ⟨_, _, rfl, SqL.of hH, q _ o (.sl _ ds ds) .refl R1 ⟨_, z, runs_list fun o' H' ⟨l, b, ys, e2, h1, h2, h3⟩ => ?_⟩ h⟩
      cases e2; exact ⟨ys, SqL.of h2, h3⟩
    · rename_i ds e
      obtain ⟨w, e1, a, xs, rfl, hl, d⟩ := R1.sl _ _ e
      rw [z] at e1; cases e1
      exact .inl ⟨_, _, rfl, hl.sq, q _ o (.fx _) .refl R1 (runs_list fun o' H' L => ⟨_, (hl.mono L).sq, d.mono L⟩) h⟩
    · rename_i ds e
      obtain ⟨w, e1, _, a, xs, rfl, hl, d⟩ := R1.sl _ _ e
      rw [z] at e1; cases e1
      exact .inl ⟨_, _, rfl, hl.sq, q _ o (.fx _) .refl R1 (runs_list fun o' H' L => ⟨_, (hl.mono L).sq, d.mono L⟩) h⟩
    · rename_i p v0 ds e
      obtain ⟨e1, _, a, xs, rfl, ho, hH, d⟩ := R1.sl _ _ e
      rw [z] at e1; cases e1
      refine .inl ⟨_, _, rfl, SqL.of hH, q _ o (.hs _ p _ ds ds) .refl R1 (runs_list fun o' H' ⟨l, b, ys, e2, h1, h2, h3⟩ => ?_) h⟩
      cases e2; exact ⟨ys, SqL.of h2, h3⟩
    · exact h.elim
  · obtain ⟨rfl, z⟩ := z
    cases z
    exact .inr (.inr ⟨_, rfl, q _ o (.fx _) .refl R1 runs_str h⟩)
  · obtain ⟨rfl, z⟩ := z
    split at h
    · rename_i ds e
      obtain ⟨a, rfl, e1, xs, e2, e3⟩ := R1.st.obj e z
      exact .inl ⟨_, _, rfl, SqL.of e2, q _ o (.wo _ ds ds) .refl R1 ⟨a, e1, runs_list fun o' H' ⟨ys, h1, h2⟩ => ⟨ys, SqL.of h1, h2⟩⟩ h⟩
    · exact h.elim
  · exact h.elim
theorem di_seq {tg : Expr} (h : DE X c e t) : DI X c tg e (iSeq t) := piImp (pi_any h) fun σ H R hh => by
  obtain ⟨o, ρ, τ, Q, R0, hh, q⟩ := hh
  exact ⟨o, ρ, τ, _, R0, hh, fun v1 H1 o1 r1 ρ1 τ1 L1 R1 z1 h1 => src_ok R1 z1 h1 fun J o' s L R' ok hs => q J H1 o' ρ1 s (L1.trans L) R' ok hs⟩

/-! ### range -/
def gRng (lo : Int) (n : Nat) : List D := (List.range n).map fun (i : Nat) => D.int (lo + (i : Int))
theorem runs_rng {lo : Int} {n : Nat} {C : Own → Hp → Prop} : Runs K (Itr lo n) (gRng lo n) C := fun o H _ mu => by
  refine ⟨fun i d e => ?_, by show n ≤ _; simp [gRng]⟩
  unfold gRng at e
  rw [List.getElem?_map] at e
  by_cases hi : i < n
  · rw [List.getElem?_range hi] at e
    cases e
    refine ⟨hi, fun x H' y => ?_⟩
    obtain ⟨rfl, rfl⟩ := y
    exact ⟨.refl, .int _⟩
  · rw [List.getElem?_eq_none (by simpa using hi)] at e; cases e
def iRg1 (ta : TL) : TSrc := fun ρ k => ta ρ fun rs ρ1 => match rs with
  | [.im (.int j)] => j < 2 ^ 62 ∧ -(2 ^ 62) ≤ j ∧ k (.fx (gRng 0 j.toNat)) ρ1
  | _ => False
def iRg2 (ta : TL) : TSrc := fun ρ k => ta ρ fun rs ρ1 => match rs with
  | [.im (.int i), .im (.int j)] => (-(2 ^ 62) ≤ i ∧ i < 2 ^ 62 ∧ -(2 ^ 62) ≤ j ∧ j < 2 ^ 62) ∧ k (.fx (gRng i (j - i).toNat)) ρ1
  | _ => False
section
variable {tg : Expr} {p : Pos} {tl : TL}
theorem di_rng1 (hg : Gl X "range") (hm : X.mg "range" = none) (ha : DA X c [a] tl) (hs : starEach [a] X.env = [(false, eval a X.env)] := by rfl) : DI X c tg (.Call (.Name "range" p) [a] [] pos) (iRg1 tl) :=
  piImp (pi_range1 hg hm ha hs) fun σ H R hh => by
    obtain ⟨o, ρ, τ, Q, R0, hh, q⟩ := hh
    refine ⟨o, ρ, τ, _, R0, hh, fun vs H1 o1 rs ρ1 τ1 L1 R1 z1 h1 => ?_⟩
    split at h1
    · cases z1 with
      | cons z t =>
        cases t
        obtain ⟨rfl, z⟩ := z
        cases z
        exact ⟨_, rfl, h1.2.1, h1.1, q _ H1 o1 ρ1 (.fx _) L1 R1 runs_rng h1.2.2⟩
    · exact h1.elim
theorem di_rng2 (hg : Gl X "range") (hm : X.mg "range" = none) (ha : DA X c [a, b] tl) (hs : starEach [a, b] X.env = [(false, eval a X.env), (false, eval b X.env)] := by rfl) (hs2 : starEach [b] X.env = [(false, eval b X.env)] := by rfl) :
    DI X c tg (.Call (.Name "range" p) [a, b] [] pos) (iRg2 tl) :=
  piImp (pi_range2 hg hm ha hs hs2) fun σ H R hh => by
    obtain ⟨o, ρ, τ, Q, R0, hh, q⟩ := hh
    refine ⟨o, ρ, τ, _, R0, hh, fun vs H1 o1 rs ρ1 τ1 L1 R1 z1 h1 => ?_⟩
    split at h1
    · cases z1 with
      | cons z t =>
        cases t with
        | cons z2 t2 =>
          cases t2
          obtain ⟨rfl, z⟩ := z
          obtain ⟨rfl, z2⟩ := z2
          cases z
          cases z2
          exact ⟨_, _, rfl, h1.1, q _ H1 o1 ρ1 (.fx _) L1 R1 runs_rng h1.2⟩
    · exact h1.elim
end
end
end Y
namespace Y
open PySem PySem.Spec L2

section
variable {K : PySem.W.Frag} {c : Cc} {o o' : Own} {σ σ' : St} {H H' : Hp} {ρ ρ' : Env} {τ τ' τ0 τ1 : List (V × M)} {X : Cx} {e a b : Expr} {es : List Expr} {pos : Pos} {t u : TX} {P : EndP} {D' : Ends}
/-! ### for -/
/-- the turns over ds; gd: what holds between two turns -/
def loopS (b : Bd) (t : TSX) (gd : Env → Prop) (P : EndP) : List D → Env → Prop
  | [], ρ => gd ρ ∧ P.nx ρ
  | d :: ds, ρ => gd ρ ∧ bnd b d ρ fun ρ1 => t { P with nx := loopS b t gd P ds, ct := loopS b t gd P ds, bk := P.nx } ρ1
theorem loop_ok {J : It} {ds : List D} {bd : Bd} {t : TSX} {gd : Env → Prop} {C : Own → Hp → Prop} {o1 : Own} {H1 : Hp} (hr : Runs K J ds C) (hc : ∀ o' σ' H' ρ', Le o1 H1 o' H' → Rep K c o' σ' H' ρ' [] → gd ρ' → C o' H')
    (R0 : Rep K c o1 σ H1 ρ []) (w : Ways K c o1 H1 P D') (h : loopS bd t gd P ds ρ) :
    ∃ W : Nat → Nat → St → Hp → Prop, (∃ m, W 0 m σ H1) ∧ ∀ i m σ H, W i m σ H →
      (J.stop i H ∧ D'.nx σ H) ∨ (J.go i H ∧ ∃ N : St → Hp → Prop, (∀ σ' H', N σ' H' → ∃ m', m' < m ∧ W (i + 1) m' σ' H') ∧ ∀ x H', J.yld i H x H' → bd.tg K x σ H' fun σ2 H2 => TSo K c t { D' with nx := N, ct := N, bk := D'.nx } σ2 H2) := by
  refine ⟨fun i m σ H => m = ds.length - i ∧ i ≤ ds.length ∧ ∃ o ρ, Le o1 H1 o H ∧ Rep K c o σ H ρ [] ∧ loopS bd t gd P (ds.drop i) ρ, ⟨ds.length, by simp, Nat.zero_le _, o1, ρ, .refl, R0, by simpa using h⟩, ?_⟩
  rintro i m σ H ⟨rfl, hi, o, ρ, L, R, h⟩
  by_cases hlt : i < ds.length
  · have e : ds.drop i = ds[i] :: ds.drop (i + 1) := List.drop_eq_getElem_cons hlt
    rw [e] at h
    obtain ⟨hg, h⟩ := h
    obtain ⟨go, yl⟩ := (hr o H (hc o σ H ρ L R hg) R.mu).1 i ds[i] (by simp [hlt])
    refine .inr ⟨go, fun σ' H' => ∃ o' ρ', Le o1 H1 o' H' ∧ Rep K c o' σ' H' ρ' [] ∧ loopS bd t gd P (ds.drop (i + 1)) ρ', fun σ' H' ⟨o', ρ', L', R', h'⟩ => ⟨ds.length - (i + 1), by omega, rfl, hlt, o', ρ', L', R', h'⟩, fun x H' y => ?_⟩
    obtain ⟨g, dx⟩ := yl x H' y
    refine bnd_ok (R.grow g) dx h fun σ' ρ' R' _ hf => ?_
    have L2 : Le o1 H1 o H' := L.trans (g.le R.mu)
    refine ⟨o, ρ', _, R', hf, ⟨fun σ2 H2 o2 ρ2 L3 R3 q => ⟨o2, ρ2, L2.trans L3, R3, q⟩, w.rt.le L2, ?_, fun σ2 H2 o2 ρ2 L3 R3 q => ⟨o2, ρ2, L2.trans L3, R3, q⟩⟩⟩
    exact w.nx.le L2
  · have e : i = ds.length := by omega
    subst e
    rw [List.drop_length] at h
    exact .inl ⟨(hr o H (hc o σ H ρ L R h.1) R.mu).2, w.nx σ H o ρ L R h.2⟩
def Sl.isP : Sl → Bool
  | .pa _ => true
  | _ => false
/-- the slot's object is walked: it is read, not changed -/
theorem Rep.hide (R0 : Rep K c o σ H ρ τ) {i : Nat} {s : Sl} {m : M} (e : ρ.sl[i]? = some s) (em : s.m! = some m) : ∃ v, σ[i]? = some (some v) ∧ Rep K c (relL (.s i) (.h i) o) σ H (ρ.set i (.hd s.isP v m)) τ := by
  have L : Le o H (relL (.s i) (.h i) o) H := relL_le (by intro z; cases z)
  have k := R0.sl i s e
  have R1 := R0.move i (.h i)
  have go : ∀ (p : Bool) (v : V), σ[i]? = some (some v) → (p = true → c.pv[i]? = some v) → IsM K o H (.s i) v m → Rep K c (relL (.s i) (.h i) o) σ H (ρ.set i (.hd p v m)) τ := fun p v hv hp q => by
    refine ⟨fun j s' z => ?_, R1.tm, R1.mu, R1.le, by rw [List.length_set]; exact R0.ln, R1.st⟩
    by_cases hj : i = j
    · subst hj
      rw [List.getElem?_set_self (List.getElem?_eq_some_iff.mp e).1] at z; cases z
      exact ⟨hv, hp, q.mono L fun a y => ⟨relL_same y, rfl⟩⟩
    · rw [List.getElem?_set_ne hj] at z
      exact R1.sl j s' (by rw [List.getElem?_set_ne hj]; exact z)
  cases s with
  | no => cases em
  | lo z => cases em; obtain ⟨v, hv, q⟩ := k; exact ⟨v, hv, go false v hv (fun z => by cases z) q⟩
  | pa z => cases em; obtain ⟨v, hv, hp, q⟩ := k; exact ⟨v, hv, go true v hv (fun _ => hp) q⟩
  | hd p v z => cases em
/-- .. no more -/
theorem Rep.unhide (R0 : Rep K c o σ H ρ τ) {i : Nat} {p : Bool} {v : V} {m : M} (e : ρ.sl[i]? = some (.hd p v m)) : Rep K c (relL (.h i) (.s i) o) σ H (ρ.set i (if p then .pa m else .lo m)) τ ∧ Le o H (relL (.h i) (.s i) o) H := by
  have L : Le o H (relL (.h i) (.s i) o) H := relL_le (by intro z; cases z)
  obtain ⟨hv, hp, q⟩ := R0.sl i _ e
  refine ⟨⟨fun j s' z => ?_, fun j w m' z => ⟨(R0.tm j w m' z).1.mono L fun a q => ⟨relL_other (by intro z; cases z) q, rfl⟩, (R0.tm j w m' z).2⟩, relL_mu R0.mu, R0.le.trans L, by rw [List.length_set]; exact R0.ln, R0.st.mono L relL_ks⟩, L⟩
  by_cases hj : i = j
  · subst hj
    rw [List.getElem?_set_self (List.getElem?_eq_some_iff.mp e).1] at z; cases z
    have q' : IsM K (relL (.h i) (.s i) o) H (.s i) v m := q.mono L fun a y => ⟨relL_same y, rfl⟩
    cases p with
    | true => exact ⟨v, hv, hp rfl, q'⟩
    | false => exact ⟨v, hv, q'⟩
  · rw [List.getElem?_set_ne hj] at z
    exact (R0.sl j s' z).mono L (fun a q => ⟨relL_other (by intro z; cases z) q, rfl⟩) fun a q => ⟨relL_other (by intro z; injection z with z; exact hj z.symm) q, rfl⟩
def backS (i : Nat) (s : Sl) (v : V) (m : M) (f : Env → Prop) : Env → Prop := fun ρ => ρ.sl[i]? = some (.hd s.isP v m) ∧ f (ρ.set i s)
def sFor (ti : TSrc) (b : Bd) (t : TSX) : TSX := fun P ρ => ti ρ fun src ρ1 => match src with
  | .fx ds => loopS b t (fun _ => True) P ds ρ1
  | .sl i es ds => match ρ1.sl[i]? with
    | some s => match s.m! with
      | some m => m = .ls es ∧ ∀ v, loopS b t (fun ρ => ρ.sl[i]? = some (.hd s.isP v m)) { P with nx := backS i s v m P.nx } ds (ρ1.set i (.hd s.isP v m))
      | none => False
    | none => False
  | .hs i p v es ds => loopS b t (fun ρ => ρ.sl[i]? = some (.hd p v (.ls es))) P ds ρ1
  | .wo n es ds => loopS b t (fun ρ => ρ.st[n]? = some (.ls es)) P ds ρ1
theorem ds_for {tg iter : Expr} {body : List Stmt} {ti : TSrc} {bd : Bd} {t : TSX} (hp : PassesOwn (model X.prog X.w) X.A X.env X.xe) (hc : X.calm = true) (hi : DI X c tg iter ti) (hg : PG X tg (bd.tg X.K)) (hb : DSs X c body t)
    (hs : ∀ x, foldedSetIterable iter X.env x = pure x := by intro _; rfl) : DS X c (.For tg iter body [] pos) (sFor ti bd t) :=
  psImp (ps_for hp hc hi hg hb hs) fun D σ H h => by
    obtain ⟨o, ρ, P, R0, h, w⟩ := h
    refine ⟨o, ρ, [], _, R0, h, fun J H1 o1 ρ1 src L1 R1 ok h1 => ?_⟩
    cases src with
    | fx ds =>
      exact loop_ok (C := fun o' H' => Le o1 H1 o' H') ok (fun o' σ' H' ρ' L R _ => L) R1 (w.le L1) h1
    | sl i es ds =>
      obtain ⟨v0, hv0, ok⟩ := ok
      have h1 : (match ρ1.sl[i]? with
        | some s => match s.m! with
          | some m => m = .ls es ∧ ∀ v, loopS bd t (fun ρ => ρ.sl[i]? = some (.hd s.isP v m)) { P with nx := backS i s v m P.nx } ds (ρ1.set i (.hd s.isP v m))
          | none => False
        | none => False) := h1
      split at h1
      · rename_i s e
        split at h1
        · rename_i m em
          obtain ⟨rfl, h1⟩ := h1
          obtain ⟨v, hv, R2⟩ := R1.hide e em
          rw [hv0] at hv; cases hv
          have L2 : Le o1 H1 (relL (.s i) (.h i) o1) H1 := relL_le (by intro z; cases z)
          refine loop_ok (P := { P with nx := backS i s v0 (.ls es) P.nx }) (C := fun o' H' => ∃ l, IsM X.K o' H' l v0 (.ls es)) ok (fun o' σ' H' ρ' L R g => ?_) R2 ⟨fun σ' H' o' ρ' L R q => ?_, (w.le (L1.trans L2)).rt, (w.le (L1.trans L2)).bk, (w.le (L1.trans L2)).ct⟩ (h1 v0)
          · obtain ⟨_, _, q⟩ := R.sl i _ g
            exact ⟨_, q⟩
          · obtain ⟨q1, q2⟩ := q
            obtain ⟨R3, L3⟩ := R.unhide q1
            refine w.nx σ' H' _ _ (L1.trans (L2.trans (L.trans L3))) R3 ?_
            cases s with
            | pa z => cases em; exact q2
            | lo z => cases em; exact q2
            | no => cases em
            | hd _ _ _ => cases em
        · exact h1.elim
      · exact h1.elim
    | hs i p v es ds =>
      refine loop_ok (C := fun o' H' => ∃ l, IsM X.K o' H' l v (.ls es)) ok (fun o' σ' H' ρ' L R g => ?_) R1 (w.le L1) h1
      obtain ⟨_, _, q⟩ := R.sl i _ g
      exact ⟨_, q⟩
    | wo n es ds =>
      obtain ⟨ad, e1, ok⟩ := ok
      exact loop_ok ok (fun o' σ' H' ρ' L R g => R.woC e1 L g) R1 (w.le L1) h1

/-! ### while -/
def whileS (q : TQ) (t : TSX) (P : EndP) : Nat → Env → Prop
  | 0, _ => False
  | n + 1, ρ => q ρ fun b ρ1 => if b = true then t { P with nx := whileS q t P n, ct := whileS q t P n, bk := P.nx } ρ1 else P.nx ρ1
def sWhile (q : TQ) (t : TSX) : TSX := fun P ρ => ∃ n, whileS q t P n ρ
theorem ds_while {cond : Expr} {body : List Stmt} {q : TQ} {t : TSX} (hp : PassesOwn (model X.prog X.w) X.A X.env X.xe) (hc : DT X c cond q) (hb : DSs X c body t) : DS X c (.While cond body [] pos) (sWhile q t) :=
  psImp (ps_while hp hc hb) fun D σ H h => by
    obtain ⟨o, ρ, P, R0, ⟨n, h⟩, w⟩ := h
    refine ⟨fun m σ' H' => ∃ o' ρ', Le o H o' H' ∧ Rep X.K c o' σ' H' ρ' [] ∧ whileS q t P m ρ', ⟨n, o, ρ, .refl, R0, h⟩, fun m σ' H' ⟨o', ρ', L, R, h⟩ => ?_⟩
    cases m with
    | zero => exact h.elim
    | succ m =>
      refine ⟨o', ρ', [], _, R, h, fun b H2 o2 ρ2 L2 R2 h2 => ?_⟩
      cases b with
      | false => exact w.nx σ' H2 o2 ρ2 (L.trans L2) R2 h2
      | true =>
        refine ⟨fun σ3 H3 => ∃ o3 ρ3, Le o H o3 H3 ∧ Rep X.K c o3 σ3 H3 ρ3 [] ∧ whileS q t P m ρ3, fun σ3 H3 h3 => ⟨m, Nat.lt_succ_self _, h3⟩, ?_⟩
        have L3 := L.trans L2
        exact ⟨o2, ρ2, _, R2, h2, ⟨fun σ3 H3 o3 ρ3 L4 R4 q => ⟨o3, ρ3, L3.trans L4, R4, q⟩, w.rt.le L3, w.nx.le L3, fun σ3 H3 o3 ρ3 L4 R4 q => ⟨o3, ρ3, L3.trans L4, R4, q⟩⟩⟩

/-! ### a, b = e -/
def sUnp (b : Bd) (t : TX) : TSX := fun P ρ => t ρ fun r ρ1 => match r with
  | .im d => bnd b d ρ1 P.nx
  | _ => False
theorem ds_unp {tg : Expr} {bd : Bd} (h : DE X c e t) (hg : PG X tg (bd.tg X.K)) (hs : swapsWithSole [tg] e pos.line X.env = pure false := by rfl) (hw : swappedStores [tg] e X.env = pure none := by rfl)
    (h1 : (assignEach [tg] X.env).map (·.2) = [assign tg X.env] := by rfl) : DS X c (.Assign [tg] e pos) (sUnp bd t) :=
  psImp (ps_asg h hg hs hw h1) fun D σ H h => by
    obtain ⟨o, ρ, P, R0, h, w⟩ := h
    refine ⟨o, ρ, [], _, R0, h, fun v H1 o1 r1 ρ1 τ1 L1 R1 z1 h1 => ?_⟩
    split at h1
    · obtain ⟨rfl, z⟩ := z1
      exact bnd_ok R1 z h1 fun σ' ρ' R _ hf => w.nx σ' H1 o1 ρ' L1 R hf
    · exact h1.elim
end
end Y
namespace Y
open PySem PySem.Spec L2

section
variable {K : PySem.W.Frag} {c : Cc} {o o' : Own} {σ σ' : St} {H H' : Hp} {ρ ρ' : Env} {τ τ' τ0 τ1 : List (V × M)} {X : Cx} {e a b : Expr} {es : List Expr} {pos : Pos} {t u : TX} {P : EndP} {D' : Ends}
/-! ### comprehensions -/
def wipeE (ρ : Env) : List Nat → Env
  | [] => ρ
  | v :: vs => (wipeE ρ vs).set v .no
def keepS : Option Sl → Sl
  | some (.lo (.im d)) => .lo (.im d)
  | some (.pa (.im d)) => .pa (.im d)
  | _ => .no
def restE (ρ0 ρ : Env) : List Nat → Env
  | [] => ρ
  | v :: vs => (restE ρ0 ρ vs).set v (keepS ρ0.sl[v]?)
theorem wipe_idem {vs : List Nat} : wipe (wipe σ vs) vs = wipe σ vs := by
  apply List.ext_getElem?
  intro j
  by_cases hj : j ∈ vs
  · by_cases hl : j < σ.length
    · rw [wipe_at hj hl, wipe_at hj (by rw [wipe_length]; exact hl)]
    · rw [List.getElem?_eq_none (by rw [wipe_length, wipe_length]; omega), List.getElem?_eq_none (by rw [wipe_length]; omega)]
  · rw [wipe_out hj]
theorem wipeE_length : ∀ vs : List Nat, (wipeE ρ vs).sl.length = ρ.sl.length
  | [] => rfl
  | v :: vs => by unfold wipeE; rw [List.length_set, wipeE_length vs]
theorem wipeE_st : ∀ vs : List Nat, (wipeE ρ vs).st = ρ.st
  | [] => rfl
  | v :: vs => wipeE_st vs
theorem wipeE_at {i : Nat} {s : Sl} : ∀ {vs : List Nat}, (wipeE ρ vs).sl[i]? = some s → s = .no ∨ (i ∉ vs ∧ ρ.sl[i]? = some s)
  | [], h => .inr ⟨by simp, h⟩
  | v :: vs, h => by
    unfold wipeE at h
    by_cases hi : v = i
    · subst hi
      by_cases hv : v < (wipeE ρ vs).sl.length
      · rw [List.getElem?_set_self hv] at h; cases h; exact .inl rfl
      · rw [List.getElem?_eq_none (by simpa using hv)] at h; cases h
    · rw [List.getElem?_set_ne hi] at h
      rcases wipeE_at h with q | ⟨q1, q2⟩
      · exact .inl q
      · exact .inr ⟨by simp only [List.mem_cons, not_or]; exact ⟨fun z => hi z.symm, q1⟩, q2⟩
theorem SlOk.st {i : Nat} (h : σ'[i]? = σ[i]?) : ∀ {s : Sl}, SlOk K c o σ H i s → SlOk K c o σ' H i s
  | .no, _ => trivial
  | .lo _, ⟨v, e, q⟩ => ⟨v, h.trans e, q⟩
  | .pa _, ⟨v, e, f, q⟩ => ⟨v, h.trans e, f, q⟩
  | .hd _ _ _, ⟨e, f, q⟩ => ⟨h.trans e, f, q⟩
theorem Rep.wipe (R0 : Rep K c o σ H ρ τ) (vs : List Nat) : Rep K c o (L2.wipe σ vs) H (wipeE ρ vs) τ :=
  ⟨fun i s e => by
    rcases wipeE_at e with rfl | ⟨hi, e⟩
    · exact trivial
    · exact (R0.sl i s e).st (wipe_out hi), R0.tm, R0.mu, R0.le, by rw [wipeE_length, wipe_length]; exact R0.ln, by rw [wipeE_st]; exact R0.st⟩
theorem SlOk.unwipe {vs : List Nat} {i : Nat} : ∀ {s : Sl}, SlOk K c o (L2.wipe σ vs) H i s → SlOk K c o σ H i s
  | .no, _ => trivial
  | .lo _, ⟨v, e, q⟩ => ⟨v, (wipe_some e).1, q⟩
  | .pa _, ⟨v, e, f, q⟩ => ⟨v, (wipe_some e).1, f, q⟩
  | .hd _ _ _, ⟨e, f, q⟩ => ⟨(wipe_some e).1, f, q⟩
theorem Rep.setS (R0 : Rep K c o σ H ρ τ) {i : Nat} {s : Sl} (h : SlOk K c o σ H i s) : Rep K c o σ H (ρ.set i s) τ := by
  refine ⟨fun j s' z => ?_, R0.tm, R0.mu, R0.le, by rw [List.length_set]; exact R0.ln, R0.st⟩
  by_cases hj : i = j
  · subst hj
    by_cases hl : i < ρ.sl.length
    · rw [List.getElem?_set_self hl] at z; cases z; exact h
    · rw [List.getElem?_eq_none (by simpa using hl)] at z; cases z
  · rw [List.getElem?_set_ne hj] at z
    exact R0.sl j s' z
theorem keepS_ok {ρ0 : Env} {o0 : Own} {H0 : Hp} {τ2 : List (V × M)} (R0 : Rep K c o0 σ H0 ρ0 τ2) (L : Le o0 H0 o H) (v : Nat) : SlOk K c o σ H v (keepS ρ0.sl[v]?) := by
  unfold keepS
  split
  · rename_i d e
    obtain ⟨w, e1, q⟩ := R0.sl v _ e
    exact ⟨w, e1, Dat.mono L q⟩
  · rename_i d e
    obtain ⟨w, e1, e2, q⟩ := R0.sl v _ e
    exact ⟨w, e1, e2, Dat.mono L q⟩
  · exact trivial
theorem Rep.rest {ρ0 : Env} {o0 : Own} {H0 : Hp} {τ2 : List (V × M)} (R0 : Rep K c o0 σ H0 ρ0 τ2) (L : Le o0 H0 o H) {vs : List Nat} (R : Rep K c o (L2.wipe σ vs) H ρ τ) : Rep K c o σ H (restE ρ0 ρ vs) τ := by
  have R1 : Rep K c o σ H ρ τ := ⟨fun i s e => (R.sl i s e).unwipe, R.tm, R.mu, R.le, by rw [R.ln, wipe_length], R.st⟩
  clear R
  have all : ∀ ws : List Nat, Rep K c o σ H (restE ρ0 ρ ws) τ := by
    intro ws
    induction ws with
    | nil => exact R1
    | cons v ws ih => exact ih.setS (keepS_ok R0 L v)
  exact all vs
theorem rest_out {ρ0 : Env} {i : Nat} : ∀ {vs : List Nat}, i ∉ vs → (restE ρ0 ρ vs).sl[i]? = ρ.sl[i]?
  | [], _ => rfl
  | v :: vs, h => by
    unfold restE
    rw [List.getElem?_set_ne (fun z => h (by rw [z]; exact List.mem_cons_self)), rest_out fun z => h (List.mem_cons_of_mem _ z)]
/-- the last temporary is changed -/
theorem Rep.setT {a : Addr} {m m' : M} {u : HO} (R0 : Rep K c o σ H ρ (τ ++ [(.ref a, m)])) (ho : o a = some (.t τ.length)) (hu : Mt (some u)) (hm : m'.own = true) (h : IsM K o (upd H a u) (.t τ.length) (.ref a) m') :
    Rep K c o σ (upd H a u) ρ (τ ++ [(.ref a, m')]) ∧ Le o H o (upd H a u) := by
  have ne : ∀ b l, o b = some l → l ≠ .t τ.length → b ≠ a := fun b l q z w => by subst w; rw [ho] at q; cases q; exact z rfl
  have L : Le o H o (upd H a u) := Le.mk' (fun b w q f => ⟨q, by rw [upd_ne (fun z => by subst z; rw [ho] at q; cases q)]; exact f⟩) (fun b q => ⟨q, upd_ne (ne b _ q (by intro z; cases z))⟩) fun b _ q => ⟨q, upd_ne (ne b _ q (by intro z; cases z))⟩
  have kp : ∀ l, l ≠ .t τ.length → ∀ b, o b = some l → o b = some l ∧ upd H a u b = H b := fun l z b q => ⟨q, upd_ne (ne b l q z)⟩
  refine ⟨⟨fun j s' q => (R0.sl j s' q).mono L (kp _ (by intro z; cases z)) (kp _ (by intro z; cases z)), fun j v m2 q => ?_, fun b l q => ?_, R0.le.trans L, R0.ln, R0.st.mono L (Ks.upd fun q z => by rw [ho] at z; cases z)⟩, L⟩
  · by_cases hj : j < τ.length
    · rw [List.getElem?_append_left hj] at q
      have k := R0.tm j v m2 (by rw [List.getElem?_append_left hj]; exact q)
      exact ⟨k.1.mono L (kp _ (by intro z; injection z with z; omega)), k.2⟩
    · rw [List.getElem?_append_right (by omega)] at q
      have e0 : j - τ.length = 0 := by
        cases e : j - τ.length with
        | zero => rfl
        | succ n => rw [e] at q; simp at q
      rw [e0] at q
      have e2 : j = τ.length := by omega
      subst e2
      simp at q
      obtain ⟨rfl, rfl⟩ := q
      exact ⟨h, hm⟩
  · by_cases z : b = a
    · subst z; rw [upd_same]; exact hu
    · rw [upd_ne z]; exact R0.mu b l q
def compL (b : Bd) (tq : TQ) (te : TX) (vs : List Nat) (gd : Env → Prop) (k : List D → Env → Prop) : List D → List D → Env → Prop
  | [], acc, ρ => gd ρ ∧ k acc ρ
  | d :: ds, acc, ρ => gd ρ ∧ bnd b d ρ fun ρ1 => tq ρ1 fun ok ρ2 =>
    if ok = true then tFrz (lCons te lNil) (fun xs ρ3 => match xs with
      | [x] => acc.length < sizeLine ∧ compL b tq te vs gd k ds (acc ++ [x]) (wipeE ρ3 vs)
      | _ => False) ρ2
    else compL b tq te vs gd k ds acc (wipeE ρ2 vs)
theorem comp_ok {J : It} {ds : List D} {bd : Bd} {tq : TQ} {te : TX} {vs : List Nat} {gd : Env → Prop} {k : List D → Env → Prop} {C : Own → Hp → Prop} {o1 : Own} {H1 : Hp} {Qd : Hp → Prop} {L : Addr} {acc0 : List D} (hr : Runs K J ds C) (hvs : ∀ i ∈ bd.slots, i ∈ vs)
    (hc : ∀ o' H' ρ' τ', Le o1 H1 o' H' → Rep K c o' (L2.wipe σ vs) H' ρ' τ' → gd ρ' → C o' H') (R0 : Rep K c o1 (L2.wipe σ vs) H1 ρ (τ ++ [(.ref L, .ls acc0)]))
    (h : compL bd tq te vs gd k ds acc0 ρ)
    (q : ∀ o' H' ρ' acc, Le o1 H1 o' H' → Rep K c o' (L2.wipe σ vs) H' ρ' (τ ++ [(.ref L, .ls acc)]) → gd ρ' → k acc ρ' → Qd H') :
    ∃ W : Nat → Nat → Hp → Prop, (∃ m, W 0 m H1) ∧ ∀ i m H, W i m H →
      (J.stop i H ∧ Qd H) ∨ (J.go i H ∧ ∃ Nx : Hp → Prop, (∀ H', Nx H' → ∃ m', m' < m ∧ W (i + 1) m' H') ∧ ∀ x H', J.yld i H x H' → bd.tg K x (L2.wipe σ vs) H' fun σ2 H2 => L2.wipe σ2 vs = L2.wipe σ vs ∧
        TTo K c tq σ2 H2 fun b H3 => if b = true then TEo K c te σ2 H3 fun y H4 => ∃ acc, H4 L = some (.lst acc) ∧ acc.length < sizeLine ∧ Nx (upd H4 L (.lst (acc ++ [y]))) else Nx H3) := by
  refine ⟨fun i m H => m = ds.length - i ∧ i ≤ ds.length ∧ ∃ o ρ acc, Le o1 H1 o H ∧ Rep K c o (L2.wipe σ vs) H ρ (τ ++ [(.ref L, .ls acc)]) ∧ compL bd tq te vs gd k (ds.drop i) acc ρ,
    ⟨ds.length, by simp, Nat.zero_le _, o1, ρ, acc0, .refl, R0, by simpa using h⟩, ?_⟩
  rintro i m H ⟨rfl, hi, o, ρ, acc, Lo, R, h⟩
  by_cases hlt : i < ds.length
  · have e : ds.drop i = ds[i] :: ds.drop (i + 1) := List.drop_eq_getElem_cons hlt
    rw [e] at h
    obtain ⟨hg, h⟩ := h
    obtain ⟨go, yl⟩ := (hr o H (hc o H ρ _ Lo R hg) R.mu).1 i ds[i] (by simp [hlt])
    refine .inr ⟨go, fun H' => ∃ o' ρ' acc', Le o1 H1 o' H' ∧ Rep K c o' (L2.wipe σ vs) H' ρ' (τ ++ [(.ref L, .ls acc')]) ∧ compL bd tq te vs gd k (ds.drop (i + 1)) acc' ρ',
      fun H' ⟨o', ρ', acc', L', R', h'⟩ => ⟨ds.length - (i + 1), by omega, rfl, hlt, o', ρ', acc', L', R', h'⟩, fun x H' y => ?_⟩
    obtain ⟨g, dx⟩ := yl x H' y
    refine bnd_ok (R.grow g) dx h fun σ' ρ' R' hw hf => ?_
    have hw' : L2.wipe σ' vs = L2.wipe σ vs := by rw [hw vs hvs, wipe_idem]
    have L2' : Le o1 H1 o H' := Lo.trans (g.le R.mu)
    refine ⟨hw', o, ρ', _, _, R', hf, fun b H3 o3 ρ3 L3 R3 h3 => ?_⟩
    cases b with
    | false =>
      have R4 := R3.wipe vs
      rw [hw'] at R4
      exact ⟨o3, _, acc, L2'.trans L3, R4, h3⟩
    | true =>
      rw [if_pos rfl]
      refine frz1 R3 h3 fun y H4 o4 d ρ4 L4 R4 dy h4 => ?_
      obtain ⟨h5, h4⟩ := (show acc.length < sizeLine ∧ compL bd tq te vs gd k (ds.drop (i + 1)) (acc ++ [d]) (wipeE ρ4 vs) from h4)
      obtain ⟨⟨ad, xs, e1, e2, e3, e4⟩, _⟩ := R4.tm τ.length (.ref L) (.ls acc) (by simp)
      cases e1
      have Lm : Le o4 H4 o4 (upd H4 L (.lst (xs ++ [y]))) :=
        .mk' (fun b w qq f => ⟨qq, by rw [upd_ne (fun z => by subst z; rw [e2] at qq; cases qq)]; exact f⟩) (fun b qq => ⟨qq, upd_ne (fun z => by subst z; rw [e2] at qq; cases qq)⟩) fun b _ qq => ⟨qq, upd_ne (fun z => by subst z; rw [e2] at qq; cases qq)⟩
      obtain ⟨R5, L5⟩ := R4.setT (m' := .ls (acc ++ [d])) (u := .lst (xs ++ [y])) e2 trivial rfl ⟨L, _, rfl, e2, upd_same, (e4.append (.cons dy .nil)).mono Lm⟩
      have R6 := R5.wipe vs
      rw [hw'] at R6
      exact ⟨xs, e3, by rw [e4.length]; exact h5, o4, _, _, L2'.trans (L3.trans (L4.trans L5)), R6, h4⟩
  · have e : i = ds.length := by omega
    subst e
    rw [List.drop_length] at h
    exact .inl ⟨(hr o H (hc o H ρ _ Lo R h.1) R.mu).2, q o H ρ acc Lo R h.1 h.2⟩
def tLcX (ti : TSrc) (b : Bd) (tq : TQ) (te : TX) (vs : List Nat) : TX := fun ρ Q => ti ρ fun src ρ1 => match src with
  | .fx ds => compL b tq te vs (fun _ => True) (fun acc ρ' => Q (.tm (.ls acc)) (restE ρ1 ρ' vs)) ds [] (wipeE ρ1 vs)
  | .sl i es ds => match ρ1.sl[i]? with
    | some s => match s.m! with
      | some m => m = .ls es ∧ ∀ v, compL b tq te vs (fun ρ => ρ.sl[i]? = some (.hd s.isP v m)) (fun acc ρ' => Q (.tm (.ls acc)) ((restE ρ1 ρ' vs).set i s)) ds [] (wipeE (ρ1.set i (.hd s.isP v m)) vs)
      | none => False
    | none => False
  | .hs i p v es ds => compL b tq te vs (fun ρ => ρ.sl[i]? = some (.hd p v (.ls es))) (fun acc ρ' => Q (.tm (.ls acc)) (restE ρ1 ρ' vs)) ds [] (wipeE ρ1 vs)
  | .wo n es ds => compL b tq te vs (fun ρ => ρ.st[n]? = some (.ls es)) (fun acc ρ' => Q (.tm (.ls acc)) (restE ρ1 ρ' vs)) ds [] (wipeE ρ1 vs)
theorem up_back {s : Sl} {m : M} (h : s.m! = some m) : (if s.isP then Sl.pa m else .lo m) = s := by
  cases s with
  | no => cases h
  | lo z => cases h; rfl
  | pa z => cases h; rfl
  | hd p v z => cases h
theorem lc_of {ti : TSrc} {bd : Bd} {tq : TQ} {te : TX} {vs : List Nat} {k : VK} (hvs : ∀ i ∈ bd.slots, i ∈ vs) (h : TEo K c (tLcX ti bd tq te vs) σ H k) : tLc (TIo K c ti) (bd.tg K) (TTo K c tq) (TEo K c te) vs σ H k := by
  obtain ⟨o, ρ, τ, Q, R0, h, q⟩ := h
  refine ⟨o, ρ, τ, _, R0, h, fun J H1 o1 ρ1 src L1 R1 ok h1 => ?_⟩
  intro L hL
  have push : ∀ {o2 : Own} {ρ2 : Env}, Rep K c o2 σ H1 ρ2 τ → Rep K c (fun b => if b = L then some (.t τ.length) else o2 b) σ (upd H1 L (.lst [])) ρ2 (τ ++ [(.ref L, .ls [])]) ∧ Le o2 H1 (fun b => if b = L then some (.t τ.length) else o2 b) (upd H1 L (.lst [])) := fun {o2 ρ2} R2 =>
    R2.push (m := .ls []) (u := .lst []) hL trivial rfl ⟨L, [], rfl, by simp, upd_same, .nil⟩
  cases src with
  | fx ds =>
    obtain ⟨R2, L2'⟩ := push R1
    refine comp_ok (C := fun o' H' => Le o1 H1 o' H') ok hvs (fun o' H' ρ' τ' L' R' _ => L2'.trans L') (R2.wipe vs) h1 fun o' H' ρ' acc L' R' _ hk => ?_
    exact q _ H' o' (.tm (.ls acc)) _ _ (L1.trans (L2'.trans L')) (Rep.rest R1 (L2'.trans L') R') rfl hk
  | sl i es ds =>
    obtain ⟨v0, hv0, ok⟩ := ok
    have h1 : (match ρ1.sl[i]? with
      | some s => match s.m! with
        | some m => m = .ls es ∧ ∀ v, compL bd tq te vs (fun ρ => ρ.sl[i]? = some (.hd s.isP v m)) (fun acc ρ' => Q (.tm (.ls acc)) ((restE ρ1 ρ' vs).set i s)) ds [] (wipeE (ρ1.set i (.hd s.isP v m)) vs)
        | none => False
      | none => False) := h1
    split at h1
    · rename_i s e
      split at h1
      · rename_i m em
        obtain ⟨rfl, h1⟩ := h1
        obtain ⟨v, hv, R2⟩ := R1.hide e em
        rw [hv0] at hv; cases hv
        have L2' : Le o1 H1 (relL (.s i) (.h i) o1) H1 := relL_le (by intro z; cases z)
        obtain ⟨R3, L3⟩ := push R2
        refine comp_ok (C := fun o' H' => ∃ l, IsM K o' H' l v0 (.ls es)) ok hvs (fun o' H' ρ' τ' L' R' g => ?_) (R3.wipe vs) (h1 v0) fun o' H' ρ' acc L' R' g hk => ?_
        · obtain ⟨_, _, q⟩ := R'.sl i _ g
          exact ⟨_, q⟩
        · obtain ⟨hw, _, _⟩ := R'.sl i _ g
          have hi := (wipe_some hw).2
          have R4 := Rep.rest R1 (L2'.trans (L3.trans L')) R'
          obtain ⟨R5, L5⟩ := R4.unhide (i := i) (p := s.isP) (v := v0) (m := .ls es) (by rw [rest_out hi]; exact g)
          rw [up_back em] at R5
          exact q _ H' _ (.tm (.ls acc)) _ _ (L1.trans (L2'.trans (L3.trans (L'.trans L5)))) R5 rfl hk
      · exact h1.elim
    · exact h1.elim
  | hs i p v es ds =>
    obtain ⟨R2, L2'⟩ := push R1
    refine comp_ok (C := fun o' H' => ∃ l, IsM K o' H' l v (.ls es)) ok hvs (fun o' H' ρ' τ' L' R' g => ?_) (R2.wipe vs) h1 fun o' H' ρ' acc L' R' _ hk => ?_
    · obtain ⟨_, _, q⟩ := R'.sl i _ g
      exact ⟨_, q⟩
    · exact q _ H' o' (.tm (.ls acc)) _ _ (L1.trans (L2'.trans L')) (Rep.rest R1 (L2'.trans L') R') rfl hk
  | wo n es ds =>
    obtain ⟨ad, e1, ok⟩ := ok
    obtain ⟨R2, L2'⟩ := push R1
    refine comp_ok ok hvs (fun o' H' ρ' τ' L' R' g => R'.woC e1 (L2'.trans L') g) (R2.wipe vs) h1 fun o' H' ρ' acc L' R' _ hk => ?_
    exact q _ H' o' (.tm (.ls acc)) _ _ (L1.trans (L2'.trans L')) (Rep.rest R1 (L2'.trans L') R') rfl hk
def DQs (X : Cx) (c : Cc) (ifs : List Expr) (t : TQ) : Prop := PTs X ifs (TTo X.K c t)
def qYes : TQ := fun ρ Q => Q true ρ
theorem ptsImp {ifs : List Expr} {t t' : TT} (h : PTs X ifs t) (f : ∀ σ H k, t' σ H k → t σ H k) : PTs X ifs t' := ⟨fun pins s σ H Q I q => h.run pins s σ H Q I (f _ _ _ q)⟩
theorem dq_nil : DQs X c [] qYes := ptsImp pts_nil fun σ H k ⟨o, ρ, τ, Q, R0, h, q⟩ => q true H o ρ .refl R0 h
theorem dq_one {cond : Expr} {tq : TQ} (h : DT X c cond tq) : DQs X c [cond] tq := pts_one h
section
variable {elt tg iter : Expr} {ifs : List Expr} {scope : Scope} {own : List (Str × Nat)} {ti : TSrc} {bd : Bd} {tq : TQ} {te : TX}
theorem de_lc (hc : X.calm = true) (hN : X.N.Nodup) (hi : DI X c tg iter ti) (ok : blkC X.N X.env.scope scope own = true)
    (hg : ∀ (s : Shared) (H : Hp) (C : Addr) (cl : List (Str × Addr)) (fp : List Addr), PG (X.blk s H scope (compEnvC scope cl C X.env) fp) tg (bd.tg X.K))
    (ht : ∀ (s : Shared) (H : Hp) (C : Addr) (cl : List (Str × Addr)) (fp : List Addr), DQs (X.blk s H scope (compEnvC scope cl C X.env) fp) c ifs tq)
    (he : ∀ (s : Shared) (H : Hp) (C : Addr) (cl : List (Str × Addr)) (fp : List Addr), DE (X.blk s H scope (compEnvC scope cl C X.env) fp) c elt te)
    (hvs : ∀ i ∈ bd.slots, i ∈ own.map (·.2) := by decide) (hs : ∀ x, foldedSetIterable iter X.env x = pure x := by intro _; rfl) : DE X c (.ListComp elt [⟨tg, iter, ifs, 0⟩] scope pos) (tLcX ti bd tq te (own.map (·.2))) :=
  peImp (pe_lc (tt := TTo X.K c tq) (te := TEo X.K c te) hc hN hi (blkOk_by ok) hg ht he hs) fun σ H k h => lc_of hvs h
theorem ds_setLc {i : Nat} {y : Str} {py spos : Pos} (hc : X.calm = true) (hN : X.N.Nodup) (hsw : swapsWith (.ListComp elt [⟨tg, iter, ifs, 0⟩] scope pos) (some (.Name y py)) spos.line X.env = pure true) (hi : DI X c tg iter ti) (ok : blkC X.N X.env.scope scope own = true)
    (hg : ∀ (s : Shared) (H : Hp) (C : Addr) (cl : List (Str × Addr)) (fp : List Addr), PG (X.blk s H scope (compEnvC scope cl C X.env) fp) tg (bd.tg X.K))
    (ht : ∀ (s : Shared) (H : Hp) (C : Addr) (cl : List (Str × Addr)) (fp : List Addr), DQs (X.blk s H scope (compEnvC scope cl C X.env) fp) c ifs tq)
    (he : ∀ (s : Shared) (H : Hp) (C : Addr) (cl : List (Str × Addr)) (fp : List Addr), DE (X.blk s H scope (compEnvC scope cl C X.env) fp) c elt te)
    (hy : X.N[i]? = some y := by rfl) (hyl : X.env.scope.names.lookup y = some .local := by rfl) (hvs : ∀ i ∈ bd.slots, i ∈ own.map (·.2) := by decide) (hs : ∀ x, foldedSetIterable iter X.env x = pure x := by intro _; rfl) :
    DS X c (.Assign [.Name y py] (.ListComp elt [⟨tg, iter, ifs, 0⟩] scope pos) spos) (sAsg i (tLcX ti bd tq te (own.map (·.2)))) :=
  psImp (ps_setLc (tt := TTo X.K c tq) (te := TEo X.K c te) hc hN hy hyl hsw hi (blkOk_by ok) hg ht he hs) fun D σ H h => lc_of hvs (sAsg_of h)
end
end
end Y
namespace Y
open PySem PySem.Spec L2

/-! ### calls of the text's own defs -/
structure Keep (o : Own) (H : Hp) (o' : Own) (H' : Hp) : Prop where
  k : ∀ b u, o b = none → H b = some u → o' b = none ∧ H' b = some u
  w : ∀ a n, o a = some (.k (.w n)) → o' a = some (.k (.w n))
section
variable {K : PySem.W.Frag} {o o' : Own} {H H' : Hp} {l l' : Lb} {v : V}
mutual
theorem Dat.monoK (L : Keep o H o' H') : ∀ {v : V} {d : D}, Dat K o H v d → Dat K o' H' v d
  | _, _, .non => .non
  | _, _, .bl b => .bl b
  | _, _, .int b => .int b
  | _, _, .str b => .str b
  | _, _, .raw b => .raw b
  | _, _, .fnv a b r => .fnv (L.k _ _ a b).1 (L.k _ _ a b).2 (Dats.monoK L r)
  | _, _, .tup h r => .tup (L.k _ _ h.1 h.2) (Dats.monoK L r)
  | _, _, .lst e h r => .lst (L.k _ _ e h).1 (L.k _ _ e h).2 (Dats.monoK L r)
  | _, _, .obj e => .obj (L.w _ _ e)
theorem Dats.monoK (L : Keep o H o' H') : ∀ {v : List V} {d : List D}, Dats K o H v d → Dats K o' H' v d
  | _, _, .nil => .nil
  | _, _, .cons a r => .cons (Dat.monoK L a) (Dats.monoK L r)
end
theorem Kvs.monoK {κ : Type} (L : Keep o H o' H') {ks : List (κ × V)} {kvs : List (κ × D)} (h : Kvs K o H ks kvs) : Kvs K o' H' ks kvs :=
  Paired.mapP h fun _ _ z => ⟨z.1, z.2.monoK L⟩
/-- data, or an object that is owned -/
def M.fit : M → Bool
  | .im _ => true
  | m => m.own
theorem IsM.monoK (L : Keep o H o' H') (h : ∀ a, o a = some l → o' a = some l' ∧ H' a = H a) : ∀ {m : M}, m.fit = true → IsM K o H l v m → IsM K o' H' l' v m
  | .im _, _, q => Dat.monoK L q
  | .ls _, _, ⟨a, xs, e, f, g, q⟩ => ⟨a, xs, e, (h a f).1, (h a f).2.trans g, q.monoK L⟩
  | .rd _, _, ⟨a, xs, e, f, g, q⟩ => ⟨a, xs, e, (h a f).1, (h a f).2.trans g, q.monoK L⟩
  | .dk _, _, ⟨a, xs, e, f, g, q⟩ => ⟨a, xs, e, (h a f).1, (h a f).2.trans g, Kvs.monoK L q⟩
  | .dt _, _, ⟨a, xs, e, f, g, q⟩ => ⟨a, xs, e, (h a f).1, (h a f).2.trans g, Kvs.monoK L q⟩
end

/-- what a def promises: its parameters' data and objects; what it hands back, and what its parameters' objects are then -/
abbrev Xc := Value × List (Str × D)
abbrev GN := M → List (Option M) → Sto → Prop
abbrev GX := Xc → Sto → Prop
abbrev TF := List M → Sto → GN → GX → Prop
def gx0 : GX := fun _ _ => False
structure ArgsOk (K : PySem.W.Frag) (o : Own) (H : Hp) (vs : List V) (ms : List M) (W : Sto) : Prop where
  len : vs.length = ms.length
  at_ : ∀ (i : Nat) v m, vs[i]? = some v → ms[i]? = some m → IsM K o H (.s i) v m
  mu : ∀ a l, o a = some l → Mt (H a)
  st : StOk K o H W
/-- behind the call -/
structure Aft (K : PySem.W.Frag) (o : Own) (H : Hp) (W : Sto) : Prop where
  mu : ∀ a l, o a = some l → Mt (H a)
  st : StOk K o H W
/-- the dict of what is raised -/
def IsXd (K : PySem.W.Frag) (o : Own) (H : Hp) : Option Addr → List (Str × D) → Prop
  | none, fs => fs = []
  | some d, fs => o d = none ∧ ∃ vs, H d = some (.xd vs) ∧ Kvs K o H vs fs
def FinOk (K : PySem.W.Frag) (o : Own) (H : Hp) (vs : List V) (fin : List (Option M)) : Prop := ∀ (i : Nat) v m, vs[i]? = some v → fin[i]? = some (some m) → IsM K o H (.s i) v m
def spD (K : PySem.W.Frag) (F : TF) (n : Nat) : Sp := fun vs H Q E => ∃ o ms W G Gx, vs.length = n ∧ ArgsOk K o H vs ms W ∧ F ms W G Gx ∧
  (∀ v H' o' m fin W', Le o H o' H' → Aft K o' H' W' → IsM K o' H' (.t 0) v m → FinOk K o' H' vs fin → G m fin W' → Q v H') ∧
  ∀ (x : Xc) d H' o' W', Le o H o' H' → Aft K o' H' W' → IsXd K o' H' d x.2 → Gx x W' → E x.1 d H'
@[reducible] def Env.put (ρ : Env) (W : Sto) : Env := ⟨ρ.sl, W⟩
/-- where what is raised goes -/
abbrev EX := Xc → Env → Prop
def ex0 : EX := fun _ _ => False

/-! ### at a call -/
def argS : Option Sl → Option M
  | some (.lo m) => some m
  | some (.pa m) => some m
  | some (.hd _ _ (.ls ds)) => some (.sq ds)
  | _ => none
def argM (ρ : Env) : R → Option M
  | .im d => some (.im d)
  | .tm m => some m
  | .sl i => argS ρ.sl[i]?
def argMs (ρ : Env) : List R → Option (List M)
  | [] => some []
  | r :: rs => match argM ρ r, argMs ρ rs with
    | some m, some ms => some (m :: ms)
    | _, _ => none
def slots : List R → List Nat
  | [] => []
  | .sl i :: rs => i :: slots rs
  | _ :: rs => slots rs
def putS (f : Option M) : Option Sl → Option Sl
  | some (.lo m) => if m.own = true then some (match f with
      | some m' => if m'.fit = true then .lo m' else .no
      | none => .no) else none
  | some (.pa m) => if m.own = true then some (match f with
      | some m' => if m'.fit = true then .pa m' else .no
      | none => .no) else none
  | _ => none
def stepB (i : Nat) (f : Option M) (ρ : Env) : Env := match putS f ρ.sl[i]? with
  | some s => ρ.set i s
  | none => ρ
def putB : List R → List (Option M) → Env → Env
  | .sl i :: rs, fs, ρ => putB rs fs.tail (stepB i fs.head?.join ρ)
  | _ :: rs, fs, ρ => putB rs fs.tail ρ
  | [], _, ρ => ρ
def tCall (ex : EX) (F : TF) (n : Nat) (ta : TL) : TX := fun ρ Q => ta ρ fun rs ρ1 => match argMs ρ1 rs with
  | some ms => rs.length = n ∧ (slots rs).Nodup ∧ F ms ρ1.st (fun m fin W => m.fit = true ∧ Q m.res ((putB rs fin ρ1).put W)) fun x W => ex x ((putB rs [] ρ1).put W)
  | none => False
/-- which argument an object is: its label tells -/
def labIx : List R → Nat → Nat → Lb → Option Nat
  | [], _, _, _ => none
  | .sl i :: rs, n, k, l => if l = .s i then some k else labIx rs n (k + 1) l
  | .tm _ :: rs, n, k, l => if l = .t n then some k else labIx rs (n + 1) (k + 1) l
  | .im _ :: rs, n, k, l => labIx rs n (k + 1) l
def ownC (rs : List R) (n : Nat) (o : Own) : Own := fun a => match o a with
  | none => none
  | some (.k q) => some (.k q)
  | some l => match labIx rs n 0 l with
    | some k => some (.s k)
    | none => some .x
def ownB (rs : List R) (n : Nat) (o o' : Own) : Own := fun a => match o' a with
  | none => none
  | some .x => o a
  | some (.k q) => some (.k q)
  | some (.s k) => match rs[k]? with
    | some (.sl i) => some (.s i)
    | _ => none
  | some (.t 0) => some (.t n)
  | _ => none
theorem labIx_ge : ∀ {rs : List R} {n k : Nat} {l : Lb} {j : Nat}, labIx rs n k l = some j → k ≤ j
  | .sl i :: rs, n, k, l, j, h => by
    unfold labIx at h
    split at h
    · cases h; exact Nat.le_refl _
    · exact Nat.le_of_succ_le (labIx_ge h)
  | .tm _ :: rs, n, k, l, j, h => by
    unfold labIx at h
    split at h
    · cases h; exact Nat.le_refl _
    · exact Nat.le_of_succ_le (labIx_ge h)
  | .im _ :: rs, n, k, l, j, h => by
    unfold labIx at h
    exact Nat.le_of_succ_le (labIx_ge h)
theorem labIx_s {i : Nat} : ∀ {rs : List R} {n k : Nat}, i ∉ slots rs → labIx rs n k (.s i) = none
  | [], _, _, _ => rfl
  | .sl j :: rs, n, k, h => by
    have h1 : i ≠ j := fun e => h (by rw [e]; exact List.mem_cons_self)
    have h2 : i ∉ slots rs := fun m => h (List.mem_cons_of_mem _ m)
    unfold labIx
    rw [if_neg (by intro z; injection z with z; exact h1 z), labIx_s h2]
  | .tm _ :: rs, n, k, h => by unfold labIx; rw [if_neg (by intro z; cases z)]; exact labIx_s h
  | .im _ :: rs, n, k, h => by unfold labIx; exact labIx_s h
theorem labIx_lt {j : Nat} : ∀ {rs : List R} {n k : Nat}, j < n → labIx rs n k (.t j) = none
  | [], _, _, _ => rfl
  | .sl _ :: rs, n, k, h => by unfold labIx; rw [if_neg (by intro z; cases z)]; exact labIx_lt h
  | .tm _ :: rs, n, k, h => by unfold labIx; rw [if_neg (by intro z; injection z with z; omega)]; exact labIx_lt (by omega)
  | .im _ :: rs, n, k, h => by unfold labIx; exact labIx_lt h
theorem labIx_h {i : Nat} : ∀ {rs : List R} {n k : Nat}, labIx rs n k (.h i) = none
  | [], _, _ => rfl
  | .sl _ :: rs, n, k => by unfold labIx; rw [if_neg (by intro z; cases z)]; exact labIx_h
  | .tm _ :: rs, n, k => by unfold labIx; rw [if_neg (by intro z; cases z)]; exact labIx_h
  | .im _ :: rs, n, k => by unfold labIx; exact labIx_h
theorem labIx_x : ∀ {rs : List R} {n k : Nat}, labIx rs n k .x = none
  | [], _, _ => rfl
  | .sl _ :: rs, n, k => by unfold labIx; rw [if_neg (by intro z; cases z)]; exact labIx_x
  | .tm _ :: rs, n, k => by unfold labIx; rw [if_neg (by intro z; cases z)]; exact labIx_x
  | .im _ :: rs, n, k => by unfold labIx; exact labIx_x
theorem labIx_k {q : Kl} : ∀ {rs : List R} {n k : Nat}, labIx rs n k (.k q) = none
  | [], _, _ => rfl
  | .sl _ :: rs, n, k => by unfold labIx; rw [if_neg (by intro z; cases z)]; exact labIx_k
  | .tm _ :: rs, n, k => by unfold labIx; rw [if_neg (by intro z; cases z)]; exact labIx_k
  | .im _ :: rs, n, k => by unfold labIx; exact labIx_k
theorem mem_slots {i : Nat} : ∀ {rs : List R}, R.sl i ∈ rs → i ∈ slots rs
  | [], h => by cases h
  | .sl j :: rs, h => by
    rcases List.mem_cons.mp h with e | h
    · cases e; exact List.mem_cons_self
    · exact List.mem_cons_of_mem _ (mem_slots h)
  | .tm m :: rs, h => by
    rcases List.mem_cons.mp h with e | h
    · cases e
    · exact mem_slots (rs := rs) h
  | .im d :: rs, h => by
    rcases List.mem_cons.mp h with e | h
    · cases e
    · exact mem_slots (rs := rs) h
section
variable {K : PySem.W.Frag} {c : Cc} {o o' : Own} {σ σ' : St} {H H' : Hp} {ρ ρ' : Env} {τ τ' τ0 τ1 : List (V × M)} {X : Cx} {e a b : Expr} {es : List Expr} {pos : Pos} {t u : TX} {P : EndP} {D' : Ends}
theorem ownC_le {rs : List R} {n : Nat} : Le o H (ownC rs n o) H :=
  .mk' (fun b u e f => ⟨by unfold ownC; rw [e], f⟩) (fun b e => ⟨by unfold ownC; rw [e]; simp only [labIx_x], rfl⟩) fun b _ e => ⟨by unfold ownC; rw [e], rfl⟩
/-- the arguments, as the callee sees them -/
theorem args_ok {rsA : List R} {n : Nat} (R0 : Rep K c o σ H ρ τ) : ∀ {vs : List V} {rs : List R} {ms : List M} {τ0 τ1 : List (V × M)} {k : Nat}, RelRs K o H σ vs rs τ0 τ1 → τ1 <+: τ → argMs ρ rs = some ms → (slots rs).Nodup →
    (∀ l, labIx rs τ0.length k l ≠ none → labIx rsA n 0 l = labIx rs τ0.length k l) → ∀ (j : Nat) v m, vs[j]? = some v → ms[j]? = some m → IsM K (ownC rsA n o) H (.s (k + j)) v m
  | _, _, ms, _, _, k, .nil, _, e, _, _ => fun j v m e1 e2 => by simp at e1
  | _, _, ms, τ0, τ1, k, .cons (v := v0) (vs := vs) (r := r) (rs := rs) (τ1 := τ2) z zs, p, e, nd, A => fun j v m e1 e2 => by
    unfold argMs at e
    split at e
    · rename_i m0 ms0 em ems
      cases e
      have L : Le o H (ownC rsA n o) H := ownC_le
      cases j with
      | zero =>
        simp at e1 e2
        subst e1 e2
        rw [Nat.add_zero]
        cases r with
        | im d => cases em; exact Dat.mono L z.2
        | tm m1 =>
          cases em
          have e3 : τ2 = τ0 ++ [(v0, m0)] := z
          obtain ⟨w, hw⟩ := zs.pre.trans p
          have q : IsM K o H (.t τ0.length) v0 m0 := (R0.tm τ0.length v0 m0 (by rw [← hw, e3]; simp)).1
          refine q.mono L fun a ho => ⟨?_, rfl⟩
          have f : labIx (.tm m0 :: rs) τ0.length k (.t τ0.length) = some k := by unfold labIx; rw [if_pos rfl]
          have g := A (.t τ0.length) (by rw [f]; intro z; cases z)
          unfold ownC; rw [ho]; simp only [g, f]
        | sl i =>
          obtain ⟨_, hs⟩ := z
          have f : labIx (.sl i :: rs) τ0.length k (.s i) = some k := by unfold labIx; rw [if_pos rfl]
          have g := A (.s i) (by rw [f]; intro z; cases z)
          have em : argS ρ.sl[i]? = some m0 := em
          unfold argS at em
          split at em
          · rename_i m1 es
            cases em
            obtain ⟨w, e3, q⟩ := R0.sl i _ es
            rw [hs] at e3; cases e3
            exact q.mono L fun a ho => ⟨by unfold ownC; rw [ho]; simp only [g, f], rfl⟩
          · rename_i m1 es
            cases em
            obtain ⟨w, e3, _, q⟩ := R0.sl i _ es
            rw [hs] at e3; cases e3
            exact q.mono L fun a ho => ⟨by unfold ownC; rw [ho]; simp only [g, f], rfl⟩
          · rename_i p1 w1 ds es
            cases em
            obtain ⟨e3, _, ad, xs, rfl, q1, q2, q3⟩ := R0.sl i _ es
            rw [hs] at e3; cases e3
            refine ⟨ad, xs, rfl, .inl ⟨.inr ?_, .inl q2⟩, q3.mono L⟩
            unfold ownC; rw [q1]; simp only [labIx_h]
          · cases em
      | succ j =>
        have e1' : vs[j]? = some v := by simpa using e1
        have e2' : ms0[j]? = some m := by simpa using e2
        have nd' : (slots rs).Nodup := by
          cases r with
          | im d => exact nd
          | tm m1 => exact nd
          | sl i => exact (List.nodup_cons.mp nd).2
        have A' : ∀ l, labIx rs τ2.length (k + 1) l ≠ none → labIx rsA n 0 l = labIx rs τ2.length (k + 1) l := fun l hl => by
          cases r with
          | im d =>
            have e3 : τ2 = τ0 := z.1
            subst e3
            have f : labIx (.im d :: rs) τ2.length k l = labIx rs τ2.length (k + 1) l := rfl
            rw [← f] at hl ⊢
            exact A l hl
          | tm m1 =>
            have e3 : τ2 = τ0 ++ [(v0, m1)] := z
            have e4 : τ2.length = τ0.length + 1 := by rw [e3]; simp
            rw [e4] at hl ⊢
            have ne : l ≠ .t τ0.length := fun z => by subst z; exact hl (labIx_lt (Nat.lt_succ_self _))
            have f : labIx (.tm m1 :: rs) τ0.length k l = labIx rs (τ0.length + 1) (k + 1) l := by
              conv => lhs; unfold labIx
              rw [if_neg ne]
            rw [← f] at hl ⊢
            exact A l hl
          | sl i =>
            have e3 : τ2 = τ0 := z.1
            subst e3
            have ne : l ≠ .s i := fun z => by subst z; exact hl (labIx_s (List.nodup_cons.mp nd).1)
            have f : labIx (.sl i :: rs) τ2.length k l = labIx rs τ2.length (k + 1) l := by
              conv => lhs; unfold labIx
              rw [if_neg ne]
            rw [← f] at hl ⊢
            exact A l hl
        have q := args_ok R0 (k := k + 1) zs p ems nd' A' j v m e1' e2'
        have e5 : k + 1 + j = k + (j + 1) := by omega
        rw [e5] at q
        exact q
    · cases e
theorem argMs_length : ∀ {rs : List R} {ms : List M}, argMs ρ rs = some ms → ms.length = rs.length
  | [], _, e => by simp [argMs] at e; subst e; rfl
  | r :: rs, _, e => by
    unfold argMs at e
    split at e
    · rename_i m ms _ e2
      cases e
      rw [List.length_cons, List.length_cons, argMs_length e2]
    · cases e
theorem ownC_mu {rs : List R} {n : Nat} (mu : ∀ a l, o a = some l → Mt (H a)) : ∀ a l, ownC rs n o a = some l → Mt (H a) := fun a l e => by
  unfold ownC at e
  split at e
  · cases e
  · rename_i h; exact mu a _ h
  · rename_i l' _ h; exact mu a _ h
/-- behind the call -/
theorem ownB_mu {rs : List R} {n : Nat} (mu : ∀ a l, o' a = some l → Mt (H' a)) : ∀ a l, ownB rs n o o' a = some l → Mt (H' a) := fun a l e => by
  unfold ownB at e
  split at e
  · cases e
  · rename_i h; exact mu a _ h
  · rename_i h; exact mu a _ h
  · rename_i k h; exact mu a _ h
  · rename_i h; exact mu a _ h
  · cases e
theorem ownB_le {rs : List R} {n : Nat} (L : Le (ownC rs n o) H o' H') : Le o H (ownB rs n o o') H' :=
  ⟨fun b u e f => by
    obtain ⟨e1, f1⟩ := L.keep b u (by unfold ownC; rw [e]) f
    exact ⟨by unfold ownB; rw [e1], f1⟩,
   fun b e => by
    obtain ⟨e1, f1⟩ := L.ext b (by unfold ownC; rw [e]; simp only [labIx_x])
    exact ⟨by unfold ownB; rw [e1]; exact e, f1⟩,
   fun P q t => by
    obtain ⟨ps, e, h, ok, all⟩ := L.tbs P q (ownC_le.tbs P q t)
    refine ⟨ps, by unfold ownB; rw [e], h, ok, fun pos cv hc => ?_⟩
    obtain ⟨c, e1, e2, e3⟩ := all pos cv hc
    exact ⟨c, e1, by unfold ownB; rw [e2], e3⟩,
   fun a n e => by have := L.wk a n (by unfold ownC; rw [e]); unfold ownB; rw [this]⟩
theorem ownB_keep {rs : List R} {n : Nat} : Keep o' H' (ownB rs n o o') H' := ⟨fun b u e f => ⟨by unfold ownB; rw [e], f⟩, fun b n e => by unfold ownB; rw [e]⟩
theorem ownC_ks {rs : List R} {n : Nat} : Ks o H (ownC rs n o) H := ⟨fun b q _ e => ⟨by unfold ownC; rw [e], rfl⟩, fun b q e => by
  unfold ownC at e
  split at e
  · cases e
  · rename_i h; rw [h]; exact e
  · split at e <;> cases e⟩
theorem IsOb.monoK {n : Nat} {a : Addr} (L : Keep o H o' H') (h : H' a = H a) (g : ∀ b q, o b = some (.k q) → o' b = some (.k q) ∧ H' b = H b) : ∀ {u : Ob}, IsOb K o H n a u → IsOb K o' H' n a u
  | .ls _, ⟨xs, e, q⟩ => ⟨xs, h.trans e, q.monoK L⟩
  | .dk _, ⟨xs, e, q⟩ => ⟨xs, h.trans e, Kvs.monoK L q⟩
  | .dt _, ⟨xs, e, q⟩ => ⟨xs, h.trans e, Kvs.monoK L q⟩
  | .ins C fs, ⟨dx, vs, e, f, g', q⟩ => ⟨dx, vs, h.trans e, (g _ _ f).1, (g _ _ f).2.trans g', Kvs.monoK L q⟩
theorem ownB_st {rs : List R} {n : Nat} {W : Sto} (L : Le (ownC rs n o) H o' H') (S : StOk K o' H' W) : StOk K (ownB rs n o o') H' W := by
  have f : ∀ b q, o' b = some (.k q) → ownB rs n o o' b = some (.k q) ∧ H' b = H' b := fun b q e => ⟨by unfold ownB; rw [e], rfl⟩
  have g : ∀ b n', ownB rs n o o' b = some (.k (.w n')) → o' b = some (.k (.w n')) := fun b n' e => by
    unfold ownB at e
    split at e
    · cases e
    · rename_i h
      have := L.wk b n' (by unfold ownC; rw [e])
      rw [h] at this; cases this
    · rename_i h; rw [h]; exact e
    · split at e <;> cases e
    · cases e
    · cases e
  exact ⟨fun m u e => let ⟨a, e1, q⟩ := S.at_ m u e; ⟨a, (f _ _ e1).1, q.monoK ownB_keep rfl f⟩, fun a b m e1 e2 => S.one a b m (g _ _ e1) (g _ _ e2), fun a m e => S.lt a m (g _ _ e)⟩
theorem ownB_other {rs : List R} {n : Nat} (L : Le (ownC rs n o) H o' H') {l : Lb} (h : labIx rs n 0 l = none) {a : Addr} (e : o a = some l) (hk : ∀ q, l ≠ .k q := by intro q z; cases z) : ownB rs n o o' a = some l ∧ H' a = H a := by
  obtain ⟨e1, f1⟩ := L.ext a (by unfold ownC; rw [e]; cases l <;> first | exact absurd rfl (hk _) | simp only [h])
  exact ⟨by unfold ownB; rw [e1]; exact e, f1⟩
theorem back_ok {rsA : List R} {n : Nat} {oc : Own} (R0 : Rep K c o σ H ρ τ) (L : Le (ownC rsA n o) H oc H') : ∀ {vs : List V} {rs : List R} {fs : List (Option M)} {τ0 τ1 : List (V × M)} {k : Nat} {ρc : Env}, RelRs K o H σ vs rs τ0 τ1 → (slots rs).Nodup →
    (∀ j r, rs[j]? = some r → rsA[k + j]? = some r) → (∀ (j : Nat) v m, vs[j]? = some v → fs[j]? = some (some m) → IsM K oc H' (.s (k + j)) v m) → ρc.sl.length = ρ.sl.length →
    (∀ j, (j ∈ slots rs → ρc.sl[j]? = ρ.sl[j]?) ∧ (j ∉ slots rs → ∀ s, ρc.sl[j]? = some s → SlOk K c (ownB rsA n o oc) σ H' j s)) →
    (putB rs fs ρc).sl.length = ρ.sl.length ∧ ∀ j s, (putB rs fs ρc).sl[j]? = some s → SlOk K c (ownB rsA n o oc) σ H' j s
  | _, _, fs, _, _, k, ρc, .nil, nd, hr, hf, hl, hP => ⟨hl, fun j s q => (hP j).2 (by simp [slots]) s q⟩
  | _, _, fs, τ0, τ1, k, ρc, .cons (v := v0) (vs := vs) (r := r) (rs := rs) (τ1 := τ2) z zs, nd, hr, hf, hl, hP => by
    have hf' : ∀ (j : Nat) v m, vs[j]? = some v → fs.tail[j]? = some (some m) → IsM K oc H' (.s (k + 1 + j)) v m := fun j v m e1 e2 => by
      cases fs with
      | nil => simp at e2
      | cons f fs' =>
        have := hf (j + 1) v m (by simpa using e1) (by simpa using e2)
        rw [show k + 1 + j = k + (j + 1) by omega]; exact this
    have tl : ∀ {ρ2 : Env}, (slots rs).Nodup → ρ2.sl.length = ρ.sl.length →
        (∀ j, (j ∈ slots rs → ρ2.sl[j]? = ρ.sl[j]?) ∧ (j ∉ slots rs → ∀ s, ρ2.sl[j]? = some s → SlOk K c (ownB rsA n o oc) σ H' j s)) → (putB rs fs.tail ρ2).sl.length = ρ.sl.length ∧ ∀ j s, (putB rs fs.tail ρ2).sl[j]? = some s → SlOk K c (ownB rsA n o oc) σ H' j s :=
      fun {ρ2} nd2 h2 h3 => back_ok R0 L (k := k + 1) zs nd2 (fun j r' e => by have := hr (j + 1) r' (by simpa using e); rw [show k + 1 + j = k + (j + 1) by omega]; exact this) hf' h2 h3
    cases r with
    | im d => exact tl nd hl hP
    | tm m1 => exact tl nd hl hP
    | sl i =>
      obtain ⟨_, hs⟩ := z
      have ndi := List.nodup_cons.mp nd
      have hi : ρc.sl[i]? = ρ.sl[i]? := (hP i).1 List.mem_cons_self
      have hrk : rsA[k]? = some (.sl i) := hr 0 _ rfl
      have LB : Le o H (ownB rsA n o oc) H' := ownB_le L
      have hq : ∀ m, fs.head?.join = some m → IsM K oc H' (.s k) v0 m := fun m e => by
        cases fs with
        | nil => cases e
        | cons f fs' => exact hf 0 v0 m rfl (by simpa using e)
      have fin1 : ∀ m', fs.head?.join = some m' → m'.fit = true → IsM K (ownB rsA n o oc) H' (.s i) v0 m' := fun m' ef hfit =>
        (hq m' ef).monoK ownB_keep (fun a q => ⟨by unfold ownB; rw [q]; simp only [hrk], rfl⟩) hfit
      have nown : ∀ m, ¬ m.own = true → IsM K o H (.s i) v0 m → IsM K (ownB rsA n o oc) H' (.s i) v0 m := fun m hm q => by
        cases m with
        | im d => exact Dat.mono LB q
        | sq ds => obtain ⟨ad, xs, e1, e2, e3⟩ := q; exact ⟨ad, xs, e1, e2.mono LB, e3.mono LB⟩
        | ls ds => exact absurd rfl hm
        | rd ds => exact absurd rfl hm
        | dk ds => exact absurd rfl hm
        | dt ds => exact absurd rfl hm
      refine tl ndi.2 ?_ fun j => ⟨fun hj => ?_, fun hj s e => ?_⟩
      · unfold stepB
        split
        · rw [List.length_set]; exact hl
        · exact hl
      · have ne : i ≠ j := fun z => by subst z; exact ndi.1 hj
        have q := (hP j).1 (List.mem_cons_of_mem _ hj)
        unfold stepB
        split
        · rw [List.getElem?_set_ne ne]; exact q
        · exact q
      · by_cases ne : i = j
        · subst ne
          unfold stepB at e
          rw [hi] at e
          cases es : ρ.sl[i]? with
          | none =>
            rw [es] at e
            simp only [putS] at e
            rw [hi, es] at e; cases e
          | some s0 =>
            have k0 := R0.sl i s0 es
            have hlt : i < ρc.sl.length := by rw [hl]; exact (List.getElem?_eq_some_iff.mp es).1
            rw [es] at e
            cases s0 with
            | no => simp only [putS] at e; rw [hi, es] at e; cases e; exact trivial
            | hd p w m =>
              simp only [putS] at e; rw [hi, es] at e; cases e
              obtain ⟨e1, e2, q⟩ := k0
              exact ⟨e1, e2, q.mono LB fun a q => ownB_other L labIx_h q⟩
            | lo m =>
              obtain ⟨w, e1, q⟩ := k0
              rw [hs] at e1; cases e1
              by_cases hm : m.own = true
              · simp only [putS, hm, if_true] at e
                rw [List.getElem?_set_self hlt] at e
                cases e
                split
                · rename_i m' ef
                  split
                  · rename_i hfit; exact ⟨v0, hs, fin1 m' ef hfit⟩
                  · exact trivial
                · exact trivial
              · simp only [putS, hm, Bool.false_eq_true, if_false] at e
                rw [hi, es] at e; cases e
                exact ⟨v0, hs, nown m hm q⟩
            | pa m =>
              obtain ⟨w, e1, e2, q⟩ := k0
              rw [hs] at e1; cases e1
              by_cases hm : m.own = true
              · simp only [putS, hm, if_true] at e
                rw [List.getElem?_set_self hlt] at e
                cases e
                split
                · rename_i m' ef
                  split
                  · rename_i hfit; exact ⟨v0, hs, e2, fin1 m' ef hfit⟩
                  · exact trivial
                · exact trivial
              · simp only [putS, hm, Bool.false_eq_true, if_false] at e
                rw [hi, es] at e; cases e
                exact ⟨v0, hs, e2, nown m hm q⟩
        · have q := (hP j).2 (by simp only [slots, List.mem_cons, not_or]; exact ⟨fun z => ne z.symm, hj⟩) s
          unfold stepB at e
          split at e
          · rw [List.getElem?_set_ne ne] at e; exact q e
          · exact q e
section
variable {F : TF} {n k : Nat} {f : Addr} {fd : FuncData} {ps : List Str} {x : Str} {p : Pos} {ta : TL}
theorem callB_ok {ms : List M} {fin : List (Option M)} {vs : List V} {rs : List R} {o2 : Own} {H2 : Hp} {W' : Sto} (R1 : Rep K c o σ H ρ τ1) (z1 : RelRs K o H σ vs rs τ τ1) (em : argMs ρ rs = some ms) (nd : (slots rs).Nodup) (L2 : Le (ownC rs τ.length o) H o2 H2) (A2 : Aft K o2 H2 W')
    (fo : FinOk K o2 H2 vs fin) : Rep K c (ownB rs τ.length o o2) σ H2 ((putB rs fin ρ).put W') τ := by
  have LB : Le o H (ownB rs τ.length o o2) H2 := ownB_le L2
  obtain ⟨b1, b2⟩ := back_ok (rsA := rs) (n := τ.length) (oc := o2) R1 L2 (k := 0) (fs := fin) (ρc := ρ) z1 nd (fun j r e => by rw [Nat.zero_add]; exact e) (fun j v m e1 e2 => by rw [Nat.zero_add]; exact fo j v m e1 e2) rfl
    fun j => ⟨fun _ => rfl, fun hj s e => (R1.sl j s e).mono LB (fun a q => ownB_other L2 (labIx_s hj) q) fun a q => ownB_other L2 labIx_h q⟩
  obtain ⟨tt, htt⟩ := z1.pre
  refine ⟨b2, fun j w m' e => ?_, ownB_mu A2.mu, R1.le.trans LB, by rw [b1]; exact R1.ln, ownB_st L2 A2.st⟩
  have hj : j < τ.length := (List.getElem?_eq_some_iff.mp e).1
  have q := R1.tm j w m' (by rw [← htt, List.getElem?_append_left hj]; exact e)
  exact ⟨q.1.mono LB fun a z => ownB_other L2 (labIx_lt hj) z, q.2⟩
/-- what the callee sees -/
theorem callA_ok {ms : List M} {vs : List V} {rs : List R} (R1 : Rep K c o σ H ρ τ1) (z1 : RelRs K o H σ vs rs τ τ1) (em : argMs ρ rs = some ms) (nd : (slots rs).Nodup) : ArgsOk K (ownC rs τ.length o) H vs ms ρ.st := by
  have A := args_ok (rsA := rs) (n := τ.length) R1 (k := 0) z1 List.prefix_rfl em nd (fun l _ => rfl)
  exact ⟨by rw [argMs_length em, z1.length], fun i v m e1 e2 => by have := A i v m e1 e2; rwa [Nat.zero_add] at this, ownC_mu R1.mu, R1.st.mono ownC_le ownC_ks⟩
/-- the result stands in hand -/
theorem callR_ok {vs : List V} {rs : List R} {o2 : Own} {H2 : Hp} {v : V} {m : M} {ρ' : Env} {kk : VK} {Q : R → Env → Prop} (RB : Rep K c (ownB rs τ.length o o2) σ H2 ρ' τ) (im : IsM K o2 H2 (.t 0) v m) (hfit : m.fit = true) (hG : Q m.res ρ')
    (q : ∀ o' r τ', o' = ownB rs τ.length o o2 → Rep K c o' σ H2 ρ' τ' → RelR K o' H2 σ v r τ τ' → Q r ρ' → kk v H2) : kk v H2 := by
  have io : IsM K (ownB rs τ.length o o2) H2 (.t τ.length) v m := im.monoK ownB_keep (fun a z => ⟨by unfold ownB; rw [z]; rfl, rfl⟩) hfit
  have own : m.own = true → m.res = .tm m → kk v H2 := fun e1 e2 => by
    rw [e2] at hG
    refine q _ (.tm m) (τ ++ [(v, m)]) rfl ⟨RB.sl, fun j w m' e => ?_, RB.mu, RB.le, RB.ln, RB.st⟩ rfl hG
    by_cases hj : j < τ.length
    · rw [List.getElem?_append_left hj] at e; exact RB.tm j w m' e
    · rw [List.getElem?_append_right (by omega)] at e
      have e0 : j - τ.length = 0 := by
        cases y : j - τ.length with
        | zero => rfl
        | succ y' => rw [y] at e; simp at e
      rw [e0] at e
      have e3 : j = τ.length := by omega
      subst e3
      simp at e
      obtain ⟨rfl, rfl⟩ := e
      exact ⟨io, e1⟩
  cases m with
  | im d => exact q _ (.im d) τ rfl RB ⟨rfl, io⟩ hG
  | sq ds => cases hfit
  | ls ds => exact own rfl rfl
  | rd ds => exact own rfl rfl
  | dk ds => exact own rfl rfl
  | dt ds => exact own rfl rfl
theorem fin_nil {vs : List V} : FinOk K o H vs [] := fun i v m _ e => by simp at e
theorem tCall_of {ex : EX} {E : XK} {kk : VK} (hE : ∀ (x : Xc) d H' o' ρ', Rep K c o' σ H' ρ' [] → IsXd K o' H' d x.2 → ex x ρ' → E x.1 d H') (h : TEo K c (tCall ex F n ta) σ H kk) : L2.tCall (spD K F n) [] E (TAo K c ta) σ H kk := by
  obtain ⟨o, ρ, τ, Q, R0, h, q⟩ := h
  refine ⟨o, ρ, τ, _, R0, h, fun vs H1 o1 rs ρ1 τ1 L1 R1 z1 h1 => ?_⟩
  show spD K F n (vs ++ []) H1 kk E
  rw [List.append_nil]
  split at h1
  · rename_i ms em
    obtain ⟨hn, nd, hF⟩ := h1
    refine ⟨ownC rs τ.length o1, ms, ρ1.st, _, _, z1.length.trans hn, callA_ok R1 z1 em nd, hF, fun v H2 o2 m fin W' L2 A2 im fo hG => ?_, fun x d H2 o2 W' L2 A2 hx hG => ?_⟩
    · obtain ⟨hfit, hG⟩ := hG
      exact callR_ok (vs := vs) (callB_ok R1 z1 em nd L2 A2 fo) im hfit hG fun o' r τ' e R' z' hq => q v H2 o' r _ τ' (L1.trans (by rw [e]; exact ownB_le L2)) R' z' hq
    · refine hE x d H2 _ _ (callB_ok R1 z1 em nd L2 A2 fin_nil).forget ?_ hG
      cases d with
      | none => exact hx
      | some d =>
        obtain ⟨hx1, ws, hx2, hx3⟩ := hx
        exact ⟨(ownB_keep.k d _ hx1 hx2).1, ws, hx2, Kvs.monoK ownB_keep hx3⟩
  · exact h1.elim
theorem de_call (G : FnOk X.prog X.w X.K X.mg X.base CX0 k f fd ps (spD X.K F n)) (hr : Room k X.A) (hg : Gl X x) (hm : X.mg x = some (.ref f)) (hk : PySem.W.keepIn X.K (.ref f) = true) (hb : Binds X.K fd ps [])
    (ha : DA X c (e :: es) ta) (hdb : (x == ("__debug__" : Str)) = false := by decide) (he : starEach (e :: es) X.env = (false, eval e X.env) :: starEach es X.env := by rfl) (hpl : (backTo pos (starEach es X.env)).any (·.1) = false := by rfl) :
    DE X c (.Call (.Name x p) (e :: es) [] pos) (tCall ex0 F n ta) := peImp (pe_call (E := E0) G hr hg hm hk hb .nil pass0 ha hdb he hpl) fun σ H k h => tCall_of (fun _ _ _ _ _ _ _ z => z.elim) h
end

/-! ### a def, by its body -/
def Sl.fin : Sl → Option M
  | .pa m => some m
  | .hd true _ m => some m
  | _ => none
def fins (n : Nat) (ρ : Env) : List (Option M) := (ρ.sl.take n).map Sl.fin
def envOf (N n : Nat) (ms : List M) (W : Sto) : Env := ⟨ms.map Sl.pa ++ List.replicate (N - n) .no, W⟩
def unH (o : Own) : Own := fun a => match o a with
  | some (.h i) => some (.s i)
  | l => l
theorem unH_le : Le o H (unH o) H := Le.mk' (fun b u e f => ⟨by unfold unH; rw [e], f⟩) (fun b e => ⟨by unfold unH; rw [e], rfl⟩) fun b _ e => ⟨(by unfold unH; rw [e]), rfl⟩
theorem unH_ks : Ks o H (unH o) H := ⟨fun b q _ e => ⟨by unfold unH; rw [e], rfl⟩, fun b q e => by
  unfold unH at e
  split at e
  · cases e
  · exact e⟩
theorem rep_start {vs : List V} {ms : List M} {N : List Str} {W : Sto} (h : ArgsOk K o H vs ms W) : Rep K ⟨o, H, vs⟩ o (L2.start N vs) H (envOf N.length vs.length ms W) [] := by
  refine ⟨fun i s e => ?_, fun j v m e => by simp at e, h.mu, .refl, by unfold envOf L2.start; simp [h.len], h.st⟩
  have e : (ms.map Sl.pa ++ List.replicate (N.length - vs.length) Sl.no)[i]? = some s := e
  by_cases hi : i < ms.length
  · rw [List.getElem?_append_left (by simpa using hi), List.getElem?_map, List.getElem?_eq_getElem hi] at e
    cases e
    have hv : i < vs.length := by rw [h.len]; exact hi
    refine ⟨vs[i], ?_, List.getElem?_eq_getElem hv, h.at_ i _ _ (List.getElem?_eq_getElem hv) (List.getElem?_eq_getElem hi)⟩
    unfold L2.start
    rw [List.getElem?_append_left (by simpa using hv), List.getElem?_map, List.getElem?_eq_getElem hv]; rfl
  · rw [List.getElem?_append_right (by simpa using hi), List.getElem?_replicate] at e
    split at e
    · cases e; exact trivial
    · cases e
theorem fins_ok {vs : List V} {oo : Own} {H0 : Hp} (R0 : Rep K ⟨oo, H0, vs⟩ o σ H ρ []) (n : Nat) : FinOk K (unH o) H vs (fins n ρ) := fun i v m e1 e2 => by
  unfold fins at e2
  rw [List.getElem?_map, List.getElem?_take] at e2
  split at e2
  · cases es : ρ.sl[i]? with
    | none => rw [es] at e2; cases e2
    | some s =>
      rw [es] at e2
      have k := R0.sl i s es
      cases s with
      | no => cases e2
      | lo m => cases e2
      | pa m' =>
        cases e2
        obtain ⟨w, _, e3, q⟩ := k
        rw [e1] at e3; cases e3
        exact q.mono unH_le fun a z => ⟨by unfold unH; rw [z], rfl⟩
      | hd p w m' =>
        cases p with
        | false => cases e2
        | true =>
          cases e2
          obtain ⟨_, e3, q⟩ := k
          have e3 := e3 rfl
          rw [e1] at e3; cases e3
          exact q.mono unH_le fun a z => ⟨by unfold unH; rw [z], rfl⟩
  · cases e2
theorem unH_mu (mu : ∀ a l, o a = some l → Mt (H a)) : ∀ a l, unH o a = some l → Mt (H a) := fun a l e => by
  unfold unH at e
  split at e
  · exact mu a _ (by assumption)
  · exact mu a _ e
/-- what the body is to do -/
def endB (n : Nat) (G : GN) : EndP := { nx := fun ρ => G (.im .non) (fins n ρ) ρ.st, rt := fun m ρ => G m (fins n ρ) ρ.st }
def exB (Gx : GX) : EX := fun x ρ => Gx x ρ.st
def Body (F : TF) (N n : Nat) (T : EX → TSX) : Prop := ∀ ms W G Gx, ms.length = n → F ms W G Gx → T (exB Gx) (endB n G) (envOf N n ms W)
theorem body_ways {vs : List V} {o0 : Own} {H0 : Hp} {n : Nat} {G : GN} {Q : VK} (q : ∀ v H' o' m fin W', Le o0 H0 o' H' → Aft K o' H' W' → IsM K o' H' (.t 0) v m → FinOk K o' H' vs fin → G m fin W' → Q v H') :
    Ways K ⟨o0, H0, vs⟩ o0 H0 (endB n G) { nx := fun _ H' => Q .non H', rt := Q } :=
  ⟨fun σ' H' o' ρ' L R hG => q .non H' (unH o') (.im .non) _ _ (L.trans unH_le) ⟨unH_mu R.mu, R.st.mono unH_le unH_ks⟩ .non (fins_ok R _) hG,
   fun v σ' H' o' ρ' m L R im hG => q v H' (unH o') m _ _ (L.trans unH_le) ⟨unH_mu R.mu, R.st.mono unH_le unH_ks⟩ (im.mono unH_le fun a z => ⟨by unfold unH; rw [z], rfl⟩) (fins_ok R _) hG,
   fun _ _ _ _ _ _ z => z.elim, fun _ _ _ _ _ _ z => z.elim⟩
theorem fn_ok {Pg : Program} {w : World} {mg : Str → Option Value} {base : Heap} {x qual : Str} {st : Stmt} {f : Addr} {fd : FuncData} {N ps : List Str} {k : Nat} {F : TF} {T : TSX} (Fu : Fun K x qual st f fd) (S : FnScope N ps (defScope st)) (hB : Body F N.length ps.length fun _ => T)
    (hbody : ∀ (cdv : Value) (A : Around) (outer : List PySem.Env) (s : Shared) (H : Hp) (E : XK) (c : Cc), Room k (A.deeper (PyProof.Rows.envOfC qual (defScope st) s.heap.objs.size f cdv)) → DSs (cxOf CX0 Pg w K mg base N qual (defScope st) f cdv A outer s H E).nox c (defBody st) T) :
    FnOk Pg w K mg base CX0 (k + 1) f fd ps (spD K F ps.length) := by
  refine Fu.ok S (fun vs H Q E h => h.choose_spec.choose_spec.choose_spec.choose_spec.choose_spec.1) fun cdv A outer s H vs Q E hr h => ?_
  obtain ⟨o, ms, W, G, Gx, hl, ha, hF, q, qx⟩ := h
  refine ⟨_, hbody cdv A outer s H E ⟨o, H, vs⟩ hr, ?_⟩
  have R0 : Rep K ⟨o, H, vs⟩ o (L2.start N vs) H (envOf N.length ps.length ms W) [] := by have := rep_start (N := N) ha; rw [hl] at this; exact this
  exact ⟨o, _, _, R0, hB ms W G Gx (by rw [← ha.len]; exact hl) hF, body_ways q⟩
end
end Y
namespace Y
open PySem PySem.Spec L2

/-! ### a def where the top has put it -/
structure DefAt (K : PySem.W.Frag) (mg : Str → Option Value) (name : Str) (st : Stmt) (ps : List Str) where
  f : Addr
  fd : FuncData
  fu : Fun K name name st f fd
  mg : mg name = some (.ref f)
  bd : Binds K fd ps []
def FnD (Pg : Program) (w : World) (K : PySem.W.Frag) (mg : Str → Option Value) (base : Heap) {name : Str} {st : Stmt} {ps : List Str} (D : DefAt K mg name st ps) (k : Nat) (F : TF) : Prop := FnOk Pg w K mg base CX0 k D.f D.fd ps (spD K F ps.length)
theorem FnD.mono {Pg : Program} {w : World} {K : PySem.W.Frag} {mg : Str → Option Value} {base : Heap} {name : Str} {st : Stmt} {ps : List Str} {D : DefAt K mg name st ps} {j k : Nat} {F : TF} (h : FnD Pg w K mg base D j F) (l : j ≤ k) : FnD Pg w K mg base D k F := FnOk.mono h l
/-- a weaker promise -/
theorem FnD.imp {Pg : Program} {w : World} {K : PySem.W.Frag} {mg : Str → Option Value} {base : Heap} {name : Str} {st : Stmt} {ps : List Str} {D : DefAt K mg name st ps} {k : Nat} {F F' : TF} (h : FnD Pg w K mg base D k F) (i : ∀ ms W G Gx, F' ms W G Gx → F ms W G Gx) : FnD Pg w K mg base D k F' :=
  FnOk.imp h fun vs H Q E ⟨o, ms, W, G, Gx, a, b, c, d⟩ => ⟨o, ms, W, G, Gx, a, b, i ms W G Gx c, d⟩
theorem hu1 {k : Nat} {A : Around} (r : Room k A) : A.units + 1 < cLine := by have := r.un; omega
theorem hu64 {k : Nat} {A : Around} (r : Room k A) : A.units + 64 < cLine := by have := r.un; omega
theorem hu65 {k : Nat} {A : Around} (r : Room k A) : A.units + 65 < cLine := by have := r.un; omega
theorem hu80 {k : Nat} {A : Around} (r : Room k A) : A.units + 80 < cLine := by have := r.un; omega

section
variable {K : PySem.W.Frag} {c : Cc} {o o' : Own} {σ σ' : St} {H H' : Hp} {ρ ρ' : Env} {τ τ' τ0 τ1 : List (V × M)} {X : Cx} {e a b : Expr} {es : List Expr} {pos : Pos} {t u : TX} {P : EndP} {D' : Ends}
/-! ### dicts made -/
def tNewK : TX := fun ρ Q => Q (.tm (.dk [])) ρ
def tNewT : TX := fun ρ Q => Q (.tm (.dt [])) ρ
theorem de_newK : DE X c (.Dict [] [] pos) tNewK := peImp pe_dnewK fun σ H k ⟨o, ρ, τ, Q, R0, h, q⟩ => fun p hp => by
  obtain ⟨o', τ', L, R', z⟩ := R0.made (m := .dk []) List.prefix_rfl (.new hp) ⟨p, [], rfl, hp, rfl, .nil⟩
  exact q _ _ o' _ ρ τ' L R' z h
theorem de_newT : DE X c (.Dict [] [] pos) tNewT := peImp pe_dnewT fun σ H k ⟨o, ρ, τ, Q, R0, h, q⟩ => fun p hp => by
  obtain ⟨o', τ', L, R', z⟩ := R0.made (m := .dt []) List.prefix_rfl (.new hp) ⟨p, [], rfl, hp, rfl, .nil⟩
  exact q _ _ o' _ ρ τ' L R' z h
/-- -e -/
def tNeg (t : TX) : TX := fun ρ Q => t ρ fun r ρ1 => match r with
  | .im (.int i) => Q (.im (.int (-i))) ρ1
  | _ => False
theorem de_neg (h : DE X c e t) : DE X c (.UnaryOp .USub e pos) (tNeg t) := peImp (pe_un un_neg h) fun σ H k h => by
  obtain ⟨o, ρ, τ, Q, R0, h, q⟩ := h
  refine ⟨o, ρ, τ, _, R0, h, fun v1 H1 o1 r1 ρ1 τ1 L1 R1 z1 h1 => ?_⟩
  split at h1
  · obtain ⟨rfl, z⟩ := z1
    cases z
    exact ⟨_, rfl, q _ H1 o1 (.im _) ρ1 _ L1 R1 ⟨rfl, .int _⟩ h1⟩
  · exact h1.elim
/-- dict(d) of a dict with keys ints and texts -/
def gDict : GC := fun ms G => match ms with
  | [.dk kvs] => G (.dk kvs)
  | _ => False
theorem dict_ok : CallG X (.type "dict") gDict := by
  refine callG call_dictD fun vs H k h => ?_
  obtain ⟨o, ms, G, mu, v1, h, q⟩ := h
  unfold gDict at h
  split at h
  · obtain ⟨v, rfl, w1⟩ := pv1 v1
    obtain ⟨l, a, ks, rfl, _, ha, kv⟩ := w1
    exact ⟨a, ks, rfl, .inl ha, fun p hp => q _ _ (.dk _) (.new hp) ⟨p, ks, rfl, hp, rfl, kv⟩ h⟩
  · exact h.elim
/-! ### a, b = x, y -/
def sPar (i j : Nat) (ta : TL) : TSX := fun P ρ => tFrz ta (fun ds ρ1 => match ds with
  | [x, y] => P.nx ((ρ1.set i (.lo (.im x))).set j (.lo (.im y)))
  | _ => False) ρ
end
end Y
namespace Y
open PySem PySem.Spec L2

/-! ### sorted -/
noncomputable def sortD (ds : List D) : List D := ds.mergeSort (PySem.W.dataLe false D.py)
def CanSort (ds : List D) : Prop := PySem.W.AllAlike (ds.map D.py) ∧ PySem.W.Sortable (ds.map D.py) ∧ ∀ d ∈ ds, D.ok 64 d = true
def kD : Key → D
  | .inl i => .int i
  | .inr s => .str s
def gSorted : GC := fun ms G => match ms with
  | [.dt kvs] => CanSort (kvs.map fun p => .tup (p.1.map kD)) ∧ G (.ls (sortD (kvs.map fun p => .tup (p.1.map kD))))
  | [.dk kvs] => CanSort (kvs.map fun p => kD p.1) ∧ G (.ls (sortD (kvs.map fun p => kD p.1)))
  | [m] => match m.lq? with
    | some ds => CanSort ds ∧ G (.ls (sortD ds))
    | none => False
  | _ => False
section
variable {X : Cx} {pins : List (Addr × Obj)} {σ : St} {H H' : Hp} {s : Shared} {K : PySem.W.Frag} {o : Own}
theorem Dats.all_dp {xs : List V} {ds : List D} (h : Dats K o H xs ds) (k : ∀ d ∈ ds, D.ok 64 d = true) : ∀ p ∈ xs.zip ds, Dat K o H p.1 p.2 ∧ Dp K H p.1 p.2.py := by
  induction xs generalizing ds with
  | nil => intro p hp; simp at hp
  | cons x xs ih =>
    cases h with
    | cons a t =>
      intro p hp
      rcases List.mem_cons.mp hp with rfl | hp
      · exact ⟨a, a.dp (k _ List.mem_cons_self)⟩
      · exact ih t (fun d hd => k d (List.mem_cons_of_mem _ hd)) p hp
theorem Dats.of_zip : ∀ {zs : List (V × D)}, (∀ p ∈ zs, Dat K o H p.1 p.2) → Dats K o H (zs.map (·.1)) (zs.map (·.2))
  | [], _ => .nil
  | z :: zs, h => .cons (h z List.mem_cons_self) (Dats.of_zip fun p hp => h p (List.mem_cons_of_mem _ hp))
theorem each_zip {R : Value → V × D → Prop} : ∀ {xs : List V} {us : List Value} {ds : List D}, Vals xs us → xs.length = ds.length → (∀ p ∈ xs.zip ds, ∀ u, RelV p.1 u → R u p) → PySem.W.EachIs R us (xs.zip ds)
  | _, _, [], .nil, _, _ => .nil
  | _, _, d :: ds, .cons r t, hl, h => .cons (h _ (by simp) _ r) (each_zip t (by simpa using hl) fun p hp => h p (by simp [hp]))
theorem each_vals {R : Value → V × D → Prop} (f : ∀ u p, R u p → RelV p.1 u) : ∀ {us : List Value} {zs : List (V × D)}, PySem.W.EachIs R us zs → Vals (zs.map (·.1)) us
  | _, _, .nil => .nil
  | _, _, .cons r t => .cons (f _ _ r) (each_vals f t)
/-- what stands behind the sort -/
theorem sort_fin {xs : List V} {ds : List D} (hl : xs.length = ds.length) (out : List Value) (e : PySem.W.EachIs (fun u p => RelV p.1 u ∧ p ∈ xs.zip ds) out ((xs.zip ds).mergeSort (PySem.W.dataLe false fun p => p.2.py))) (dd : ∀ p ∈ xs.zip ds, Dat K o H p.1 p.2) :
    ∃ ys, Vals ys out ∧ ys.length = ds.length ∧ Dats K o H ys (sortD ds) := by
  refine ⟨_, each_vals (fun u p h => h.1) e, ?_, ?_⟩
  · rw [List.length_map, List.length_mergeSort, List.length_zip, hl, Nat.min_self]
  · have q : sortD ds = ((xs.zip ds).mergeSort (PySem.W.dataLe false fun p => p.2.py)).map (·.2) := by
      unfold sortD
      rw [PySem.W.sort_maps (r := PySem.W.dataLe false fun p : V × D => p.2.py) (s := PySem.W.dataLe false D.py) (f := fun p : V × D => p.2) (l := xs.zip ds) (fun _ _ _ _ => rfl)]
      congr 1
      exact (List.map_snd_zip (by omega)).symm
    rw [q]
    exact Dats.of_zip fun p hp => dd p (List.mem_mergeSort.mp hp)
theorem zip_py {xs : List V} {ds : List D} (hl : xs.length = ds.length) : (xs.zip ds).map (fun p => p.2.py) = ds.map D.py := by
  have e : (xs.zip ds).map (fun p => p.2.py) = ((xs.zip ds).map Prod.snd).map D.py := by rw [List.map_map]; rfl
  rw [e, List.map_snd_zip (by omega)]
theorem sorted_list (hu : X.A.units + 80 < cLine) : CallR X (.builtin "sorted") (fun vs H k => ∃ a xs ds o, vs = [.ref a] ∧ SqL X.K H a xs ∧ Dats X.K o H xs ds ∧ CanSort ds ∧
    ∀ p ys, H p = none → ys.length = ds.length → Dats X.K o H ys (sortD ds) → k (.ref p) (upd H p (.lst ys))) := by
  intro pins s σ H vs us Q I r h
  obtain ⟨a, xs, ds, o, rfl, hs, hd, ⟨c1, c2, c3⟩, q⟩ := h
  obtain ⟨its, rv, hl, hz⟩ := I.list hs
  rw [Vals.ref1 r]
  have dp := hd.all_dp c3
  have er : PySem.W.EachIs (fun v (b : V × D) => ∃ as, Reads s.heap v b.2.py as) its (xs.zip ds) := each_zip rv hd.length fun p hp u ru => (Dp.reads I _ _ _ (dp p hp).2 ru)
  have e : PySem.W.EachIs (fun u (p : V × D) => RelV p.1 u ∧ p ∈ xs.zip ds) its (xs.zip ds) := each_zip rv hd.length fun p hp u ru => ⟨ru, hp⟩
  have hlz : (xs.zip ds).length = ds.length := by rw [List.length_zip, hd.length, Nat.min_self]
  refine PySem.W.sorted_data (enc := fun p : V × D => p.2.py) hl.isList e er (by rw [zip_py hd.length]; exact c1) (by rw [zip_py hd.length]; exact c2) (by rw [hlz, ← hd.length]; exact hz) (fun b hb => ?_) fun out ho eo => ?_
  · have := (D.ok_lay 64 b.2 (c3 b.2 (List.of_mem_zip hb).2)).2
    omega
  · obtain ⟨ys, hv, hly, hdy⟩ := sort_fin hd.length out eo fun p hp => (dp p hp).1
    obtain ⟨ep, he'⟩ := PyProof.Rows.sortedAll_at s.heap its out.toArray
    refine ⟨.ref _, upd H (s.heap.objs.size + 1) (.lst ys), I.laid (t' := s.toks) (fun _ _ => PyProof.Rows.sortedAll_old) (Nat.le_succ _) ⟨by rw [hly, ← hd.length]; exact hz, out, ep, hv, he'⟩, rfl, q _ ys (I.hok.fresh (Nat.le_succ _)) hly hdy⟩
/-- sorted(d), by the keys that a walk over d gives -/
theorem sorted_src {T : String} {r d : Addr} {n : Nat} {P : Nat → Value → Prop} {OK : Heap → Prop} {xs : List V} {ds : List D} {Q : Value → Shared → Prop} {E : Value → Shared → Prop} (S : PySem.W.KdlSrc X.prog X.w T r d n P OK) (hc : X.calm = true) (hu : X.A.units + 80 < cLine) (I : Inv X pins σ H s) (hok : OK s.heap) (hn : n ≤ sizeLine) (hnd : ds.length = n) (hd : Dats X.K o H xs ds) (cs : CanSort ds)
    (hi : ∀ acc : Array Value, PySem.ItemsOf P acc n → Vals xs acc.toList)
    (q : ∀ p ys s', H p = none → ys.length = ds.length → Dats X.K o H ys (sortD ds) → Inv X pins σ (upd H p (.lst ys)) s' → Q (.ref p) s') :
    wpAny (model X.prog X.w) X.A (call (.builtin "sorted") [.ref r]) Q E s := by
  obtain ⟨c1, c2, c3⟩ := cs
  refine Calls.call_function_entry PyProof.Rows.kind_sorted PyProof.Rows.plain_sorted PyProof.Rows.entry_sorted (PyProof.Rows.args_sorted1 _) ?_
  unfold Builtin.«sorted»
  refine wpAny_bind (m := checkCount "sorted" 1 1 _) (wpAny_pure ?_)
  refine wpAny_bind (PySem.W.kdu_collect (A := X.A.in1) S (I.ok.hd hc) hok hn fun h' tk acc hk hacc => ?_)
  have rv := hi acc hacc
  have I1 : Inv X pins σ H { s with heap := h', toks := tk } := I.kept hk
  have dp := hd.all_dp c3
  have hlz : (xs.zip ds).length = ds.length := by rw [List.length_zip, hd.length, Nat.min_self]
  have hal : acc.toList.length = ds.length := by rw [← rv.length, hd.length]
  refine wpAny_bind (wpAny_newList ?_ (by rw [hal, hnd]; exact hn))
  have hoL : (h'.push (PyProof.Rows.seqObj "list" acc.toList.toArray 0)).get? h'.objs.size = some (PyProof.Rows.seqObj "list" acc.toList.toArray 0) := Heap.get?_push_size _ rfl
  show wpAny _ _ _ _ _ { s with heap := h'.push (PyProof.Rows.seqObj "list" acc.toList.toArray 0), toks := tk }
  have er : PySem.W.EachIs (fun v (b : V × D) => ∃ as, Reads (h'.push (PyProof.Rows.seqObj "list" acc.toList.toArray 0)) v b.2.py as ∧ h'.objs.size ∉ as) acc.toList (xs.zip ds) := each_zip rv hd.length fun p hp u ru => by
    obtain ⟨as, ra⟩ := Dp.reads I1 _ _ _ (dp p hp).2 ru
    refine ⟨as, PyProof.Rows.Reads.keeps (fun b u e => Heap.get?_push_of_some _ e) ra, fun hm => ?_⟩
    obtain ⟨u, hu⟩ := PyProof.On.reads_mem_get ra _ hm
    exact absurd (Heap.lt_size hu) (Nat.lt_irrefl _)
  have e : PySem.W.EachIs (fun u (p : V × D) => RelV p.1 u ∧ p ∈ xs.zip ds) acc.toList (xs.zip ds) := each_zip rv hd.length fun p hp u ru => ⟨ru, hp⟩
  refine wpAny_bind (wpAny_holding (PySem.W.list_sort_data (enc := fun p : V × D => p.2.py) (s := { s with heap := h'.push (PyProof.Rows.seqObj "list" acc.toList.toArray 0), toks := tk }) hoL e er (by rw [zip_py hd.length]; exact c1) (by rw [zip_py hd.length]; exact c2) (by rw [hlz, hnd]; exact hn) (fun b hb => ?_) fun out ho eo => ?_))
  · have := (D.ok_lay 64 b.2 (c3 b.2 (List.of_mem_zip hb).2)).2
    show X.A.in1.units + 1 + _ < _
    have h1 : X.A.in1.units = X.A.units + 1 := rfl
    omega
  · obtain ⟨ys, hv, hly, hdy⟩ := sort_fin hd.length out eo fun p hp => (dp p hp).1
    obtain ⟨e', he'⟩ := PyProof.Rows.sortedHeap_at (vs := acc.toList) (out := out.toArray) hoL
    refine wpAny_pure ⟨_, rfl, q h'.objs.size ys _ (I1.hok.fresh (Nat.le_refl _)) hly hdy (I1.laid (t' := tk) (fun b u e => ?_) (Nat.le_refl _)
      (show ObjOk X.prog X.w _ _ _ (.lst ys) from ⟨by rw [hly, hnd]; exact hn, out, e', hv, he'⟩))⟩
    have hb : b < h'.objs.size := Heap.lt_size e
    rw [PyProof.Rows.sortedHeap_old (Nat.ne_of_lt hb) (by show b < (h'.objs.push _).size; rw [Array.size_push]; exact Nat.lt_succ_of_lt hb)]
    exact Heap.get?_push_of_some _ e
/-- items that a walk has collected, told one by one -/
theorem items_of {P : Nat → Value → Prop} {xs : List V} {n : Nat} (hl : xs.length = n) (f : ∀ (k : Nat) (x : V) (u : Value), xs[k]? = some x → P k u → RelV x u) (acc : Array Value) (h : PySem.ItemsOf P acc n) : Vals xs acc.toList :=
  vals_of_at (by rw [hl, Array.length_toList]; exact h.1.symm) fun k x u hx hu => f k x u hx (h.2 k u (by simpa using hu))
theorem sorted_dk (hc : X.calm = true) (hu : X.A.units + 80 < cLine) : CallR X (.builtin "sorted") (fun vs H k => ∃ a kvs ds o, vs = [.ref a] ∧ H a = some (.dK kvs) ∧ Dats X.K o H (kvs.map fun p => kV p.1) ds ∧ CanSort ds ∧
    ∀ p ys, H p = none → ys.length = ds.length → Dats X.K o H ys (sortD ds) → k (.ref p) (upd H p (.lst ys))) := by
  rintro pins s σ H xs us Q I rel ⟨d, kvs, ds, o, rfl, hd, dats, cs, fin⟩
  obtain ⟨len, own, ent, pairs, obj⟩ := (show ObjOk X.prog X.w H s.heap d (.dK kvs) from I.hok d _ hd)
  obtain ⟨age, stands⟩ := obj.dictAt
  have same : kvs.length = ent.length := pairs.length
  rw [Vals.ref1 rel]
  refine sorted_src (PySem.W.kdl_dict (knd := mixKind X.prog X.w) (kvs := ent) (ep := age) own) hc hu I stands (same ▸ len) (by rw [← same, ← dats.length, List.length_map]) dats cs (items_of (by rw [List.length_map, same]) fun j x u hx hp => ?_) fun p ys s' hp hy dy I' => ⟨.ref p, _, I', rfl, fin p ys hp hy dy⟩
  obtain ⟨key, val, at_, is_⟩ := hp
  have kj : (kvs.map fun q => q.1)[j]? = some key := by
    rw [show (kvs.map fun q => q.1) = ent.map (·.1) from KV.keys pairs, List.getElem?_map, at_]
    rfl
  rw [List.getElem?_map] at hx kj
  obtain ⟨q, hq, rfl⟩ := Option.map_eq_some_iff.mp hx
  rw [hq] at kj
  have kj : q.1 = key := Option.some.inj kj
  rw [kj]
  exact keyIs_rel is_
theorem sorted_dt (hc : X.calm = true) (hu : X.A.units + 80 < cLine) : CallR X (.builtin "sorted") (fun vs H k => ∃ a kvs ds o, vs = [.ref a] ∧ H a = some (.dT kvs) ∧ (∀ bs, IsKeys H kvs bs → Dats X.K o H (bs.map V.ref) ds) ∧ CanSort ds ∧
    ∀ p ys, H p = none → ys.length = ds.length → Dats X.K o H ys (sortD ds) → k (.ref p) (upd H p (.lst ys))) := by
  rintro pins s σ H xs us Q I rel ⟨d, kvs, ds, o, rfl, hd, dats, cs, fin⟩
  obtain ⟨len, own, trip, pairs, ob, ents, age, at_, exact_, data, told, nod⟩ := (show ObjOk X.prog X.w H s.heap d (.dT kvs) from I.hok d _ hd)
  have dats := dats _ (isKeys_of pairs)
  have n1 : ents.size = trip.length := size_of_entries told
  have n2 : kvs.length = trip.length := pairs.length
  rw [Vals.ref1 rel]
  refine sorted_src (kdl_raw own exact_ data) hc hu I at_ (by rw [n1, ← n2]; exact len) (by rw [n1, ← dats.length, List.length_map, List.length_map]) dats cs (items_of (by rw [List.length_map, List.length_map, n1]) fun j x u hx hp => ?_) fun p ys s' hp hy dy I' => ⟨.ref p, _, I', rfl, fin p ys hp hy dy⟩
  obtain ⟨en, hen, rfl⟩ := hp
  rw [List.getElem?_map, List.getElem?_map] at hx
  have toldj := entry_at told j
  rw [hen] at toldj
  cases tj : trip[j]? with
  | none => rw [tj] at hx; simp at hx
  | some t =>
    rw [tj] at hx toldj
    have hx : some (V.ref t.2.1) = some x := hx
    cases hx
    have toldj : some en = some (entryOfKey (tupleKind (mixKind X.prog X.w)) t) := toldj
    cases toldj
    rfl
theorem dat_key {k : Key} : Dat K o H (kV k) (kD k) := by
  cases k with
  | inl i => exact .int i
  | inr s => exact .str s
theorem dats_key : ∀ {ks : List Key}, Dats K o H (ks.map kV) (ks.map kD)
  | [] => .nil
  | _ :: _ => .cons dat_key dats_key
theorem dats_keys {kvs : List (Key × V)} {kds : List (Key × D)} (h : Kvs K o H kvs kds) : Dats K o H (kvs.map fun p => kV p.1) (kds.map fun p => kD p.1) := by
  induction h with
  | nil => exact .nil
  | cons a t ih => refine .cons ?_ ih; show Dat K o H (kV _) (kD _); rw [a.1]; exact dat_key
theorem dats_tkeys (mu : ∀ a l, o a = some l → Mt (H a)) {kvs : List (List Key × V)} {kds : List (List Key × D)} (h : Kvs K o H kvs kds) : ∀ {bs : List Addr}, IsKeys H kvs bs → Dats K o H (bs.map V.ref) (kds.map fun p => .tup (p.1.map kD)) := by
  induction h with
  | nil => intro bs hb; cases hb; exact .nil
  | cons a t ih =>
    intro bs hb
    cases hb with
    | @cons _ b _ _ h1 h2 =>
      refine .cons (.tup (xs := _) ⟨?_, h1⟩ ?_) (ih h2)
      · cases e : o b with
        | none => rfl
        | some l => have := mu b l e; rw [h1] at this; exact this.elim
      · rw [a.1]; exact dats_key
theorem sorted_ok (hc : X.calm = true) (hu : X.A.units + 80 < cLine) : CallG X (.builtin "sorted") gSorted := by
  refine callG ((sorted_list hu).or ((sorted_dk hc hu).or (sorted_dt hc hu))) fun vs H k h => ?_
  obtain ⟨o, ms, G, mu, v1, h, q⟩ := h
  unfold gSorted at h
  split at h
  · obtain ⟨v, rfl, w1⟩ := pv1 v1
    obtain ⟨l, a, ks, rfl, _, ha, kv⟩ := w1
    exact .inr (.inr ⟨a, ks, _, o, rfl, ha, fun bs hb => dats_tkeys mu kv hb, h.1, fun p ys hp _ hd => q _ _ (.ls _) (.new hp) ⟨p, ys, rfl, hp, rfl, hd⟩ h.2⟩)
  · obtain ⟨v, rfl, w1⟩ := pv1 v1
    obtain ⟨l, a, ks, rfl, _, ha, kv⟩ := w1
    exact .inr (.inl ⟨a, ks, _, o, rfl, ha, dats_keys kv, h.1, fun p ys hp _ hd => q _ _ (.ls _) (.new hp) ⟨p, ys, rfl, hp, rfl, hd⟩ h.2⟩)
  · obtain ⟨v, rfl, w1⟩ := pv1 v1
    split at h
    · rename_i ds e
      obtain ⟨a, xs, rfl, ht, dd⟩ := w1.lq e
      exact .inl ⟨a, xs, ds, o, rfl, ht, dd, h.1, fun p ys hp _ hd => q _ _ (.ls _) (.new hp) ⟨p, ys, rfl, hp, rfl, hd⟩ h.2⟩
    · exact h.elim
  · exact h.elim
end
end Y
namespace Y
open PySem PySem.Spec L2

/-! ### == of dicts by what they hold -/
def eqKvs (ka kb : List (Key × D)) : Bool := ka.length == kb.length && ka.all fun p => match getK kb p.1 with
  | some e => D.eqv p.2 e
  | none => false
def gEqs2 (neg : Bool) : G2 := fun m n G => match m, n with
  | .dk ka, .dk kb => (∀ p ∈ ka, D.ok 62 p.2 = true) ∧ (∀ p ∈ kb, D.ok 62 p.2 = true) ∧ neg = false ∧ G (.im (.bl (eqKvs ka kb)))
  | m, n => gEqs neg m n G
section
variable {X : Cx} {pins : List (Addr × Obj)} {σ : St} {H H' : Hp} {s : Shared} {K : PySem.W.Frag} {o o' : Own} {c : Cc} {ρ ρ' : Env} {τ τ' τ0 τ1 : List (V × M)}
theorem dat_eqP (I : Inv X pins σ H s) {A : Around} (hu : A.units + 62 < cLine) {x y : V} {v u : Value} {d e : D} (hd : Dat X.K o H x d) (he : Dat X.K o H y e) (kd : D.ok 62 d = true) (ke : D.ok 62 e = true) (rx : RelV x v) (ry : RelV y u) : SeqAt.EqP X.prog X.w A s v u (D.eqv d e) := by
  obtain ⟨as, r1⟩ := Dp.reads I _ _ _ (hd.dp kd) rx
  obtain ⟨bs, r2⟩ := Dp.reads I _ _ _ (he.dp ke) ry
  have q1 := D.ok_lay 62 d kd
  have q2 := D.ok_lay 62 e ke
  exact (SeqAt.eqAt_reads _ _ A s _ _ _ _ r1 r2 q1.1 q2.1 (by have := Nat.min_le_left d.py.depth e.py.depth; omega)).eqP
theorem dat_hits (I : Inv X pins σ H s) {A : Around} (hu : A.units + 62 < cLine) {kb : List (Key × D)} {ls : List (Key × V)} {vb : List (Key × Value)} (hb : Kvs X.K o H ls kb) (kbok : ∀ p ∈ kb, D.ok 62 p.2 = true) (rb : KV ls vb) {ka : List (Key × D)} {ks : List (Key × V)} {va : List (Key × Value)}
    (ha : Kvs X.K o H ks ka) (kaok : ∀ p ∈ ka, D.ok 62 p.2 = true) (ra : KV ks va) : PySem.W.KeqHitsP X.prog X.w A s vb va (ka.all fun p => match getK kb p.1 with
      | some e => D.eqv p.2 e
      | none => false) := by
  induction ha generalizing va with
  | nil => cases ra; exact .nil
  | @cons p q ps qs h t ih =>
    cases ra with
    | @cons _ r _ rs h2 t2 =>
      have ihh := ih (fun p' hp => kaok p' (List.mem_cons_of_mem _ hp)) t2
      have e1 : r.1 = p.1 := h2.1.symm
      have rr : RelO (valV ls p.1) (valueAt vb p.1) := rb.val p.1
      have rd : RelD X.K o H (valV ls p.1) (getK kb p.1) := hb.val p.1
      rw [List.all_cons]
      rw [← h.1]
      obtain ⟨rk, rv⟩ := r
      have e1' : rk = p.1 := e1
      subst e1'
      cases hk : getK kb p.1 with
      | none =>
        rw [hk] at rd
        have hv : valV ls p.1 = none := by
          cases z : valV ls p.1 with
          | none => rfl
          | some u => rw [z] at rd; exact rd.elim
        rw [hv] at rr
        have hn : valueAt vb p.1 = none := by
          cases z : valueAt vb p.1 with
          | none => rfl
          | some u => rw [z] at rr; exact absurd rr (by intro q; first | exact q.elim | cases q)
        exact .miss hn
      | some e =>
        rw [hk] at rd
        cases z : valV ls p.1 with
        | none => rw [z] at rd; exact rd.elim
        | some u =>
          rw [z] at rd rr
          obtain ⟨y, hy, ry⟩ := rr.some_of
          have hm : D.ok 62 e = true := by
            unfold getK at hk
            obtain ⟨kv, hf, rfl⟩ := Option.map_eq_some_iff.mp hk
            exact kbok kv (List.mem_of_find?_eq_some hf)
          exact .hit hy (dat_eqP I hu h.2 rd (kaok q List.mem_cons_self) hm h2.2 ry) ihh
theorem op_eqK (hu : X.A.units + 64 < cLine) : OpR X (compareOp .Eq) (fun x y H Q => ∃ a b ks ls ka kb o, x = .ref a ∧ y = .ref b ∧ H a = some (.dK ks) ∧ H b = some (.dK ls) ∧ Kvs X.K o H ks ka ∧ Kvs X.K o H ls kb ∧ (∀ p ∈ ka, D.ok 62 p.2 = true) ∧ (∀ p ∈ kb, D.ok 62 p.2 = true) ∧
    Q (.bl (eqKvs ka kb)) H) := by
  rintro pins s σ H _ _ _ _ Q I rx ry ⟨a, b, ks, ls, ka, kb, o, rfl, rfl, ha, hb, k1, k2, o1, o2, q⟩
  obtain rfl := rx
  obtain rfl := ry
  have da0 := I.hok a _ ha
  have db0 := I.hok b _ hb
  obtain ⟨_, ya, va, ra, da⟩ := da0
  obtain ⟨_, yb, vb, rb, db⟩ := db0
  refine PySem.W.rcP_dicts (knd := mixKind X.prog X.w) ya yb da db (by omega) (fun _ => dat_hits I (A := X.A.in1) (by show X.A.units + 1 + 62 < cLine; omega) k2 o2 rb k1 o1 ra) _ _ ?_
  refine ⟨.bl _, H, I, ?_, q⟩
  show _ = Value.bool _
  unfold eqKvs
  rw [show va.length = ka.length by rw [← ra.length, k1.length], show vb.length = kb.length by rw [← rb.length, k2.length]]
theorem eq2_ok (hu : X.A.units + 64 < cLine) : OpG X (compareOp .Eq) (gEqs2 false) := by
  rintro pins s σ H x y v u Q I rx ry ⟨o, m1, m2, G, mu, v1, v2, h, q⟩
  unfold gEqs2 at h
  split at h
  · obtain ⟨l1, a, ks, rfl, _, ha, kv⟩ := v1
    obtain ⟨l2, b, ls, rfl, _, hb, lv⟩ := v2
    exact op_eqK hu pins s σ H _ _ v u Q I rx ry ⟨a, b, ks, ls, _, _, o, rfl, rfl, ha, hb, kv, lv, h.1, h.2.1, qim q (.bl _) h.2.2.2⟩
  · exact eq_ok hu pins s σ H x y v u Q I rx ry ⟨o, m1, m2, G, mu, v1, v2, h, q⟩

/-! ### displays -/
/-- a temporary's object is changed -/
theorem Rep.mutT {a : Addr} {m0 : M} (R0 : Rep K c o σ H ρ (τ ++ [(.ref a, m0)])) {m : M} {u : HO} (ho : o a = some (.t τ.length)) (hu : Mt (some u)) (hm : m.own = true)
    (h : IsM K o (upd H a u) (.t τ.length) (.ref a) m) : Rep K c o σ (upd H a u) ρ (τ ++ [(.ref a, m)]) ∧ Le o H o (upd H a u) := by
  have ne : ∀ b l, o b = some l → l ≠ .t τ.length → b ≠ a := fun b l q z w => by subst w; rw [ho] at q; cases q; exact z rfl
  have L : Le o H o (upd H a u) := Le.mk' (fun b w q f => ⟨q, by rw [upd_ne (fun z => by subst z; rw [ho] at q; cases q)]; exact f⟩) (fun b q => ⟨q, upd_ne (ne b _ q (by intro z; cases z))⟩) fun b _ q => ⟨q, upd_ne (ne b _ q (by intro z; cases z))⟩
  have kp : ∀ l, l ≠ .t τ.length → ∀ b, o b = some l → o b = some l ∧ upd H a u b = H b := fun l z b q => ⟨q, upd_ne (ne b l q z)⟩
  refine ⟨⟨fun j s' q => (R0.sl j s' q).mono L (kp _ (by intro z; cases z)) (kp _ (by intro z; cases z)), fun j v m' q => ?_, fun b l q => ?_, R0.le.trans L, R0.ln, R0.st.mono L (Ks.upd fun q z => by rw [ho] at z; cases z)⟩, L⟩
  · by_cases hj : j < τ.length
    · rw [List.getElem?_append_left hj] at q
      have q' := R0.tm j v m' (by rw [List.getElem?_append_left hj]; exact q)
      exact ⟨q'.1.mono L (kp _ (by intro z; injection z with z; omega)), q'.2⟩
    · rw [List.getElem?_append_right (by omega)] at q
      have hz : j - τ.length = 0 := by
        cases w : j - τ.length with
        | zero => rfl
        | succ n => rw [w] at q; simp at q
      rw [hz] at q
      have e2 : j = τ.length := by omega
      subst e2
      simp at q
      obtain ⟨rfl, rfl⟩ := q
      exact ⟨h, hm⟩
  · by_cases z : b = a
    · subst z; rw [upd_same]; exact hu
    · rw [upd_ne z]; exact R0.mu b l q
def pairUp : List V → List (V × V)
  | x :: y :: r => (x, y) :: pairUp r
  | _ => []
structure DPs (X : Cx) (c : Cc) (pos : Pos) (keys : List (Option Expr)) (values : List Expr) (tl : TL) : Prop where
  ex : ∃ trs, PPs X pos keys values trs ∧ ∀ σ H Q, TAo X.K c tl σ H (fun vs H' => Q (pairUp vs) H') → tPairs trs σ H Q
theorem dps_nil {pos : Pos} : DPs X c pos [] [] lNil := ⟨[], pps_nil, fun σ H Q ⟨o, ρ, τ, Q', R0, h, q⟩ => q [] H o [] ρ τ .refl R0 .nil h⟩
theorem dps_cons {pos : Pos} {k v : Expr} {ks : List (Option Expr)} {vs : List Expr} {tk tv : TX} {tl : TL} (hk : DE X c k tk) (hv : DE X c v tv) (hr : DPs X c pos ks vs tl) : DPs X c pos (some k :: ks) (v :: vs) (lCons tk (lCons tv tl)) := by
  obtain ⟨trs, h1, h2⟩ := hr
  refine ⟨(TEo X.K c tk, TEo X.K c tv) :: trs, pps_cons hk hv h1, fun σ H Q ⟨o, ρ, τ, Q', R0, h, q⟩ => ?_⟩
  refine ⟨o, ρ, τ, _, R0, h, fun v1 H1 o1 r1 ρ1 τ1 L1 R1 z1 h1 => ⟨o1, ρ1, τ1, _, R1, h1, fun v2 H2 o2 r2 ρ2 τ2 L2 R2 z2 h2b => h2 _ _ _ ⟨o2, ρ2, τ2, _, R2, h2b, fun vs H3 o3 rs ρ3 τ3 L3 R3 z3 h3 => ?_⟩⟩⟩
  exact q (v1 :: v2 :: vs) H3 o3 _ ρ3 τ3 (L1.trans (L2.trans L3)) R3 (.cons (z1.mono (L2.trans L3)) (.cons (z2.mono L3) z3)) h3

def pairG {κ : Type} (f : D → Option κ) : List D → Option (List (κ × D))
  | [] => some []
  | k :: d :: r => match f k, pairG f r with
    | some k, some kvs => some ((k, d) :: kvs)
    | _, _ => none
  | _ => none
def D.tkey? : D → Option (List Key)
  | .tup ds => D.keys? ds
  | _ => none
def putAll {κ : Type} [DecidableEq κ] (kvs more : List (κ × D)) : List (κ × D) := more.foldl (fun acc kv => putD acc kv.1 kv.2) kvs
def tDspK (tl : TL) : TX := fun ρ Q => tFrz tl (fun ds ρ1 => match pairG D.key? ds with
  | some kvs => kvs.length ≤ 15 ∧ Q (.tm (.dk (putAll [] kvs))) ρ1
  | none => False) ρ
def tDspT (tl : TL) : TX := fun ρ Q => tFrz tl (fun ds ρ1 => match pairG D.tkey? ds with
  | some kvs => kvs.length ≤ 15 ∧ Q (.tm (.dt (putAll [] kvs))) ρ1
  | none => False) ρ
theorem frzN {f : List D → Env → Prop} {tl : TL} {k : List V → Hp → Prop} (R0 : Rep K c o σ H ρ τ) (h : tFrz tl f ρ)
    (q : ∀ vs H' o' ds ρ', Le o H o' H' → Rep K c o' σ H' ρ' τ → Dats K o' H' vs ds → f ds ρ' → k vs H') : TAo K c tl σ H k := by
  refine ⟨o, ρ, τ, _, R0, h, fun v H1 o1 r ρ1 τ1 L1 R1 z1 h1 => ?_⟩
  split at h1
  · rename_i ds ρ2 e
    have R2 := R1.drop z1.pre
    have els := z1.els (ρ0 := ρ1) (base := τ.length) (Nat.le_refl _) (fun j v m e => (R1.tm j v m e).1)
    obtain ⟨o', L, R3, dd⟩ := froz_ok R2 els e
    exact q v H1 o' _ ρ2 (L1.trans ((dropT_le _).trans L)) R3 dd h1
  · exact h1.elim
theorem Kvs.putAll {κ : Type} [DecidableEq κ] {ks ls : List (κ × V)} {kvs lvs : List (κ × D)} (h : Kvs K o H ks kvs) (g : Kvs K o H ls lvs) : Kvs K o H (ls.foldl (fun acc kv => putK acc kv.1 kv.2) ks) (Y.putAll kvs lvs) := by
  unfold Kvs at g
  induction g generalizing ks kvs with
  | nil => exact h
  | @cons p q ps qs a t ih =>
    have e : Kvs K o H (putK ks p.1 p.2) (putD kvs q.1 q.2) := by rw [← a.1]; exact h.put p.1 a.2
    exact ih e
theorem dspK_pairs : ∀ {vs : List V} {ds : List D} {kvs : List (Key × D)}, Dats K o H vs ds → pairG D.key? ds = some kvs → ∃ ks : List (Key × V), pairUp vs = ks.map (fun kv => (kV kv.1, kv.2)) ∧ Kvs K o H ks kvs ∧ ks.length = kvs.length
  | _, [], _, .nil, e => by simp [pairG] at e; subst e; exact ⟨[], rfl, .nil, rfl⟩
  | _, [_], _, .cons _ .nil, e => by simp [pairG] at e
  | _, k :: d :: r, _, .cons a (.cons b t), e => by
    unfold pairG at e
    split at e
    · rename_i k' kvs e1 e2
      cases e
      obtain ⟨ks, h1, h2, h3⟩ := dspK_pairs t e2
      refine ⟨(k', _) :: ks, ?_, .cons ⟨rfl, b⟩ h2, by simp [h3]⟩
      rw [a.key e1]
      simp only [pairUp, List.map_cons, h1]
    · cases e
theorem le_of_upd {p : Addr} {u w : HO} {o1 : Own} {H1 : Hp} (hp : H p = none) (mu : ∀ a l, o a = some l → Mt (H a)) (L : Le (fun b => if b = p then some (.t τ.length) else o b) (upd H p u) o1 H1) : Le o H o1 H1 := by
  have ne : ∀ b w, H b = some w → b ≠ p := fun b w e => ne_of_none e hp
  have neo : ∀ b l, o b = some l → b ≠ p := fun b l e => by obtain ⟨w, q⟩ := mut_some (mu b _ e); exact ne b w q
  have at_ : ∀ b l, o b = some l → (if b = p then some (Lb.t τ.length) else o b) = some l := fun b l e => by rw [if_neg (neo b l e)]; exact e
  exact Le.trans (.mk' (fun b w e f => ⟨by show (if b = p then _ else o b) = none; rw [if_neg (ne b w f)]; exact e, by rw [upd_ne (ne b w f)]; exact f⟩) (fun b e => ⟨at_ b _ e, upd_ne (neo b _ e)⟩) fun b _ e => ⟨(at_ b _ e), upd_ne (neo b _ e)⟩) L
section
variable {keys : List (Option Expr)} {values : List Expr} {pos : Pos} {tl : TL}
theorem de_dspK (h : DPs X c pos keys values tl) (hall : keys.all (·.isSome) = true := by rfl) (hl : keys.length = values.length := by rfl) (h0 : keys ≠ [] := by exact List.cons_ne_nil _ _) (h15 : keys.length ≤ 15 := by decide) : DE X c (.Dict keys values pos) (tDspK tl) := by
  obtain ⟨trs, h1, h2⟩ := h
  refine peImp (pe_disp h1 hall hl h0 h15) fun σ H k ⟨o, ρ, τ, Q, R0, h, q⟩ => fun p hp => ?_
  obtain ⟨R1, L1⟩ := R0.push (m := .dk []) (u := .dK []) hp trivial rfl ⟨p, [], rfl, by simp, upd_same, .nil⟩
  refine h2 _ _ _ (frzN R1 h fun vs H2 o2 ds ρ2 L2 R2 dd hf => ?_)
  split at hf
  · rename_i kvs e
    obtain ⟨ks, e1, kk, kl⟩ := dspK_pairs dd e
    obtain ⟨⟨a, xs, ea, ho, hH, hx⟩, _⟩ := R2.tm τ.length (.ref p) (.dk []) (by simp)
    cases ea
    cases hx
    refine ⟨hH, ks, e1, by rw [kl]; exact hf.1, ?_⟩
    have L3 : Le o2 H2 o2 (upd H2 p (.dK (mergeK [] ks))) := Le.mk' (fun b w q f => ⟨q, by rw [upd_ne (fun z => by subst z; rw [ho] at q; cases q)]; exact f⟩) (fun b q => ⟨q, upd_ne (fun z => by subst z; rw [ho] at q; cases q)⟩) fun b _ q => ⟨q, upd_ne (fun z => by subst z; rw [ho] at q; cases q)⟩
    obtain ⟨R3, L3⟩ := R2.mutT (m := .dk (putAll [] kvs)) (u := .dK (mergeK [] ks)) ho trivial rfl ⟨p, _, rfl, ho, upd_same, Kvs.mono L3 (Kvs.putAll .nil kk)⟩
    exact q _ _ o2 (.tm _) ρ2 _ (L1.trans (L2.trans L3)) R3 rfl hf.2
  · exact hf.elim

/-- {(..): v, ..}; the new dict stands empty while the pairs are made -/
def mergeT (kvs more : List (List Key × V)) : List (List Key × V) := more.foldl (fun acc kv => putK acc kv.1 kv.2) kvs
def tDispT (trs : List (TE × TE)) : TE := fun σ H Q => ∀ p, H p = none → tPairs trs σ (upd H p (.dT [])) fun ps H2 => H2 p = some (.dT []) ∧ ∃ kvs : List (List Key × V), Paired (fun (x : V × V) (y : List Key × V) => ∃ b, x = (V.ref b, y.2) ∧ H2 b = some (.tup (y.1.map kV))) ps kvs ∧ kvs.length ≤ 15 ∧
  Q (.ref p) (upd H2 p (.dT (mergeT [] kvs)))
theorem carriesT {P : Program} {w : World} {h : Heap} (ok : HOk P w H h) {ps : List (V × V)} {kvs : List (List Key × V)} (hp : Paired (fun (x : V × V) (y : List Key × V) => ∃ b, x = (V.ref b, y.2) ∧ H b = some (.tup (y.1.map kV))) ps kvs) : ∀ {ws : List (Value × Value)}, VV ps ws → ∃ rs, CarriesH (tupleKind (mixKind P w)) h ws rs ∧ KT H kvs rs := by
  induction hp with
  | nil => intro ws r; cases r; exact ⟨[], trivial, .nil⟩
  | @cons x y xs ys a t ih =>
    intro ws r
    cases r with
    | @cons _ w1 _ ws h1 h2 =>
      obtain ⟨rs, c1, c2⟩ := ih h2
      obtain ⟨b, rfl, hb⟩ := a
      obtain ⟨k1, k2⟩ := w1
      have e : k1 = Value.ref b := h1.1
      subst e
      exact ⟨(y.1, b, k2) :: rs, ⟨rfl, rfl, key_of ok hb, c1⟩, .cons ⟨rfl, hb, h1.2⟩ c2⟩
theorem KT.merge {kvs : List (List Key × V)} {xs : List (List Key × Addr × Value)} (r : KT H kvs xs) : ∀ {more : List (List Key × V)} {rs : List (List Key × Addr × Value)}, KT H more rs → KT H (mergeT kvs more) (storedAllH xs rs) := by
  intro more rs g
  induction g generalizing kvs xs with
  | nil => exact r
  | @cons p q ps qs a t ih =>
    have e : KT H (putK kvs p.1 p.2) (storedH xs q.1 q.2.1 q.2.2) := by rw [← a.1]; exact r.put p.1 a.2.1 a.2.2
    exact ih e
theorem length_mergeT (more : List (List Key × V)) : ∀ kvs : List (List Key × V), (mergeT kvs more).length ≤ kvs.length + more.length := by
  induction more with
  | nil => exact fun kvs => Nat.le_refl kvs.length
  | cons p r ih =>
    intro kvs
    refine Nat.le_trans (ih (putK kvs p.1 p.2)) ?_
    have := length_putK kvs p.1 p.2
    simp only [List.length_cons]; omega
/-- a dict with tuple keys is written anew -/
theorem dt_write {pins : List (Addr × Obj)} {σ : St} {s : Shared} {a : Addr} {k0 ks : List (List Key × V)} {rs : List (List Key × Addr × Value)} {h' : Heap} {tk : Tok} (I : Inv X pins σ H s) (e : H a = some (.dT k0))
    (hz : ks.length ≤ sizeLine) (rk : KT H ks rs) (hs : Heap.SameBut a s.heap h') (dd : h'.DictOfH (tupleKind (mixKind X.prog X.w)) a rs) : Inv X pins σ (upd H a (.dT ks)) { s with heap := h', toks := tk } := by
  have up : KT (upd H a (.dT ks)) ks rs := rk.keeps fun c ys z => (upd_ne fun w => by rw [w, e] at z; cases z).trans z
  obtain ⟨ob, es, ep, g1, g2, g3, g4, _, g5⟩ := dd
  exact d_write I (by rw [e]; trivial) hs ⟨ob, g1⟩ ⟨hz, (dt_of I.hok e).2.1, rs, up, ob, es, ep, g1, g2, g3, g4, g5⟩
theorem pe_dispT {trs : List (TE × TE)} (hu : X.A.units + 1 < cLine) (h : PPs X pos keys values trs) (hall : keys.all (·.isSome) = true) (hl : keys.length = values.length) (h0 : keys ≠ [])
    (h15 : keys.length ≤ 15) : PE X (.Dict keys values pos) (tDispT trs) := by
  constructor
  intro pins s σ H Q I q
  have I1 := I.laid (a := s.heap.objs.size) (o := .dT []) (h' := s.heap.push { cls := .type "dict", data := .dict #[] }) (t' := s.toks) (fun _ _ q => Heap.get?_push_of_some _ q) (Nat.le_refl _) (dt_empty s.heap I.big)
  have hpl := pairTrees_length keys values X.env pos hall hl
  have hne : pairTrees keys values X.env pos ≠ [] := fun he => h0 (List.length_eq_zero_iff.mp (by rw [← hpl, he]; rfl))
  rw [arm_eval_Dict, zip_pairTrees keys values X.env pos hall hl, dictDisplay_pairs _ hne (by omega)]
  refine wpAny_bind (wpAny_standAt (wpAny_bind (wpAny_subDictH (knd := tupleKind (mixKind X.prog X.w)) (by show X.A.units < cLine; omega) (by omega) (thn (h.run pins _ σ _ _ I1 (q _ (I.hok.fresh (Nat.le_refl _)))) ?_))))
  rintro ws s2 ⟨ps, H2, I2, rel, e, kvs, ep, lk, q2⟩
  obtain ⟨rs, cr, rk⟩ := carriesT I2.hok ep rel
  obtain ⟨_, _, _, r0, d0⟩ := dt_of I2.hok e
  cases r0
  refine ⟨rs, cr, d0, fun h' tk dd' hs => wpAny_pure ⟨.ref s.heap.objs.size, _, dt_write I2 e ?_ (KT.merge .nil rk) hs dd', rfl, q2⟩⟩
  have := length_mergeT kvs []
  rw [sizeLine_eq]; simp only [List.length_nil] at this; omega
theorem dspT_pairs : ∀ {vs : List V} {ds : List D} {kvs : List (List Key × D)}, Dats K o H vs ds → pairG D.tkey? ds = some kvs → ∃ ks : List (List Key × V), Paired (fun (x : V × V) (y : List Key × V) => ∃ b, x = (V.ref b, y.2) ∧ H b = some (.tup (y.1.map kV))) (pairUp vs) ks ∧ Kvs K o H ks kvs ∧ ks.length = kvs.length
  | _, [], _, .nil, e => by simp [pairG] at e; subst e; exact ⟨[], .nil, .nil, rfl⟩
  | _, [_], _, .cons _ .nil, e => by simp [pairG] at e
  | _, k :: d :: r, _, .cons a (.cons b t), e => by
    unfold pairG at e
    split at e
    · rename_i k' kvs e1 e2
      cases e
      obtain ⟨ks, h1, h2, h3⟩ := dspT_pairs t e2
      unfold D.tkey? at e1
      split at e1
      · cases a with
        | tup tt rr =>
          refine ⟨(k', _) :: ks, .cons ⟨_, rfl, ?_⟩ h1, .cons ⟨rfl, b⟩ h2, by simp [h3]⟩
          rw [← rr.keys e1]; exact tt.2
      · cases e1
    · cases e
theorem de_dspT (hu : X.A.units + 1 < cLine) (h : DPs X c pos keys values tl) (hall : keys.all (·.isSome) = true := by rfl) (hl : keys.length = values.length := by rfl) (h0 : keys ≠ [] := by exact List.cons_ne_nil _ _) (h15 : keys.length ≤ 15 := by decide) : DE X c (.Dict keys values pos) (tDspT tl) := by
  obtain ⟨trs, h1, h2⟩ := h
  refine peImp (pe_dispT hu h1 hall hl h0 h15) fun σ H k ⟨o, ρ, τ, Q, R0, h, q⟩ => fun p hp => ?_
  obtain ⟨R1, L1⟩ := R0.push (m := .dt []) (u := .dT []) hp trivial rfl ⟨p, [], rfl, by simp, upd_same, .nil⟩
  refine h2 _ _ _ (frzN R1 h fun vs H2 o2 ds ρ2 L2 R2 dd hf => ?_)
  split at hf
  · rename_i kvs e
    obtain ⟨ks, e1, kk, kl⟩ := dspT_pairs dd e
    obtain ⟨⟨a, xs, ea, ho, hH, hx⟩, _⟩ := R2.tm τ.length (.ref p) (.dt []) (by simp)
    cases ea
    cases hx
    refine ⟨hH, ks, e1, by rw [kl]; exact hf.1, ?_⟩
    have L3 : Le o2 H2 o2 (upd H2 p (.dT (mergeT [] ks))) := Le.mk' (fun b w q f => ⟨q, by rw [upd_ne (fun z => by subst z; rw [ho] at q; cases q)]; exact f⟩) (fun b q => ⟨q, upd_ne (fun z => by subst z; rw [ho] at q; cases q)⟩) fun b _ q => ⟨q, upd_ne (fun z => by subst z; rw [ho] at q; cases q)⟩
    obtain ⟨R3, L3⟩ := R2.mutT (m := .dt (putAll [] kvs)) (u := .dT (mergeT [] ks)) ho trivial rfl ⟨p, _, rfl, ho, upd_same, Kvs.mono L3 (Kvs.putAll .nil kk)⟩
    exact q _ _ o2 (.tm _) ρ2 _ (L1.trans (L2.trans L3)) R3 rfl hf.2
  · exact hf.elim
end
end
end Y
namespace Y
open PySem PySem.Spec L2
/-! ### the plain side: one statement at a time, what follows kept folded -/
theorem seq_step {t u : TSX} {P : EndP} {ρ : Env} (h : ∀ R, R = u P → t { P with nx := R } ρ) : sSeq t u P ρ := h _ rfl
theorem loop_step {b : Bd} {t : TSX} {gd : Env → Prop} {P : EndP} {d : D} {ds : List D} {ρ : Env} (g : gd ρ) (h : ∀ L, L = loopS b t gd P ds → bnd b d ρ fun ρ1 => t { P with nx := L, ct := L, bk := P.nx } ρ1) : loopS b t gd P (d :: ds) ρ := ⟨g, h _ rfl⟩
theorem while_step {q : TQ} {t : TSX} {P : EndP} {n : Nat} {ρ : Env} (h : ∀ L, L = whileS q t P n → q ρ fun b ρ1 => if b = true then t { P with nx := L, ct := L, bk := P.nx } ρ1 else P.nx ρ1) : whileS q t P (n + 1) ρ := h _ rfl
theorem comp_step {b : Bd} {tq : TQ} {te : TX} {vs : List Nat} {gd : Env → Prop} {k : List D → Env → Prop} {d : D} {ds acc : List D} {ρ : Env} (g : gd ρ) (h : ∀ L, L = compL b tq te vs gd k ds → bnd b d ρ fun ρ1 => tq ρ1 fun ok ρ2 =>
    if ok = true then tFrz (lCons te lNil) (fun xs ρ3 => match xs with
      | [x] => acc.length < sizeLine ∧ L (acc ++ [x]) (wipeE ρ3 vs)
      | _ => False) ρ2
    else L acc (wipeE ρ2 vs)) : compL b tq te vs gd k (d :: ds) acc ρ := ⟨g, h _ rfl⟩
/-! what a call leaves in a slot -/
theorem putS_lo_ls_ls {a : List D} {b : List D} : putS (some (.ls b)) (some (.lo (.ls a))) = some (.lo (.ls b)) := rfl
theorem putS_lo_ls_dk {a : List D} {b : List (Key × D)} : putS (some (.dk b)) (some (.lo (.ls a))) = some (.lo (.dk b)) := rfl
theorem putS_lo_ls_dt {a : List D} {b : List (List Key × D)} : putS (some (.dt b)) (some (.lo (.ls a))) = some (.lo (.dt b)) := rfl
theorem putS_lo_ls_no {a : List D} : putS none (some (.lo (.ls a))) = some .no := rfl
theorem putS_pa_ls_ls {a : List D} {b : List D} : putS (some (.ls b)) (some (.pa (.ls a))) = some (.pa (.ls b)) := rfl
theorem putS_pa_ls_dk {a : List D} {b : List (Key × D)} : putS (some (.dk b)) (some (.pa (.ls a))) = some (.pa (.dk b)) := rfl
theorem putS_pa_ls_dt {a : List D} {b : List (List Key × D)} : putS (some (.dt b)) (some (.pa (.ls a))) = some (.pa (.dt b)) := rfl
theorem putS_pa_ls_no {a : List D} : putS none (some (.pa (.ls a))) = some .no := rfl
theorem putS_lo_rd_ls {a : List D} {b : List D} : putS (some (.ls b)) (some (.lo (.rd a))) = some (.lo (.ls b)) := rfl
theorem putS_lo_rd_dk {a : List D} {b : List (Key × D)} : putS (some (.dk b)) (some (.lo (.rd a))) = some (.lo (.dk b)) := rfl
theorem putS_lo_rd_dt {a : List D} {b : List (List Key × D)} : putS (some (.dt b)) (some (.lo (.rd a))) = some (.lo (.dt b)) := rfl
theorem putS_lo_rd_no {a : List D} : putS none (some (.lo (.rd a))) = some .no := rfl
theorem putS_pa_rd_ls {a : List D} {b : List D} : putS (some (.ls b)) (some (.pa (.rd a))) = some (.pa (.ls b)) := rfl
theorem putS_pa_rd_dk {a : List D} {b : List (Key × D)} : putS (some (.dk b)) (some (.pa (.rd a))) = some (.pa (.dk b)) := rfl
theorem putS_pa_rd_dt {a : List D} {b : List (List Key × D)} : putS (some (.dt b)) (some (.pa (.rd a))) = some (.pa (.dt b)) := rfl
theorem putS_pa_rd_no {a : List D} : putS none (some (.pa (.rd a))) = some .no := rfl
theorem putS_lo_dk_ls {a : List (Key × D)} {b : List D} : putS (some (.ls b)) (some (.lo (.dk a))) = some (.lo (.ls b)) := rfl
theorem putS_lo_dk_dk {a : List (Key × D)} {b : List (Key × D)} : putS (some (.dk b)) (some (.lo (.dk a))) = some (.lo (.dk b)) := rfl
theorem putS_lo_dk_dt {a : List (Key × D)} {b : List (List Key × D)} : putS (some (.dt b)) (some (.lo (.dk a))) = some (.lo (.dt b)) := rfl
theorem putS_lo_dk_no {a : List (Key × D)} : putS none (some (.lo (.dk a))) = some .no := rfl
theorem putS_pa_dk_ls {a : List (Key × D)} {b : List D} : putS (some (.ls b)) (some (.pa (.dk a))) = some (.pa (.ls b)) := rfl
theorem putS_pa_dk_dk {a : List (Key × D)} {b : List (Key × D)} : putS (some (.dk b)) (some (.pa (.dk a))) = some (.pa (.dk b)) := rfl
theorem putS_pa_dk_dt {a : List (Key × D)} {b : List (List Key × D)} : putS (some (.dt b)) (some (.pa (.dk a))) = some (.pa (.dt b)) := rfl
theorem putS_pa_dk_no {a : List (Key × D)} : putS none (some (.pa (.dk a))) = some .no := rfl
theorem putS_lo_dt_ls {a : List (List Key × D)} {b : List D} : putS (some (.ls b)) (some (.lo (.dt a))) = some (.lo (.ls b)) := rfl
theorem putS_lo_dt_dk {a : List (List Key × D)} {b : List (Key × D)} : putS (some (.dk b)) (some (.lo (.dt a))) = some (.lo (.dk b)) := rfl
theorem putS_lo_dt_dt {a : List (List Key × D)} {b : List (List Key × D)} : putS (some (.dt b)) (some (.lo (.dt a))) = some (.lo (.dt b)) := rfl
theorem putS_lo_dt_no {a : List (List Key × D)} : putS none (some (.lo (.dt a))) = some .no := rfl
theorem putS_pa_dt_ls {a : List (List Key × D)} {b : List D} : putS (some (.ls b)) (some (.pa (.dt a))) = some (.pa (.ls b)) := rfl
theorem putS_pa_dt_dk {a : List (List Key × D)} {b : List (Key × D)} : putS (some (.dk b)) (some (.pa (.dt a))) = some (.pa (.dk b)) := rfl
theorem putS_pa_dt_dt {a : List (List Key × D)} {b : List (List Key × D)} : putS (some (.dt b)) (some (.pa (.dt a))) = some (.pa (.dt b)) := rfl
theorem putS_pa_dt_no {a : List (List Key × D)} : putS none (some (.pa (.dt a))) = some .no := rfl
theorem putS_lo_im {a : D} {f : Option M} : putS f (some (.lo (.im a))) = none := rfl
theorem putS_lo_sq {a : List D} {f : Option M} : putS f (some (.lo (.sq a))) = none := rfl
theorem putS_pa_im {a : D} {f : Option M} : putS f (some (.pa (.im a))) = none := rfl
theorem putS_pa_sq {a : List D} {f : Option M} : putS f (some (.pa (.sq a))) = none := rfl
theorem gRng_zero (lo : Int) : gRng lo 0 = [] := rfl
theorem gRng_succ (lo : Int) (n : Nat) : gRng lo (n + 1) = .int lo :: gRng (lo + 1) n := by
  unfold gRng
  rw [List.range_succ_eq_map, List.map_cons, List.map_map]
  congr 1
  · simp
  · apply List.map_congr_left; intro i _; simp; omega
/-- small factors -/
theorem log2_lt {i : Int} (k : Nat) (h1 : -(2 ^ k) < i) (h2 : i < 2 ^ k) (hk : 0 < k) : i.natAbs.log2 < k := by
  by_cases z : i.natAbs = 0
  · rw [z]; simpa using hk
  · rw [Nat.log2_lt z]
    have e : ((2 : Int) ^ k) = ((2 ^ k : Nat) : Int) := by norm_cast
    rw [e] at h1 h2
    omega
theorem cMul {i j : Int} (a : -(2 ^ 64) < i ∧ i < 2 ^ 64) (b : -(2 ^ 64) < j ∧ j < 2 ^ 64) : CMulW i j := by
  have h1 := log2_lt 64 a.1 a.2 (by decide)
  have h2 := log2_lt 64 b.1 b.2 (by decide)
  unfold CMulW; omega
theorem cDiv {i j : Int} (b : 0 < j ∧ j < 2 ^ 64) : CDivW i j := by
  have h2 := log2_lt (i := j) 64 (by omega) b.2 (by decide)
  exact ⟨b.1, by omega⟩
/-- an index that stands -/
theorem atI_ok {α : Type} {xs : List α} {i : Int} (h0 : 0 ≤ i) (h : i < xs.length) : ∃ x, atI xs i = some x ∧ xs[i.toNat]? = some x := by
  refine ⟨xs[i.toNat]'(by omega), ?_, List.getElem?_eq_getElem (by omega)⟩
  unfold atI ixN
  rw [if_pos h0, if_pos h]
  exact List.getElem?_eq_getElem (by omega)
theorem ixN_ok {n : Nat} {i : Int} (h0 : 0 ≤ i) (h : i < n) : ixN n i = some i.toNat := by unfold ixN; rw [if_pos h0, if_pos h]
theorem atI_map {α β : Type} (f : α → β) (xs : List α) (i : Int) : atI (xs.map f) i = (atI xs i).map f := by
  unfold atI
  rw [List.length_map]
  cases ixN xs.length i with
  | none => rfl
  | some j => exact List.getElem?_map

/-! ### comprehensions that leave the environment as it is -/
theorem comp_fix {α : Type} {b : Bd} {tq : TQ} {te : TX} {vs : List Nat} {gd : Env → Prop} {k : List D → Env → Prop} {ρ : Env} (g : α → D) (f : α → Option D) (hg : gd ρ) : ∀ (xs : List α) (acc : List D),
    (∀ x ∈ xs, ∀ (acc : List D) (L : List D → Env → Prop), acc.length < sizeLine → (match f x with
      | some y => L (acc ++ [y]) ρ
      | none => L acc ρ) → bnd b (g x) ρ fun ρ1 => tq ρ1 fun ok ρ2 => if ok = true then tFrz (lCons te lNil) (fun xs ρ3 => match xs with
        | [x] => acc.length < sizeLine ∧ L (acc ++ [x]) (wipeE ρ3 vs)
        | _ => False) ρ2 else L acc (wipeE ρ2 vs)) →
    acc.length + xs.length ≤ sizeLine → k (acc ++ xs.filterMap f) ρ → compL b tq te vs gd k (xs.map g) acc ρ := by
  intro xs
  induction xs with
  | nil => intro acc _ _ h; rw [List.filterMap_nil, List.append_nil] at h; exact ⟨hg, h⟩
  | cons x xs ih =>
    intro acc st hl h
    rw [List.length_cons] at hl
    refine ⟨hg, st x List.mem_cons_self acc _ (by omega) ?_⟩
    cases e : f x with
    | some y =>
      refine ih _ (fun z hz => st z (List.mem_cons_of_mem _ hz)) (by rw [List.length_append, List.length_singleton]; omega) ?_
      rw [List.filterMap_cons, e] at h
      rw [List.append_assoc]; exact h
    | none =>
      refine ih _ (fun z hz => st z (List.mem_cons_of_mem _ hz)) (by omega) ?_
      rw [List.filterMap_cons, e] at h
      exact h
end Y
namespace Y
open PySem PySem.Spec L2
/-! ### the law's def, called with a list of ints -/
def LawF (F : TF) : Prop := ∀ (ns : List Int) (G : GN) (Gx : GX), ns.length ≤ 63 → (∀ fin W, G (.im (.bl true)) fin W) → F [.sq (ns.map D.int)] [] G Gx
theorem st_nil {K : PySem.W.Frag} {H : Hp} : StOk K (fun _ => none) H [] := by
  refine ⟨?_, ?_, ?_⟩
  · intro n u e; simp at e
  · intro a b n e; cases e
  · intro a n e; cases e
theorem hsp_of {F : TF} (hF : LawF F) (K : PySem.W.Frag) (H : Hp) (a : Addr) (ns : List Int) (hl : ns.length ≤ 63) (_ : Only H) (hS : SqL K H a (ns.map V.int)) :
    spD K F 1 [.ref a] H (fun v _ => v = .bl true) fun _ _ _ => False := by
  refine ⟨fun _ => none, [.sq (ns.map D.int)], [], fun m _ _ => m = .im (.bl true), gx0, rfl, ⟨rfl, fun i v m e1 e2 => ?_, fun a l e => by (cases e), st_nil⟩, hF ns _ _ hl fun _ _ => rfl, fun v H' o' m fin _ _ _ i _ e => ?_, fun _ _ _ _ _ _ _ _ z => z.elim⟩
  · cases i with
    | zero =>
      cases e1; cases e2
      refine ⟨a, ns.map V.int, rfl, ?_, Dats.of_ints ns⟩
      rcases hS with h | h
      · exact .inl ⟨.inl rfl, h⟩
      · exact .inr h
    | succ i => simp at e1
  · subst e
    cases (show Dat K o' H' v (.bl true) from i)
    rfl
theorem walkY {l : PySem.W.OpenLaw} {q : Program} {loose : List Str} {XP : (Str → Option Value) → Heap → Prop} {YP : World → Heap → Prop} {d : DefRec} {K : Params → PySem.W.Frag} {F : TF} (hn : l.most = some 63) (hdf : d.params.defaults = [])
    (hF : LawF F)
    (hY : ∀ (w : World) (h : Heap), YP w h → (K w.params).In h)
    (Fk : ∀ (w : World) (mg : Str → Option Value) (fa : Addr) (h : Heap), (K w.params).In h → h.Ns mainGlobals mg → mg d.name = some (.ref fa) →
      ∃ fd : FuncData, (∀ (s : Shared) (u : Value), BindsTo s fd ⟨[u], []⟩ [("script", u)]) ∧ ∀ base : Heap, (K w.params).In base → base.Ns mainGlobals mg → FnOk l.prog w (K w.params) mg base CX0 65 fa fd ["script"] (spD (K w.params) F 1)) :
    PySem.W.WalkO q loose XP YP l.row.toRowW d [] (fun f vs => PySem.call f vs) :=
  L2.walk_of (n := 63) (k := 65) (x := "script") (CX := fun _ => CX0) (sp := fun w => spD (K w.params) F 1) hn (by decide) hdf ⟨rfl, by decide, by decide⟩ hY Fk (fun w H a ns h1 h2 h3 => hsp_of hF (K w.params) H a ns h1 h2 h3) fun _ _ _ _ _ z => z
/-- a promise that nobody calls on -/
theorem fn_never {Pg : Program} {w : World} {K : PySem.W.Frag} {mg : Str → Option Value} {base : Heap} {name : Str} {st : Stmt} {ps : List Str} {Df : DefAt K mg name st ps} {k : Nat} {F : TF} (h : ∀ ms W G Gx, ¬ F ms W G Gx) : FnD Pg w K mg base Df k F :=
  ⟨fun vs H Q E ⟨o, ms, W, G, Gx, hl, _⟩ => hl, fun A outer s H args us vs Q E _ _ _ _ ⟨o, ms, W, G, Gx, _, _, hf, _⟩ => (h ms W G Gx hf).elim⟩
end Y
namespace Y
open PySem PySem.Spec L2
/-! ### enumerate(t), t anything that the library knows how to begin -/
set_option maxHeartbeats 2000000 in
theorem enum_newV {v : Value} {o : Obj} {H : Heap → Prop} (B : Begins v o H) :
    Meets (Builtin.«enumerate.__new__» ⟨[.type "enumerate", v], []⟩) (fun _ R s => H s.heap ∧
      R (.ok (.ret (.ref (s.heap.push o).objs.size))) { s with heap := (s.heap.push o).push { cls := .type "enumerate", data := .fields #[.none, .bool false, .ref s.heap.objs.size, rawInt 0, .none, .none] } }) := by
  refine .of_wp fun prog w A R st hyp => ?_
  obtain ⟨heap, gens, drawn, toks, os⟩ := st
  obtain ⟨pre, post⟩ := hyp
  have hsub := sub_enumerate
  have start : ∀ {A2 : Around} {X2 Q2 : Value → Shared → Prop}, Q2 (.ref heap.objs.size) ⟨heap.push o, gens, drawn, toks, os⟩ →
      wpAny (model prog w) A2 (pyIter v) Q2 X2 ⟨heap, gens, drawn, toks, os⟩ := fun {A2 X2 Q2} k => B.iter prog w A2 X2 _ Q2 pre k
  wp_walk
  apply wpAny_stack_any
  intro stack
  apply wpAny_pure
  split
  case h_1 c _ _ _ _ _ => cases hc : (c == Value.type "enumerate") <;> (wp_walk using start; exact ⟨_, rfl, post⟩)
  all_goals (wp_walk using start; exact ⟨_, rfl, post⟩)
theorem enum_callV {prog : Program} {w : World} {A : Around} {E Q : Value → Shared → Prop} {s : Shared} {v : Value} {o : Obj} {H : Heap → Prop} (B : Begins v o H) (pre : H s.heap)
    (k : ∀ h', IsEnum h' (s.heap.objs.size + 1) s.heap.objs.size 0 .none → h'.get? s.heap.objs.size = some o → h'.objs.size = s.heap.objs.size + 2 →
      (∀ b u, s.heap.get? b = some u → h'.get? b = some u) → Q (.ref (s.heap.objs.size + 1)) { s with heap := h' }) : wpAny (model prog w) A (call (.type "enumerate") [v]) Q E s := by
  have n1 : (s.heap.push o).objs.size = s.heap.objs.size + 1 := by rw [Heap.size_push]
  refine callType_new F.called_enumerate (by decide) (F.typeCall_enumerate_1 v) (F.newCall_enumerate_1 v) (fun ob => F.args_object_init_2 ob v) F.entry_enumerate_new (enum_newV B) ⟨pre, ?_⟩
  generalize hcell : ({ cls := .type "enumerate", data := .fields #[.none, .bool false, .ref s.heap.objs.size, rawInt 0, .none, .none] } : Obj) = cell
  have free : cell.isFreed = false := by rw [← hcell]; rfl
  have at1 : ((s.heap.push o).push cell).get? (s.heap.objs.size + 1) = some cell := by rw [← n1]; exact Heap.get?_push_size _ free
  have isE : IsEnum ((s.heap.push o).push cell) (s.heap.objs.size + 1) s.heap.objs.size 0 .none := by rw [← hcell] at at1 ⊢; exact at1
  show _ ∧ Q (.ref (s.heap.push o).objs.size) _
  rw [n1]
  exact ⟨⟨cell, at1, by rw [← hcell]⟩, k _ isE (Heap.get?_push_of_some _ (Heap.get?_push_size s.heap B.free)) (by rw [Heap.size_push, n1]) fun b u hb => Heap.get?_push_of_some _ (Heap.get?_push_of_some _ hb)⟩
/-- the tuple at a: each item in a new pair -/
def IteT (K : PySem.W.Frag) (a : Addr) : It where
  go := fun i H => ∃ (xs : List V) (x : V), SqT K H a xs ∧ xs[i]? = some x
  yld := fun i H v H' => ∃ T x, v = .ref T ∧ H T = none ∧ H' = upd H T (.tup [.int (i : Nat), x]) ∧ ∀ xs, SqT K H a xs → xs[i]? = some x
  stop := fun i H => ∃ xs : List V, SqT K H a xs ∧ xs.length = i
/-- how the two new objects stand at the i-th turn -/
def EnT (a e it : Addr) (i : Nat) (h : Heap) : Prop := (∃ old, IsEnum h e it ((i : Nat) : Int) old) ∧ h.IsTupleIter it a i ∧ e ≠ it ∧ a ≠ it ∧ a ≠ e
theorem EnT.keep {a e it : Addr} {i : Nat} {h h' : Heap} (z : EnT a e it i h) (k : ∀ b, b = e ∨ b = it → ∀ u, h.get? b = some u → h'.get? b = some u) : EnT a e it i h' := by
  obtain ⟨⟨old, z1⟩, z2, z3⟩ := z
  exact ⟨⟨old, k e (.inl rfl) _ z1⟩, z2.at fun u => k it (.inr rfl) u, z3⟩
theorem EnT.objs {a e it : Addr} {i : Nat} {h : Heap} (z : EnT a e it i h) : (∃ u, h.get? e = some u ∧ ∀ v, u.data ≠ .cell v) ∧ ∃ u, h.get? it = some u ∧ ∀ v, u.data ≠ .cell v := by
  obtain ⟨⟨old, z1⟩, ⟨u, z2, _, z4⟩, _⟩ := z
  refine ⟨⟨_, z1, fun v => by simp⟩, u, z2, fun v q => by rw [z4] at q; cases q⟩
theorem turn_enumT {P : Program} {w : World} {K : PySem.W.Frag} {elts : List Expr} {kk : Nat} {tpos : Pos} (a e it : Addr) : Turn P w K (.Tuple elts kk tpos) (IteT K a) [e, it] e (EnT a e it) := by
  refine ⟨by simp, fun i h z b hb => ?_, fun i h h' z k => z.keep fun b hb => k b (by simpa using hb), ?_, ?_, fun A i s Q E z q => z.1.elim fun old z1 => wpAny_pyIter_enum z1 q⟩
  · rcases List.mem_cons.mp hb with rfl | hb
    · exact z.objs.1
    · rw [List.mem_singleton.mp hb]; exact z.objs.2
  · rintro X rfl rfl rfl calm i pins s σ H E I own z ⟨xs, x, sq, at_⟩
    obtain ⟨⟨old, z1⟩, z2, ne, ai, ae⟩ := z
    obtain ⟨items, rel, tup, _⟩ := I.tuple sq
    obtain ⟨u, hu, ru⟩ := rel.get at_
    have ilt : i < items.toArray.size := by have := (List.getElem?_eq_some_iff.mp hu).1; simpa using this
    have W := WalksT.enumerateD (Draws.tuple (prog := X.prog) (w := X.w) (A := X.A.in1) (I.ok.hd calm) it a ai items.toArray) e ne (by simp [ne, ae.symm]) (by simp)
    refine W.item i s _ E ilt ⟨⟨old, z1⟩, z2, tup⟩ fun T vals h1 tk ⟨t, y, hy, hv⟩ hT isT mid kp1 => ?_
    have yu : y = u := by
      have : items[i]? = some y := by simpa using hy
      exact Option.some.inj (this.symm.trans hu)
    subst hv yu
    refine ⟨_, rfl, W.go elts kk tpos i T { s with heap := h1, toks := tk } _ E mid fun h2 st2 kp2 => ?_⟩
    have Tn : T ∉ [e, it] := W.apart i T h1 mid
    obtain ⟨ob, o1, o2, o3⟩ := isT
    have T2 : h2.IsTuple T #[.int i t, y] := ⟨ob, kp2 T ob Tn o1, o2, o3⟩
    have kp : ∀ b u, b ∉ [e, it] → s.heap.get? b = some u → h2.get? b = some u := fun b u hb q => kp2 b u hb (kp1 b u hb q)
    have made : ObjOk X.prog X.w (upd H T (.tup [.int (i : Nat), x])) h2 T (.tup [.int (i : Nat), x]) := ⟨by show 2 ≤ sizeLine; decide, _, .cons ⟨t, rfl⟩ (.cons ru .nil), T2⟩
    have I2 := I.turnedNew (t' := tk) (ch := [e, it]) (fun b u hb q => kp b u hb q) own hT made
    obtain ⟨⟨old2, e2⟩, i2, _⟩ := st2
    refine ⟨.ref T, _, I2, rfl, ⟨T, x, rfl, I.hok.fresh hT, rfl, fun ys hs => I.tuple_inj sq hs ▸ at_⟩, ⟨⟨old2, e2⟩, i2, ne, ai, ae⟩, fun b hb => ?_⟩
    have bT : b ≠ T := fun q => Tn (q ▸ hb)
    rw [upd_ne bT]
    exact (own b hb).1
  · rintro X rfl rfl rfl calm i pins s σ H E I own z ⟨xs, sq, rfl⟩
    obtain ⟨⟨old, z1⟩, z2, ne, ai, ae⟩ := z
    obtain ⟨items, rel, tup, _⟩ := I.tuple sq
    have W := WalksT.enumerateD (Draws.tuple (prog := X.prog) (w := X.w) (A := X.A.in1) (I.ok.hd calm) it a ai items.toArray) e ne (by simp [ne, ae.symm]) (by simp)
    have len : items.toArray.size = xs.length := by rw [List.size_toArray]; exact rel.length.symm
    rw [← len] at z1 z2
    exact W.done s _ E ⟨⟨old, z1⟩, z2, tup⟩ fun h1 tk kp => ⟨rfl, I.turnedL (t' := tk) (ch := [e, it]) (fun b u hb q => kp b u hb q) own⟩
def iEnA (K : PySem.W.Frag) (ta : TA) : TI := fun σ H R => ta σ H fun vs H1 => ∃ a xs, vs = [.ref a] ∧ ((SqL K H1 a xs ∧ R (Ite K a) H1) ∨ (SqT K H1 a xs ∧ R (IteT K a) H1))
theorem pi_enA {X : Cx} {e : Expr} {ta : TA} {p pos tpos : Pos} {elts : List Expr} {kk : Nat} (hg : Gl X "enumerate") (hm : X.mg "enumerate" = none) (ha : PA X [e] ta) (hs : starEach [e] X.env = [(false, eval e X.env)] := by rfl) :
    PI X (.Tuple elts kk tpos) (.Call (.Name "enumerate" p) [e] [] pos) (iEnA X.K ta) := by
  constructor
  intro pins s σ H R I h
  refine PyProof.Rows.Call_ (ld_blt I hg hm PyProof.Rows.boot_enumerate (PyProof.Rows.callWith_type1 (thn (ha.run pos pins s σ H _ I h) ?_) hs rfl))
  rintro us s1 ⟨vs, H1, I1, rel, a, xs, rfl, way⟩
  rw [Vals.ref1 rel]
  let n := s1.heap.objs.size
  have two : ∀ b ∈ [n + 1, n], FpOk X pins H1 b := by
    intro b hb
    have up : n ≤ b := by simp at hb; omega
    exact I1.fpOk up (I1.hok.fresh up)
  rcases way with ⟨sq, q⟩ | ⟨sq, q⟩
  · obtain ⟨items, _, flat, _⟩ := I1.list sq
    exact call_enumerate_list flat.isList fun h2 isE at_ _ kp => wpAny_pyIter_enum isE
      ⟨n + 1, [n + 1, n], _, _, H1, rfl, I1.kept (t' := s1.toks) kp, turn_enum a (n + 1) n, ⟨⟨_, isE⟩, at_, Nat.succ_ne_self n⟩, two, q⟩
  · obtain ⟨items, _, tup, _⟩ := I1.tuple sq
    have old : a < n := by obtain ⟨u, hu, _⟩ := id tup; exact Heap.lt_size hu
    exact enum_callV (begins_tuple a items.toArray) tup fun h2 isE at_ _ kp => wpAny_pyIter_enum isE
      ⟨n + 1, [n + 1, n], _, _, H1, rfl, I1.kept (t' := s1.toks) kp, turn_enumT a (n + 1) n, ⟨⟨_, isE⟩, ⟨_, at_, rfl, rfl⟩, Nat.succ_ne_self n, Nat.ne_of_lt old, Nat.ne_of_lt (Nat.lt_succ_of_lt old)⟩, two, q⟩
section
variable {K : PySem.W.Frag} {c : Cc} {o o' : Own} {σ σ' : St} {H H' : Hp} {ρ ρ' : Env} {τ τ' τ0 τ1 : List (V × M)} {X : Cx} {e a b : Expr} {es elts : List Expr} {pos p tpos : Pos} {t u : TX} {kk : Nat}
/-! ### enumerate, zip, over data that is fixed -/
def gEnm (lo : Int) : List D → List D
  | [] => []
  | d :: ds => .tup [.int lo, d] :: gEnm (lo + 1) ds
theorem gEnm_at : ∀ {ds : List D} {lo : Int} {i : Nat}, (gEnm lo ds)[i]? = (ds[i]?).map fun d => D.tup [.int (lo + (i : Int)), d]
  | [], lo, i => by simp [gEnm]
  | d :: ds, lo, 0 => by simp [gEnm]
  | d :: ds, lo, i + 1 => by
    rw [gEnm, List.getElem?_cons_succ, gEnm_at, List.getElem?_cons_succ]
    congr 1
    funext d
    have e : lo + 1 + (i : Int) = lo + ((i + 1 : Nat) : Int) := by omega
    rw [e]
theorem gEnm_length : ∀ {ds : List D} {lo : Int}, (gEnm lo ds).length = ds.length
  | [], _ => rfl
  | d :: ds, lo => by rw [gEnm, List.length_cons, gEnm_length, List.length_cons]
theorem new_tup {T : Addr} {x : V} {d : D} {i : Int} (mu : ∀ a l, o a = some l → Mt (H a)) (hT : H T = none) (h : Dat K o H x d) : Grow H (upd H T (.tup [.int i, x])) ∧ Dat K o (upd H T (.tup [.int i, x])) (.ref T) (.tup [.int i, d]) := by
  have g : Grow H (upd H T (.tup [.int i, x])) := .new hT
  have oT : o T = none := by
    cases e : o T with
    | none => rfl
    | some l => have := mu T l e; rw [hT] at this; exact this.elim
  exact ⟨g, .tup ⟨oT, upd_same⟩ (.cons (.int i) (.cons (h.mono (g.le mu)) .nil))⟩
theorem runs_enL {ad : Addr} {ds : List D} {C : Own → Hp → Prop} (h : ∀ o H, C o H → ∃ xs, SqL K H ad xs ∧ Dats K o H xs ds) : Runs K (Ite K ad) (gEnm 0 ds) C := fun o H hc mu => by
  obtain ⟨xs, h1, h2⟩ := h o H hc
  refine ⟨fun i d e => ?_, ⟨xs, h1, by rw [gEnm_length, h2.length]; exact Nat.le_refl _⟩⟩
  rw [gEnm_at] at e
  obtain ⟨d', e1, rfl⟩ := Option.map_eq_some_iff.mp e
  obtain ⟨v, ev, dv⟩ := h2.get e1
  refine ⟨⟨xs, v, h1, ev⟩, fun x H' y => ?_⟩
  obtain ⟨T, x', rfl, hT, rfl, hy⟩ := y
  have := hy xs h1
  rw [ev] at this; cases this
  rw [Int.zero_add]
  exact new_tup mu hT dv
theorem runs_enT {ad : Addr} {ds : List D} {C : Own → Hp → Prop} (h : ∀ o H, C o H → ∃ xs, SqT K H ad xs ∧ Dats K o H xs ds) : Runs K (IteT K ad) (gEnm 0 ds) C := fun o H hc mu => by
  obtain ⟨xs, h1, h2⟩ := h o H hc
  refine ⟨fun i d e => ?_, ⟨xs, h1, by rw [gEnm_length, h2.length]⟩⟩
  rw [gEnm_at] at e
  obtain ⟨d', e1, rfl⟩ := Option.map_eq_some_iff.mp e
  obtain ⟨v, ev, dv⟩ := h2.get e1
  refine ⟨⟨xs, v, h1, ev⟩, fun x H' y => ?_⟩
  obtain ⟨T, x', rfl, hT, rfl, hy⟩ := y
  have := hy xs h1
  rw [ev] at this; cases this
  rw [Int.zero_add]
  exact new_tup mu hT dv
/-- what enumerate walks: as srcOf -/
def enmOf (r : R) (ρ : Env) (k : Src → Env → Prop) : Prop := match r with
  | .im (.tup ds) => k (.fx (gEnm 0 ds)) ρ
  | .im (.lst ds) => k (.fx (gEnm 0 ds)) ρ
  | .tm (.ls ds) => k (.fx (gEnm 0 ds)) ρ
  | .sl i => match ρ.sl[i]? with
    | some (.lo (.ls ds)) => k (.sl i ds (gEnm 0 ds)) ρ
    | some (.pa (.ls ds)) => k (.sl i ds (gEnm 0 ds)) ρ
    | some (.lo (.sq ds)) => k (.fx (gEnm 0 ds)) ρ
    | some (.pa (.sq ds)) => k (.fx (gEnm 0 ds)) ρ
    | some (.hd p v (.ls ds)) => k (.hs i p v ds (gEnm 0 ds)) ρ
    | _ => False
  | .im (.obj n) => match ρ.st[n]? with
    | some (.ls ds) => k (.wo n ds (gEnm 0 ds)) ρ
    | _ => False
  | _ => False
def iEnm (ta : TL) : TSrc := fun ρ k => ta ρ fun rs ρ1 => match rs with
  | [r] => enmOf r ρ1 k
  | _ => False
theorem en_ok {v : V} {r : R} {ti : Src → Env → Prop} {R' : It → Hp → Prop} (R1 : Rep K c o σ H ρ τ') (z : RelR K o H σ v r τ τ') (h : enmOf r ρ ti)
    (q : ∀ J o' s, Le o H o' H → Rep K c o' σ H ρ τ → SrcOk K J o' H σ s → ti s ρ → R' J H) :
    ∃ ad xs, v = .ref ad ∧ ((SqL K H ad xs ∧ R' (Ite K ad) H) ∨ (SqT K H ad xs ∧ R' (IteT K ad) H)) := by
  unfold enmOf at h
  split at h
  · obtain ⟨rfl, z⟩ := z
    cases z with
    | tup t d => exact ⟨_, _, rfl, .inr ⟨t.sq, q _ o (.fx _) .refl R1 (runs_enT fun o' H' L => ⟨_, (t.mono L).sq, d.mono L⟩) h⟩⟩
  · obtain ⟨rfl, z⟩ := z
    cases z with
    | lst a b d => exact ⟨_, _, rfl, .inl ⟨SqL.of b, q _ o (.fx _) .refl R1 (runs_enL fun o' H' L => ⟨_, SqL.of (L.keep _ _ a b).2, d.mono L⟩) h⟩⟩
  · have z : τ' = τ ++ [(v, _)] := z
    subst z
    obtain ⟨a, xs, rfl, ho, hH, d⟩ := (R1.tm τ.length _ _ (by rw [List.getElem?_append_right (Nat.le_refl _), Nat.sub_self]; rfl)).1
    have R2 := R1.drop (List.prefix_append τ _)
    have e : dropT τ.length o a = none := by unfold dropT; rw [ho]; show (if τ.length < τ.length then _ else none) = none; rw [if_neg (Nat.lt_irrefl _)]
    exact ⟨_, _, rfl, .inl ⟨SqL.of hH, q _ _ (.fx _) (dropT_le _) R2 (runs_enL fun o' H' L => ⟨_, SqL.of (L.keep _ _ e hH).2, (d.mono (dropT_le τ.length)).mono L⟩) h⟩⟩
  · obtain ⟨rfl, z⟩ := z
    split at h
    · rename_i ds e
      obtain ⟨w, e1, a, xs, rfl, ho, hH, d⟩ := R1.sl _ _ e
      rw [z] at e1; cases e1
      refine ⟨_, _, rfl, .inl ⟨SqL.of hH, q _ o (.sl _ ds _) .refl R1 ⟨_, z, runs_enL fun o' H' ⟨l, b, ys, e2, h1, h2, h3⟩ => ?_⟩ h⟩⟩
      cases e2; exact ⟨ys, SqL.of h2, h3⟩
    · rename_i ds e
      obtain ⟨w, e1, _, a, xs, rfl, ho, hH, d⟩ := R1.sl _ _ e
      rw [z] at e1; cases e1
      refine ⟨_, _, rfl, .inl ⟨SqL.of hH, q _ o (.sl _ ds _) .refl R1 ⟨_, z, runs_enL fun o' H' ⟨l, b, ys, e2, h1, h2, h3⟩ => ?_⟩ h⟩⟩
      cases e2; exact ⟨ys, SqL.of h2, h3⟩
    · rename_i ds e
      obtain ⟨w, e1, a, xs, rfl, hl, d⟩ := R1.sl _ _ e
      rw [z] at e1; cases e1
      exact ⟨_, _, rfl, .inl ⟨hl.sq, q _ o (.fx _) .refl R1 (runs_enL fun o' H' L => ⟨_, (hl.mono L).sq, d.mono L⟩) h⟩⟩
    · rename_i ds e
      obtain ⟨w, e1, _, a, xs, rfl, hl, d⟩ := R1.sl _ _ e
      rw [z] at e1; cases e1
      exact ⟨_, _, rfl, .inl ⟨hl.sq, q _ o (.fx _) .refl R1 (runs_enL fun o' H' L => ⟨_, (hl.mono L).sq, d.mono L⟩) h⟩⟩
    · rename_i p v0 ds e
      obtain ⟨e1, _, a, xs, rfl, ho, hH, d⟩ := R1.sl _ _ e
      rw [z] at e1; cases e1
      refine ⟨_, _, rfl, .inl ⟨SqL.of hH, q _ o (.hs _ p _ ds _) .refl R1 (runs_enL fun o' H' ⟨l, b, ys, e2, h1, h2, h3⟩ => ?_) h⟩⟩
      cases e2; exact ⟨ys, SqL.of h2, h3⟩
    · exact h.elim
  · obtain ⟨rfl, z⟩ := z
    split at h
    · rename_i ds e
      obtain ⟨a, rfl, e1, xs, e2, e3⟩ := R1.st.obj e z
      exact ⟨_, _, rfl, .inl ⟨SqL.of e2, q _ o (.wo _ ds _) .refl R1 ⟨a, e1, runs_enL fun o' H' ⟨ys, h1, h2⟩ => ⟨ys, SqL.of h1, h2⟩⟩ h⟩⟩
    · exact h.elim
  · exact h.elim
theorem di_enm {ta : TL} (hg : Gl X "enumerate") (hm : X.mg "enumerate" = none) (ha : DA X c [e] ta) (hs : starEach [e] X.env = [(false, eval e X.env)] := by rfl) : DI X c (.Tuple elts kk tpos) (.Call (.Name "enumerate" p) [e] [] pos) (iEnm ta) :=
  piImp (pi_enA hg hm ha hs) fun σ H R hh => by
    obtain ⟨o, ρ, τ, Q, R0, hh, q⟩ := hh
    refine ⟨o, ρ, τ, _, R0, hh, fun vs H1 o1 rs ρ1 τ1 L1 R1 z1 h1 => ?_⟩
    split at h1
    · cases z1 with
      | cons z t =>
        cases t
        obtain ⟨ad, xs, e, w⟩ := en_ok (R' := fun J H => R J H) R1 z h1 fun J o' s L R' ok hs => q J H1 o' ρ1 s (L1.trans L) R' ok hs
        exact ⟨ad, xs, by rw [e], w⟩
    · exact h1.elim
/-! ### what nobody reaches -/
def sDead : TSX := fun _ _ => False
theorem ds_dead {st : Stmt} : DS X c st sDead := ⟨fun pins s σ H D I ⟨o, ρ, P, _, h, _⟩ => h.elim⟩
end
end Y
namespace Y
open PySem PySem.Spec L2
/-! ### data without booleans: == is sameness -/
mutual
def D.std : D → Bool
  | .non => true
  | .bl _ => false
  | .int _ => true
  | .str _ => true
  | .tup ds => D.stds ds
  | .lst ds => D.stds ds
  | .raw _ => false
  | .fnv _ _ _ _ _ => false
  | .obj _ => false
def D.stds : List D → Bool
  | [] => true
  | d :: ds => d.std && D.stds ds
end
theorem D.stds_all : ∀ ds : List D, D.stds ds = ds.all D.std
  | [] => rfl
  | d :: ds => by simp only [D.stds, List.all_cons]; rw [D.stds_all ds]
mutual
theorem eqv_std : ∀ d e : D, d.std = true → e.std = true → (D.eqv d e = true ↔ d = e)
  | .non, e, _, k => by cases e <;> simp_all [D.eqv, D.py, PyData.eqv, D.std]
  | .int i, e, _, k => by cases e <;> simp_all [D.eqv, D.py, PyData.eqv, D.std]
  | .str i, e, _, k => by cases e <;> simp_all [D.eqv, D.py, PyData.eqv, D.std]
  | .tup ds, .tup es, h, k => by
    have := eqvs_std ds es (by simpa [D.std] using h) (by simpa [D.std] using k)
    simpa [D.eqv, D.py, PyData.eqv] using this
  | .lst ds, .lst es, h, k => by
    have := eqvs_std ds es (by simpa [D.std] using h) (by simpa [D.std] using k)
    simpa [D.eqv, D.py, PyData.eqv] using this
  | .tup ds, .non, h, k => by simp [D.eqv, D.py, PyData.eqv]
  | .tup ds, .int _, h, k => by simp [D.eqv, D.py, PyData.eqv]
  | .tup ds, .str _, h, k => by simp [D.eqv, D.py, PyData.eqv]
  | .tup ds, .lst _, h, k => by simp [D.eqv, D.py, PyData.eqv]
  | .lst ds, .non, h, k => by simp [D.eqv, D.py, PyData.eqv]
  | .lst ds, .int _, h, k => by simp [D.eqv, D.py, PyData.eqv]
  | .lst ds, .str _, h, k => by simp [D.eqv, D.py, PyData.eqv]
  | .lst ds, .tup _, h, k => by simp [D.eqv, D.py, PyData.eqv]
  | .tup _, .bl _, _, k => by simp [D.std] at k
  | .tup _, .raw _, _, k => by simp [D.std] at k
  | .tup _, .fnv _ _ _ _ _, _, k => by simp [D.std] at k
  | .tup _, .obj _, _, k => by simp [D.std] at k
  | .lst _, .bl _, _, k => by simp [D.std] at k
  | .lst _, .raw _, _, k => by simp [D.std] at k
  | .lst _, .fnv _ _ _ _ _, _, k => by simp [D.std] at k
  | .lst _, .obj _, _, k => by simp [D.std] at k
  | .bl _, _, h, _ => by simp [D.std] at h
  | .raw _, _, h, _ => by simp [D.std] at h
  | .fnv _ _ _ _ _, _, h, _ => by simp [D.std] at h
  | .obj _, _, h, _ => by simp [D.std] at h
theorem eqvs_std : ∀ ds es : List D, D.stds ds = true → D.stds es = true → (PyData.eqvAll (D.pys ds) (D.pys es) = true ↔ ds = es)
  | [], [], _, _ => by simp [D.pys, PyData.eqvAll]
  | [], _ :: _, _, _ => by simp [D.pys, PyData.eqvAll]
  | _ :: _, [], _, _ => by simp [D.pys, PyData.eqvAll]
  | d :: ds, e :: es, h, k => by
    simp only [D.stds, Bool.and_eq_true] at h k
    have h1 := eqv_std d e h.1 k.1
    have h2 := eqvs_std ds es h.2 k.2
    simp only [D.pys, PyData.eqvAll, Bool.and_eq_true, List.cons.injEq]
    exact ⟨fun z => ⟨h1.mp z.1, h2.mp z.2⟩, fun z => ⟨h1.mpr z.1, h2.mpr z.2⟩⟩
end
section
variable {α : Type} [DecidableEq α] {g : α → D}
/-- a way to write things as data: no booleans, nothing written alike -/
structure Code (g : α → D) : Prop where
  std : ∀ a, (g a).std = true
  inj : ∀ a b, g a = g b → a = b
theorem Code.eqv (h : Code g) (a b : α) : D.eqv (g a) (g b) = decide (a = b) := by
  have e := eqv_std (g a) (g b) (h.std a) (h.std b)
  by_cases z : a = b
  · subst z; rw [decide_eq_true rfl]; exact e.mpr rfl
  · rw [decide_eq_false z]
    cases q : D.eqv (g a) (g b) with
    | false => rfl
    | true => exact absurd (h.inj _ _ (e.mp q)) z
theorem Code.any (h : Code g) (xs : List α) (a : α) : ((xs.map g).any fun z => D.eqv z (g a)) = decide (a ∈ xs) := by
  induction xs with
  | nil => rfl
  | cons x xs ih =>
    rw [List.map_cons, List.any_cons, ih, h.eqv]
    by_cases e : x = a
    · subst e; simp
    · simp [e]
      exact fun z => absurd z.symm e
theorem Code.inj_map (h : Code g) : ∀ {xs ys : List α}, xs.map g = ys.map g → xs = ys
  | [], [], _ => rfl
  | [], _ :: _, e => by cases e
  | _ :: _, [], e => by cases e
  | x :: xs, y :: ys, e => by
    rw [List.map_cons, List.map_cons] at e
    injection e with e1 e2
    rw [h.inj _ _ e1, Code.inj_map h e2]
theorem Code.stds (h : Code g) (xs : List α) : D.stds (xs.map g) = true := by
  rw [D.stds_all, List.all_eq_true]
  intro d hd
  obtain ⟨a, _, rfl⟩ := List.mem_map.mp hd
  exact h.std a
end
/-! ### an index that is written out -/
section
variable {α : Type} {a b c d e f g : α} {l : List α}
theorem atI_c0 : atI (a :: l) 0 = some a := by obtain ⟨x, h, h2⟩ := atI_ok (xs := a :: l) (i := 0) (by omega) (by simp <;> omega); rw [h]; simpa using h2.symm
theorem atI_c1 : atI (a :: b :: l) 1 = some b := by obtain ⟨x, h, h2⟩ := atI_ok (xs := a :: b :: l) (i := 1) (by omega) (by simp <;> omega); rw [h]; simpa using h2.symm
theorem atI_c2 : atI (a :: b :: c :: l) 2 = some c := by obtain ⟨x, h, h2⟩ := atI_ok (xs := a :: b :: c :: l) (i := 2) (by omega) (by simp <;> omega); rw [h]; simpa using h2.symm
theorem atI_c3 : atI (a :: b :: c :: d :: l) 3 = some d := by obtain ⟨x, h, h2⟩ := atI_ok (xs := a :: b :: c :: d :: l) (i := 3) (by omega) (by simp <;> omega); rw [h]; simpa using h2.symm
theorem atI_c4 : atI (a :: b :: c :: d :: e :: l) 4 = some e := by obtain ⟨x, h, h2⟩ := atI_ok (xs := a :: b :: c :: d :: e :: l) (i := 4) (by omega) (by simp <;> omega); rw [h]; simpa using h2.symm
theorem atI_c5 : atI (a :: b :: c :: d :: e :: f :: l) 5 = some f := by obtain ⟨x, h, h2⟩ := atI_ok (xs := a :: b :: c :: d :: e :: f :: l) (i := 5) (by omega) (by simp <;> omega); rw [h]; simpa using h2.symm
end
end Y
namespace Y
open PySem PySem.Spec L2
section
variable {K : PySem.W.Frag} {c : Cc} {o o' : Own} {σ σ' : St} {H H' : Hp} {ρ ρ' : Env} {τ τ' τ0 τ1 : List (V × M)} {X : Cx} {e a b : Expr} {es elts : List Expr} {pos p tpos : Pos} {t u : TX} {kk : Nat}
/-! ### a, b = x, y: data or new objects -/
def R.m2 : R → Option M
  | .im d => some (.im d)
  | .tm m => some m
  | _ => none
def sPar2 (i j : Nat) (ta : TL) : TSX := fun P ρ => ta ρ fun rs ρ1 => match rs with
  | [r1, r2] => match r1.m2, r2.m2 with
    | some m1, some m2 => P.nx ((ρ1.set j (.lo m2)).set i (.lo m1))
    | _, _ => False
  | _ => False
/-- the last result goes to a slot -/
theorem take_last (R0 : Rep K c o σ H ρ τ') {v : V} {r : R} {m : M} {i : Nat} (z : RelR K o H σ v r τ τ') (e : r.m2 = some m) : ∃ o', Le o H o' H ∧ Rep K c o' (σ.set i (some v)) H (ρ.set i (.lo m)) τ := by
  cases r with
  | im d =>
    obtain ⟨rfl, z⟩ := z
    cases e
    exact ⟨o, .refl, R0.asg (m := .im d) z⟩
  | tm m' =>
    cases e
    have z : τ' = τ ++ [(v, m)] := z
    subst z
    obtain ⟨R1, i1⟩ := R0.takeT (.s i)
    exact ⟨_, relL_le (by intro z; cases z), R1.asg i1⟩
  | sl k => cases e
theorem RelR.set2 {v : V} {r : R} {m : M} {j : Nat} {w : Option V} (z : RelR K o H σ v r τ τ') (e : r.m2 = some m) : RelR K o H (σ.set j w) v r τ τ' := by
  cases r with
  | im d => exact z
  | tm m' => exact z
  | sl k => cases e
theorem ds_par {i j : Nat} {x y : Str} {ta : TL} {px py pt : Pos} {kt k2 pt2} (hc : X.calm = true) (hN : X.N.Nodup) (hij : i ≠ j) (ha : DA X c [a, b] ta) (hi : X.N[i]? = some x := by rfl) (hj : X.N[j]? = some y := by rfl)
    (hx : X.env.scope.names.lookup x = some .local := by rfl) (hy : X.env.scope.names.lookup y = some .local := by rfl)
    (hw : swappedStores [.Tuple [.Name x px, .Name y py] kt pt] (.Tuple [a, b] k2 pt2) X.env = pure (some [x, y]) := by rfl)
    (hs : swapsWithSole [.Tuple [.Name x px, .Name y py] kt pt] (.Tuple [a, b] k2 pt2) pos.line X.env = pure false := by rfl) :
    DS X c (.Assign [.Tuple [.Name x px, .Name y py] kt pt] (.Tuple [a, b] k2 pt2) pos) (sPar2 i j ta) :=
  psImp (ps_par hc hN hi hj hij hx hy ha hw hs) fun D σ H h => by
    obtain ⟨o, ρ, P, R0, h, w⟩ := h
    refine ⟨o, ρ, [], _, R0, h, fun vs H1 o1 rs ρ1 τ1 L1 R1 z1 h1 => ?_⟩
    split at h1
    · rename_i r1 r2
      split at h1
      · rename_i m1 m2 e1 e2
        cases z1 with
        | cons za t =>
          cases t with
          | cons zb t =>
            cases t
            obtain ⟨o2, L2, R2⟩ := take_last (i := j) R1 zb e2
            obtain ⟨o3, L3, R3⟩ := take_last (i := i) R2 ((za.mono L2).set2 e1) e1
            refine ⟨_, _, rfl, ?_⟩
            rw [List.set_comm _ _ hij]
            exact w.nx _ _ o3 _ (L1.trans (L2.trans L3)) R3 h1
      · exact h1.elim
    · exact h1.elim
/-! ### a op b op c -/
def tChn (g g' : G2) (ta tb tc : TX) : TX := fun ρ Q => ta ρ fun r1 ρ1 => tb ρ1 fun r2 ρ2 => w2 ρ2 r1 r2 fun m1 m2 => g m1 m2 fun m => match m with
  | .im (.bl k) => if k = true then tc ρ2 fun r3 ρ3 => w2 ρ3 r2 r3 fun m2' m3 => g' m2' m3 fun m' => Q m'.res ρ3 else Q (.im (.bl false)) ρ2
  | _ => False
theorem tChn_of {g g' : G2} {ta tb tc : TX} {k : VK} (h : TEo K c (tChn g g' ta tb tc) σ H k) : tChain (rOp K g) (rOp K g') (TEo K c ta) (TEo K c tb) (TEo K c tc) σ H k := by
  obtain ⟨o, ρ, τ, Q, R0, h, q⟩ := h
  refine ⟨o, ρ, τ, _, R0, h, fun v1 H1 o1 r1 ρ1 τ1 L1 R1 z1 h1 => ?_⟩
  refine ⟨o1, ρ1, τ1, _, R1, h1, fun v2 H2 o2 r2 ρ2 τ2 L2 R2 z2 h2 => ?_⟩
  unfold w2 at h2
  split at h2
  · rename_i m1 m2 e1 e2
    have y1 := R2.vw_ok (z1.mono L2) z2.pre e1
    have y2 := R2.vw_ok z2 List.prefix_rfl e2
    refine ⟨o2, m1, m2, _, R2.mu, y1, y2, h2, fun v H' m g1 nm hm => ?_⟩
    split at hm
    · rename_i kb
      cases (show Dat K o2 H' v (.bl kb) from nm)
      have Lg := g1.le R2.mu
      have R2' := R2.grow g1
      refine ⟨kb, rfl, ?_⟩
      cases kb with
      | false =>
        rw [if_neg (by decide)]
        rw [if_neg (by decide)] at hm
        have R3 := R2'.drop (z1.pre.trans z2.pre)
        exact q _ H' _ (.im (.bl false)) ρ2 τ (L1.trans (L2.trans (Lg.trans (dropT_le _)))) R3 ⟨rfl, .bl false⟩ hm
      | true =>
        rw [if_pos rfl]
        rw [if_pos rfl] at hm
        refine ⟨o2, ρ2, τ2, _, R2', hm, fun v3 H3 o3 r3 ρ3 τ3 L3 R3 z3 h3 => ?_⟩
        unfold w2 at h3
        split at h3
        · rename_i m2' m3 e2' e3
          have x1 := R3.vw_ok ((z2.mono Lg).mono L3) z3.pre e2'
          have x2 := R3.vw_ok z3 List.prefix_rfl e3
          refine ⟨o3, m2', m3, _, R3.mu, x1, x2, h3, fun v' H'' m' g2 nm2 hm2 => ?_⟩
          obtain ⟨o', τ', L, R', z⟩ := R3.made ((z1.pre.trans z2.pre).trans z3.pre) g2 nm2
          exact q v' H'' o' _ ρ3 τ' (L1.trans (L2.trans (Lg.trans (L3.trans L)))) R' z hm2
        · exact h3.elim
    · exact hm.elim
  · exact h2.elim
theorem de_chn {op op' : CmpOp} {g g' : G2} {ta tb tc : TX} {d : Expr} (ho : OpG X (compareOp op) g) (ho' : OpG X (compareOp op') g') (ha : DE X c a ta) (hb : DE X c b tb) (hd : DE X c d tc)
    (hm : lastMarks [op, op'] [b, d] = false := by with_unfolding_all rfl) : DE X c (.Compare a [op, op'] [b, d] pos) (tChn g g' ta tb tc) :=
  peImp (pe_chain ho ho' ha hb hd hm) fun _ _ _ h => tChn_of h
theorem dt_chn {op op' : CmpOp} {g g' : G2} {ta tb tc : TX} {d : Expr} (ho : OpG X (compareOp op) g) (ho' : OpG X (compareOp op') g') (ha : DE X c a ta) (hb : DE X c b tb) (hd : DE X c d tc)
    (hm : lastMarks [op, op'] [b, d] = false := by with_unfolding_all rfl) : DT X c (.Compare a [op, op'] [b, d] pos) (tTst (tChn g g' ta tb tc)) :=
  ptImp (pt_chain ho ho' ha hb hd hm) fun σ H k h => by
    obtain ⟨o, ρ, τ, Q, R0, h, q⟩ := h
    refine tChn_of ⟨o, ρ, τ, _, R0, h, fun v1 H1 o1 r1 ρ1 τ1 L1 R1 z1 h1 => ?_⟩
    split at h1
    · rename_i b
      obtain ⟨rfl, z⟩ := z1
      cases z
      exact ⟨b, rfl, q b H1 o1 ρ1 L1 R1 h1⟩
    · exact h1.elim
/-! ### d.get(k), d.get(k, x) -/
def M.isD : M → Bool
  | .dk _ => true
  | .dt _ => true
  | _ => false
def vwD (ρ : Env) (r : R) : Prop := match vw ρ r with
  | some m => m.isD = true
  | none => False
def getOr (m : M) (m2 : M) (x : D) (k : D → Prop) : Prop := match m2 with
  | .im d => match dGet m d with
    | some (some y) => k y
    | some none => k x
    | none => False
  | _ => False
def tGet1 (td ty : TX) : TX := fun ρ Q => td ρ fun r ρ1 => vwD ρ1 r ∧ ty ρ1 fun r2 ρ2 => w2 ρ2 r r2 fun m1 m2 => getOr m1 m2 .non fun y => Q (.im y) ρ2
def tGet2 (td ty tx : TX) : TX := fun ρ Q => td ρ fun r ρ1 => vwD ρ1 r ∧ ty ρ1 fun r2 ρ2 => tx ρ2 fun r3 ρ3 => match r3 with
  | .im x => w2 ρ3 r r2 fun m1 m2 => getOr m1 m2 x fun y => Q (.im y) ρ3
  | _ => False
theorem isD_of {v : V} {m : M} (h : Vw K o H v m) (e : m.isD = true) : ∃ a, v = .ref a ∧ IsD H a := by
  obtain ⟨l, h⟩ := h
  cases m with
  | dk kvs => obtain ⟨a, ks, rfl, _, ha, _⟩ := h; exact ⟨a, rfl, .inl ⟨ks, .inl ha⟩⟩
  | dt kvs => obtain ⟨a, ks, rfl, _, ha, _⟩ := h; exact ⟨a, rfl, .inr ⟨ks, .inl ha⟩⟩
  | _ => cases e
theorem de_get1 {td ty : TX} {apos cpos : Pos} (hu : X.A.units + 1 < cLine) (ho : DE X c a td) (he : DE X c b ty) (m : M1 X a "get" apos b cpos := by constructor <;> rfl) : DE X c (.Call (.Attribute a "get" apos) [b] [] cpos) (tGet1 td ty) :=
  peImp (pe_dget1 hu ho he m) fun σ H k h => by
    obtain ⟨o, ρ, τ, Q, R0, h, q⟩ := h
    refine ⟨o, ρ, τ, _, R0, h, fun v1 H1 o1 r1 ρ1 τ1 L1 R1 z1 h1 => ?_⟩
    obtain ⟨hd, h1⟩ := h1
    unfold vwD at hd
    split at hd
    · rename_i m0 e0
      obtain ⟨a, rfl, isd⟩ := isD_of (R1.vw_ok z1 List.prefix_rfl e0) hd
      refine ⟨a, rfl, isd, o1, ρ1, τ1, _, R1, h1, fun v2 H2 o2 r2 ρ2 τ2 L2 R2 z2 h2 => ?_⟩
      unfold w2 at h2
      split at h2
      · rename_i m1 m2 e1 e2
        have y1 := R2.vw_ok (z1.mono L2) z2.pre e1
        obtain ⟨l2, y2⟩ := R2.vw_ok z2 List.prefix_rfl e2
        unfold getOr at h2
        have R3 := R2.drop (z1.pre.trans z2.pre)
        split at h2
        · split at h2
          · rename_i y eg
            obtain ⟨a', w, ea, g, rd⟩ := dGet_ok y1 y2 eg
            cases ea
            cases w with
            | none => exact rd.elim
            | some w => exact ⟨_, g, q w H2 _ (.im y) ρ2 τ (L1.trans (L2.trans (dropT_le _))) R3 ⟨rfl, rd.mono (dropT_le _)⟩ h2⟩
          · rename_i eg
            obtain ⟨a', w, ea, g, rd⟩ := dGet_ok y1 y2 eg
            cases ea
            cases w with
            | some w => exact rd.elim
            | none => exact ⟨_, g, q .non H2 _ (.im .non) ρ2 τ (L1.trans (L2.trans (dropT_le _))) R3 ⟨rfl, .non⟩ h2⟩
          · exact h2.elim
        · exact h2.elim
      · exact h2.elim
    · exact hd.elim
theorem de_get2 {td ty tx : TX} {apos cpos : Pos} {f : Expr} (hu : X.A.units + 1 < cLine) (ho : DE X c a td) (he : DE X c b ty) (hf : DE X c f tx) (m : M2 X a "get" apos b f cpos := by constructor <;> rfl) : DE X c (.Call (.Attribute a "get" apos) [b, f] [] cpos) (tGet2 td ty tx) :=
  peImp (pe_dget2 hu ho he hf m) fun σ H k h => by
    obtain ⟨o, ρ, τ, Q, R0, h, q⟩ := h
    refine ⟨o, ρ, τ, _, R0, h, fun v1 H1 o1 r1 ρ1 τ1 L1 R1 z1 h1 => ?_⟩
    obtain ⟨hd, h1⟩ := h1
    unfold vwD at hd
    split at hd
    · rename_i m0 e0
      obtain ⟨a, rfl, isd⟩ := isD_of (R1.vw_ok z1 List.prefix_rfl e0) hd
      refine ⟨a, rfl, isd, o1, ρ1, τ1, _, R1, h1, fun v2 H2 o2 r2 ρ2 τ2 L2 R2 z2 h2 => ?_⟩
      refine ⟨o2, ρ2, τ2, _, R2, h2, fun v3 H3 o3 r3 ρ3 τ3 L3 R3 z3 h3 => ?_⟩
      split at h3
      · rename_i x
        obtain ⟨e3, dx⟩ := z3
        subst e3
        unfold w2 at h3
        split at h3
        · rename_i m1 m2 e1 e2
          have y1 := R3.vw_ok ((z1.mono L2).mono L3) z2.pre e1
          obtain ⟨l2, y2⟩ := R3.vw_ok (z2.mono L3) List.prefix_rfl e2
          unfold getOr at h3
          have R4 := R3.drop (z1.pre.trans z2.pre)
          split at h3
          · split at h3
            · rename_i y eg
              obtain ⟨a', w, ea, g, rd⟩ := dGet_ok y1 y2 eg
              cases ea
              cases w with
              | none => exact rd.elim
              | some w => exact ⟨_, g, q w H3 _ (.im y) ρ3 τ (L1.trans (L2.trans (L3.trans (dropT_le _)))) R4 ⟨rfl, rd.mono (dropT_le _)⟩ h3⟩
            · rename_i eg
              obtain ⟨a', w, ea, g, rd⟩ := dGet_ok y1 y2 eg
              cases ea
              cases w with
              | some w => exact rd.elim
              | none => exact ⟨_, g, q v3 H3 _ (.im x) ρ3 τ (L1.trans (L2.trans (L3.trans (dropT_le _)))) R4 ⟨rfl, dx.mono (dropT_le _)⟩ h3⟩
            · exact h3.elim
          · exact h3.elim
        · exact h3.elim
      · exact h3.elim
    · exact hd.elim
/-! ### [e for .. in .. if .. for .. in .. if ..] -/
theorem wipe_sub {vs vs1 : List Nat} (h : ∀ i ∈ vs1, i ∈ vs) : L2.wipe (L2.wipe σ vs1) vs = L2.wipe σ vs := by
  apply List.ext_getElem?
  intro j
  by_cases hj : j ∈ vs
  · by_cases hl : j < σ.length
    · rw [wipe_at hj (by rw [wipe_length]; exact hl), wipe_at hj hl]
    · rw [List.getElem?_eq_none (by rw [wipe_length, wipe_length]; omega), List.getElem?_eq_none (by rw [wipe_length]; omega)]
  · rw [wipe_out hj, wipe_out hj, wipe_out fun z => hj (h j z)]
def compL2 (b : Bd) (tq : TQ) (ti1 : TSrc) (b1 : Bd) (tq1 : TQ) (te : TX) (vs vs1 : List Nat) (gd : Env → Prop) (k : List D → Env → Prop) : List D → List D → Env → Prop
  | [], acc, ρ => gd ρ ∧ k acc ρ
  | d :: ds, acc, ρ => gd ρ ∧ bnd b d ρ fun ρ1 => tq ρ1 fun ok ρ2 => if ok = true then ti1 ρ2 fun src ρ3 => match src with
      | .fx ds1 => compL b1 tq1 te vs1 (fun _ => True) (fun acc' ρ4 => compL2 b tq ti1 b1 tq1 te vs vs1 gd k ds acc' (wipeE ρ4 vs)) ds1 acc (wipeE ρ3 vs1)
      | .wo n es ds1 => compL b1 tq1 te vs1 (fun ρ => ρ.st[n]? = some (.ls es)) (fun acc' ρ4 => compL2 b tq ti1 b1 tq1 te vs vs1 gd k ds acc' (wipeE ρ4 vs)) ds1 acc (wipeE ρ3 vs1)
      | _ => False
    else compL2 b tq ti1 b1 tq1 te vs vs1 gd k ds acc (wipeE ρ2 vs)
def tLc2X (ti : TSrc) (b : Bd) (tq : TQ) (ti1 : TSrc) (b1 : Bd) (tq1 : TQ) (te : TX) (vs vs1 : List Nat) : TX := fun ρ Q => ti ρ fun src ρ1 => match src with
  | .fx ds => compL2 b tq ti1 b1 tq1 te vs vs1 (fun _ => True) (fun acc ρ' => Q (.tm (.ls acc)) (restE ρ1 ρ' vs)) ds [] (wipeE ρ1 vs)
  | .wo n es ds => compL2 b tq ti1 b1 tq1 te vs vs1 (fun ρ => ρ.st[n]? = some (.ls es)) (fun acc ρ' => Q (.tm (.ls acc)) (restE ρ1 ρ' vs)) ds [] (wipeE ρ1 vs)
  | _ => False
theorem comp2_ok {J : It} {ds : List D} {bd bd1 : Bd} {tq tq1 : TQ} {ti1 : TSrc} {te : TX} {vs vs1 : List Nat} {gd : Env → Prop} {k : List D → Env → Prop} {C : Own → Hp → Prop} {o1 : Own} {H1 : Hp} {Qd : Hp → Prop} {L : Addr} (hr : Runs K J ds C) (hvs : ∀ i ∈ bd.slots, i ∈ vs) (hvs1 : ∀ i ∈ bd1.slots, i ∈ vs1) (h12 : ∀ i ∈ vs1, i ∈ vs)
    (hc : ∀ o' H' ρ' τ', Le o1 H1 o' H' → Rep K c o' (L2.wipe σ vs) H' ρ' τ' → gd ρ' → C o' H') (R0 : Rep K c o1 (L2.wipe σ vs) H1 ρ (τ ++ [(.ref L, .ls [])]))
    (h : compL2 bd tq ti1 bd1 tq1 te vs vs1 gd k ds [] ρ)
    (q : ∀ o' H' ρ' acc, Le o1 H1 o' H' → Rep K c o' (L2.wipe σ vs) H' ρ' (τ ++ [(.ref L, .ls acc)]) → gd ρ' → k acc ρ' → Qd H') :
    ∃ W : Nat → Nat → Hp → Prop, (∃ m, W 0 m H1) ∧ ∀ i m H, W i m H →
      (J.stop i H ∧ Qd H) ∨ (J.go i H ∧ ∃ Nx : Hp → Prop, (∀ H', Nx H' → ∃ m', m' < m ∧ W (i + 1) m' H') ∧ ∀ x H', J.yld i H x H' → bd.tg K x (L2.wipe σ vs) H' fun σ2 H2 => L2.wipe σ2 vs = L2.wipe σ vs ∧
        TTo K c tq σ2 H2 fun b H3 => if b = true then TIo K c ti1 σ2 H3 fun J1 H4 => ∃ W1 : Nat → Nat → Hp → Prop, (∃ m, W1 0 m H4) ∧ ∀ j k H, W1 j k H →
          (J1.stop j H ∧ Nx H) ∨ (J1.go j H ∧ ∃ Nx1 : Hp → Prop, (∀ H', Nx1 H' → ∃ k', k' < k ∧ W1 (j + 1) k' H') ∧ ∀ x H', J1.yld j H x H' → bd1.tg K x (L2.wipe σ2 vs1) H' fun σ3 H5 => L2.wipe σ3 vs1 = L2.wipe σ2 vs1 ∧ TTo K c tq1 σ3 H5 fun b H6 =>
            if b = true then TEo K c te σ3 H6 fun y H7 => ∃ acc, H7 L = some (.lst acc) ∧ acc.length < sizeLine ∧ Nx1 (upd H7 L (.lst (acc ++ [y]))) else Nx1 H6)
        else Nx H3) := by
  refine ⟨fun i m H => m = ds.length - i ∧ i ≤ ds.length ∧ ∃ o ρ acc, Le o1 H1 o H ∧ Rep K c o (L2.wipe σ vs) H ρ (τ ++ [(.ref L, .ls acc)]) ∧ compL2 bd tq ti1 bd1 tq1 te vs vs1 gd k (ds.drop i) acc ρ,
    ⟨ds.length, by simp, Nat.zero_le _, o1, ρ, [], .refl, R0, by simpa using h⟩, ?_⟩
  rintro i m H ⟨rfl, hi, o, ρ, acc, Lo, R, h⟩
  by_cases hlt : i < ds.length
  · have e : ds.drop i = ds[i] :: ds.drop (i + 1) := List.drop_eq_getElem_cons hlt
    rw [e] at h
    obtain ⟨hg, h⟩ := h
    obtain ⟨go, yl⟩ := (hr o H (hc o H ρ _ Lo R hg) R.mu).1 i ds[i] (by simp [hlt])
    refine .inr ⟨go, fun H' => ∃ o' ρ' acc', Le o1 H1 o' H' ∧ Rep K c o' (L2.wipe σ vs) H' ρ' (τ ++ [(.ref L, .ls acc')]) ∧ compL2 bd tq ti1 bd1 tq1 te vs vs1 gd k (ds.drop (i + 1)) acc' ρ',
      fun H' ⟨o', ρ', acc', L', R', h'⟩ => ⟨ds.length - (i + 1), by omega, rfl, hlt, o', ρ', acc', L', R', h'⟩, fun x H' y => ?_⟩
    obtain ⟨g, dx⟩ := yl x H' y
    refine bnd_ok (R.grow g) dx h fun σ' ρ' R' hw hf => ?_
    have hw' : L2.wipe σ' vs = L2.wipe σ vs := by rw [hw vs hvs, wipe_idem]
    have L2' : Le o1 H1 o H' := Lo.trans (g.le R.mu)
    refine ⟨hw', o, ρ', _, _, R', hf, fun b H3 o3 ρ3 L3 R3 h3 => ?_⟩
    cases b with
    | false =>
      have R4 := R3.wipe vs
      rw [hw'] at R4
      exact ⟨o3, _, acc, L2'.trans L3, R4, h3⟩
    | true =>
      rw [if_pos rfl]
      refine ⟨o3, ρ3, _, _, R3, h3, fun J1 H4 o4 ρ4 src L4 R4 ok1 h4 => ?_⟩
      cases src with
      | fx ds1 =>
        refine comp_ok (C := fun o' H' => Le o4 H4 o' H') ok1 hvs1 (fun o' H' ρ' τ' L' R' _ => L') (R4.wipe vs1) h4 fun o' H' ρ' acc' L' R' _ hk => ?_
        have R6 := R'.wipe vs
        rw [wipe_sub h12, hw'] at R6
        exact ⟨o', _, acc', L2'.trans (L3.trans (L4.trans L')), R6, hk⟩
      | wo n es ds1 =>
        obtain ⟨ad, e1, ok1⟩ := ok1
        refine comp_ok ok1 hvs1 (fun o' H' ρ' τ' L' R' g => R'.woC e1 L' g) (R4.wipe vs1) h4 fun o' H' ρ' acc' L' R' _ hk => ?_
        have R6 := R'.wipe vs
        rw [wipe_sub h12, hw'] at R6
        exact ⟨o', _, acc', L2'.trans (L3.trans (L4.trans L')), R6, hk⟩
      | sl _ _ _ => exact h4.elim
      | hs _ _ _ _ _ => exact h4.elim
  · have e : i = ds.length := by omega
    subst e
    rw [List.drop_length] at h
    exact .inl ⟨(hr o H (hc o H ρ _ Lo R h.1) R.mu).2, q o H ρ acc Lo R h.1 h.2⟩
theorem lc2_of {ti ti1 : TSrc} {bd bd1 : Bd} {tq tq1 : TQ} {te : TX} {vs vs1 : List Nat} {k : VK} (hvs : ∀ i ∈ bd.slots, i ∈ vs) (hvs1 : ∀ i ∈ bd1.slots, i ∈ vs1) (h12 : ∀ i ∈ vs1, i ∈ vs) (h : TEo K c (tLc2X ti bd tq ti1 bd1 tq1 te vs vs1) σ H k) :
    tLc2 (TIo K c ti) (bd.tg K) (TTo K c tq) (TIo K c ti1) (bd1.tg K) (TTo K c tq1) (TEo K c te) vs vs1 σ H k := by
  obtain ⟨o, ρ, τ, Q, R0, h, q⟩ := h
  refine ⟨o, ρ, τ, _, R0, h, fun J H1 o1 ρ1 src L1 R1 ok h1 => ?_⟩
  intro L hL
  cases src with
  | fx ds =>
    obtain ⟨R2, L2'⟩ := R1.push (m := .ls []) (u := .lst []) hL trivial rfl ⟨L, [], rfl, by simp, upd_same, .nil⟩
    refine comp2_ok (C := fun o' H' => Le o1 H1 o' H') ok hvs hvs1 h12 (fun o' H' ρ' τ' L' R' _ => L2'.trans L') (R2.wipe vs) h1 fun o' H' ρ' acc L' R' _ hk => ?_
    exact q _ H' o' (.tm (.ls acc)) _ _ (L1.trans (L2'.trans L')) (Rep.rest R1 (L2'.trans L') R') rfl hk
  | wo n es ds =>
    obtain ⟨ad, e1, ok⟩ := ok
    obtain ⟨R2, L2'⟩ := R1.push (m := .ls []) (u := .lst []) hL trivial rfl ⟨L, [], rfl, by simp, upd_same, .nil⟩
    refine comp2_ok ok hvs hvs1 h12 (fun o' H' ρ' τ' L' R' g => R'.woC e1 (L2'.trans L') g) (R2.wipe vs) h1 fun o' H' ρ' acc L' R' _ hk => ?_
    exact q _ H' o' (.tm (.ls acc)) _ _ (L1.trans (L2'.trans L')) (Rep.rest R1 (L2'.trans L') R') rfl hk
  | sl _ _ _ => exact h1.elim
  | hs _ _ _ _ _ => exact h1.elim
section
variable {elt tg iter tg1 iter1 : Expr} {ifs ifs1 : List Expr} {scope : Scope} {own : List (Str × Nat)} {ti ti1 : TSrc} {bd bd1 : Bd} {tq tq1 : TQ} {te : TX}
theorem de_lc2 (vs1 : List Nat) (hc : X.calm = true) (hN : X.N.Nodup) (hi : DI X c tg iter ti) (ok : blkC X.N X.env.scope scope own = true)
    (hg : ∀ (s : Shared) (H : Hp) (C : Addr) (cl : List (Str × Addr)) (fp : List Addr), PG (X.blk s H scope (compEnvC scope cl C X.env) fp) tg (bd.tg X.K))
    (ht : ∀ (s : Shared) (H : Hp) (C : Addr) (cl : List (Str × Addr)) (fp : List Addr), DQs (X.blk s H scope (compEnvC scope cl C X.env) fp) c ifs tq)
    (hi1 : ∀ (s : Shared) (H : Hp) (C : Addr) (cl : List (Str × Addr)) (fp : List Addr), DI (X.blk s H scope (compEnvC scope cl C X.env) fp) c tg1 iter1 ti1)
    (hg1 : ∀ (s : Shared) (H : Hp) (C : Addr) (cl : List (Str × Addr)) (fp : List Addr), PG (X.blk s H scope (compEnvC scope cl C X.env) fp) tg1 (bd1.tg X.K))
    (ht1 : ∀ (s : Shared) (H : Hp) (C : Addr) (cl : List (Str × Addr)) (fp : List Addr), DQs (X.blk s H scope (compEnvC scope cl C X.env) fp) c ifs1 tq1)
    (he : ∀ (s : Shared) (H : Hp) (C : Addr) (cl : List (Str × Addr)) (fp : List Addr), DE (X.blk s H scope (compEnvC scope cl C X.env) fp) c elt te)
    (hvs : ∀ i ∈ bd.slots, i ∈ own.map (·.2) := by decide) (hvs1 : ∀ i ∈ bd1.slots, i ∈ vs1 := by decide) (h12 : ∀ i ∈ vs1, i ∈ own.map (·.2) := by decide) (hs : ∀ x, foldedSetIterable iter X.env x = pure x := by intro _; rfl) (hs1 : ∀ env x, foldedSetIterable iter1 env x = pure x := by intro _ _; rfl) :
    DE X c (.ListComp elt [⟨tg, iter, ifs, 0⟩, ⟨tg1, iter1, ifs1, 0⟩] scope pos) (tLc2X ti bd tq ti1 bd1 tq1 te (own.map (·.2)) vs1) :=
  peImp (pe_lc2 (wi1 := TIo X.K c ti1) (g1 := bd1.tg X.K) (tt := TTo X.K c tq) (tt1 := TTo X.K c tq1) (te := TEo X.K c te) hc hN hi (blkOk_by ok) h12 hg ht hi1 hg1 ht1 he hs hs1) fun σ H k h => lc2_of hvs hvs1 h12 h
theorem ds_setLc2 {i : Nat} {y : Str} {py spos : Pos} (vs1 : List Nat) (hc : X.calm = true) (hN : X.N.Nodup) (hsw : swapsWith (.ListComp elt [⟨tg, iter, ifs, 0⟩, ⟨tg1, iter1, ifs1, 0⟩] scope pos) (some (.Name y py)) spos.line X.env = pure true) (hi : DI X c tg iter ti) (ok : blkC X.N X.env.scope scope own = true)
    (hg : ∀ (s : Shared) (H : Hp) (C : Addr) (cl : List (Str × Addr)) (fp : List Addr), PG (X.blk s H scope (compEnvC scope cl C X.env) fp) tg (bd.tg X.K))
    (ht : ∀ (s : Shared) (H : Hp) (C : Addr) (cl : List (Str × Addr)) (fp : List Addr), DQs (X.blk s H scope (compEnvC scope cl C X.env) fp) c ifs tq)
    (hi1 : ∀ (s : Shared) (H : Hp) (C : Addr) (cl : List (Str × Addr)) (fp : List Addr), DI (X.blk s H scope (compEnvC scope cl C X.env) fp) c tg1 iter1 ti1)
    (hg1 : ∀ (s : Shared) (H : Hp) (C : Addr) (cl : List (Str × Addr)) (fp : List Addr), PG (X.blk s H scope (compEnvC scope cl C X.env) fp) tg1 (bd1.tg X.K))
    (ht1 : ∀ (s : Shared) (H : Hp) (C : Addr) (cl : List (Str × Addr)) (fp : List Addr), DQs (X.blk s H scope (compEnvC scope cl C X.env) fp) c ifs1 tq1)
    (he : ∀ (s : Shared) (H : Hp) (C : Addr) (cl : List (Str × Addr)) (fp : List Addr), DE (X.blk s H scope (compEnvC scope cl C X.env) fp) c elt te)
    (hy : X.N[i]? = some y := by rfl) (hyl : X.env.scope.names.lookup y = some .local := by rfl)
    (hvs : ∀ i ∈ bd.slots, i ∈ own.map (·.2) := by decide) (hvs1 : ∀ i ∈ bd1.slots, i ∈ vs1 := by decide) (h12 : ∀ i ∈ vs1, i ∈ own.map (·.2) := by decide) (hs : ∀ x, foldedSetIterable iter X.env x = pure x := by intro _; rfl) (hs1 : ∀ env x, foldedSetIterable iter1 env x = pure x := by intro _ _; rfl) :
    DS X c (.Assign [.Name y py] (.ListComp elt [⟨tg, iter, ifs, 0⟩, ⟨tg1, iter1, ifs1, 0⟩] scope pos) spos) (sAsg i (tLc2X ti bd tq ti1 bd1 tq1 te (own.map (·.2)) vs1)) :=
  psImp (ps_setLc2 (wi1 := TIo X.K c ti1) (g1 := bd1.tg X.K) (tt := TTo X.K c tq) (tt1 := TTo X.K c tq1) (te := TEo X.K c te) hc hN hy hyl hsw hi (blkOk_by ok) h12 hg ht hi1 hg1 ht1 he hs hs1) fun D σ H h => lc2_of hvs hvs1 h12 (sAsg_of h)
end
end
end Y
namespace Y
open PySem PySem.Spec L2
/-! ### {k: v for ..}: the new dict's keys ints and texts (tup = false), or tuples of them (tup = true) -/
def dcNew (tup : Bool) : HO := if tup = true then .dT [] else .dK []
def DcPut (tup : Bool) (D : Addr) (y z : V) (H : Hp) (Nx : Hp → Prop) : Prop :=
  if tup = true then ∃ kvs k b, y = .ref b ∧ H b = some (.tup (k.map kV)) ∧ H D = some (.dT kvs) ∧ kvs.length < sizeLine ∧ Nx (upd H D (.dT (putK kvs k z)))
  else ∃ kvs k, y = kV k ∧ H D = some (.dK kvs) ∧ kvs.length < sizeLine ∧ Nx (upd H D (.dK (putK kvs k z)))
theorem DcPut.run {X : Cx} {pins : List (Addr × Obj)} {σ : St} {H : Hp} {s : Shared} {tup : Bool} {D : Addr} {y z : V} {u r : Value} {Nx : Hp → Prop} {Q : Unit → Shared → Prop} {E : Value → Shared → Prop} (hu : X.A.units + 1 < cLine) (h : DcPut tup D y z H Nx)
    (I : Inv X pins σ H s) (ry : RelV y u) (rz : RelV z r) (q : ∀ s' H', Inv X pins σ H' s' → Nx H' → Q () s') : wpAny (model X.prog X.w) X.A (dictSet D u r) Q E s := by
  cases tup with
  | false =>
    obtain ⟨kvs, k, rfl, hD, hz, nx⟩ := h
    exact d_dictSet I hD hz ry rz fun s' I' => q s' _ I' nx
  | true =>
    obtain ⟨kvs, k, b, rfl, hb, hD, hz, nx⟩ := h
    cases (show u = Value.ref b from ry)
    obtain ⟨_, _, xs, rel, dd⟩ := dt_of I.hok hD
    have hx : xs.length ≤ sizeLine := by rw [← Paired.length rel]; omega
    have hl := length_putK kvs k z
    exact wpAny_dictSet_heap (hsz := hx) (by show X.A.units < cLine; omega) (key_of I.hok hb) dd fun h' d2 sb => q _ _ (dt_write I hD (by omega) (rel.put k hb rz) sb d2) nx
/-- what one turn of the loop asks -/
def DcTurn (tup : Bool) (J : It) (g : TG) (tt : TT) (tk tv : TE) (σ0 : St) (vs : List Nat) (D : Addr) (W : Nat → Nat → Hp → Prop) (Qd : Hp → Prop) : Prop := ∀ i m H, W i m H →
  (J.stop i H ∧ Qd H) ∨ (J.go i H ∧ ∃ Nx : Hp → Prop, (∀ H', Nx H' → ∃ m', m' < m ∧ W (i + 1) m' H') ∧ ∀ x H', J.yld i H x H' → g x σ0 H' fun σ2 H2 => wipe σ2 vs = σ0 ∧
    tt σ2 H2 fun b H3 => if b = true then tk σ2 H3 fun y H4 => tv σ2 H4 fun z H5 => DcPut tup D y z H5 Nx else Nx H3)
def tDcX (tup : Bool) (wi : TI) (g : TG) (tt : TT) (tk tv : TE) (vs : List Nat) : TE := fun σ H Q => wi σ H fun J H1 => ∀ D, H1 D = none →
  ∃ W : Nat → Nat → Hp → Prop, (∃ m, W 0 m (upd H1 D (dcNew tup))) ∧ DcTurn tup J g tt tk tv (wipe σ vs) vs D W (Q (.ref D))
section
variable {Z X : Cx} {pins : List (Addr × Obj)} {tup : Bool} {D it : Addr} {fp : List Addr} {tn : Nat → Heap → Prop} {J : It} {kx vx tg iter : Expr} {ifs : List Expr} {scope : Scope} {own : List (Str × Nat)} {pos : Pos} {wi : TI} {g : TG} {tt : TT} {tk tv : TE}
theorem dc_loop {R : Result → Shared → Prop} {σ0 : St} {vs : List Nat} {W : Nat → Nat → Hp → Prop} {Qd : Hp → Prop} (quiet : ∀ v s, ¬ Z.xe v s) (hu : Z.A.units + 1 < cLine) (calm : Z.calm = true) (T : Turn Z.prog Z.w Z.K tg J fp it tn)
    (mine : ∀ σ' H' s', Inv Z [] σ' H' s' → (∀ b ∈ fp, H' b = none) → ∀ b ∈ fp, FpOk Z [] H' b) (pg : PG Z tg g) (pt : PTs Z ifs tt) (pk : PE Z kx tk) (pv : PE Z vx tv) (turn : DcTurn tup J g tt tk tv σ0 vs D W Qd)
    (bye : ∀ s' H', Inv Z [] σ0 H' s' → Qd H' → R (.ok .next) s') {m : Nat} {s : Shared} {H : Hp} (I : Inv Z [] σ0 H s) (st : tn 0 s.heap) (nf : ∀ b ∈ fp, H b = none) (w0 : W 0 m H) :
    codeAny (model Z.prog Z.w) Z.A (.compLoop (.DictComp kx vx [⟨tg, iter, ifs, 0⟩] scope pos) 0 (.ref it) (.ref D) Z.env) R s := by
  let Stand : Nat → Shared → Prop := fun n s' => ∃ j H', Inv Z [] σ0 H' s' ∧ tn j s'.heap ∧ (∀ b ∈ fp, H' b = none) ∧ W j n H'
  have quiet' : ∀ {α : Type} {t : Sem α} {Q Q' : α → Shared → Prop} {E : Value → Shared → Prop} {s : Shared}, wpAny (model Z.prog Z.w) Z.A t Q Z.xe s → (∀ a s, Q a s → Q' a s) → wpAny (model Z.prog Z.w) Z.A t Q' E s :=
    fun a b => wpAny_mono a b fun v s z => (quiet v s z).elim
  refine compLoop_anyD Stand ?_ m ⟨0, H, I, st, nf, w0⟩
  rintro n sa ⟨j, Ha, Ia, sta, nfa, wa⟩
  have ours := mine _ _ _ Ia nfa
  rcases turn j n Ha wa with ⟨halt, goal⟩ | ⟨more, Nx, less, step⟩
  · refine thn (T.done Z rfl rfl rfl calm j [] sa _ Ha _ Ia ours sta halt) ?_
    rintro _ sb ⟨rfl, Ib⟩
    exact bye sb Ha Ib goal
  · refine thn (T.item Z rfl rfl rfl calm j [] sa _ Ha _ Ia ours sta more) ?_
    rintro _ sb ⟨u, rfl, next⟩
    refine thn next ?_
    rintro _ sc ⟨x, Hc, Ic, rx, yx, stc, nfc⟩
    have objs := T.obj _ _ stc
    refine quiet' (pg.run _ sc _ Hc x u _ (Ic.pinned (mine _ _ _ Ic nfc) objs) rx (step x Hc yx)) ?_
    rintro _ sd ⟨σd, Hd, Id, wd, kd⟩
    have back : ∀ {s' : Shared} {H' : Hp}, Inv Z ([] ++ pinsAt fp sc.heap) σd H' s' → Nx H' → ∃ m', m' < n ∧ Stand m' s' := by
      intro s' H' I' nx
      have kept : ∀ b ∈ fp, ∀ u, sc.heap.get? b = some u → s'.heap.get? b = some u ∧ H' b = none := fun b hb u e => by
        have := I'.pin (b, u) (by simp [mem_pinsAt hb e])
        exact ⟨this.1, this.2.1⟩
      obtain ⟨m', lt, w'⟩ := less H' nx
      have shorter : σ0.length = σd.length := by rw [← wd]; exact wipe_length σd vs
      exact ⟨m', lt, j + 1, H', I'.unpinned.weak shorter fun i v e => by rw [← wd] at e; exact (wipe_some e).1, T.keep _ _ _ stc fun b hb u e => (kept b hb u e).1,
        fun b hb => let ⟨u, e, _⟩ := objs b hb; (kept b hb u e).2, w'⟩
    refine quiet' (pt.run _ sd σd Hd _ Id kd) ?_
    rintro yes se ⟨He, Ie, ke⟩
    cases yes with
    | false => exact back Ie ke
    | true =>
      refine quiet' (pk.run _ se σd He _ Ie ke) ?_
      rintro uk sf ⟨yk, Hf, If, rk, kf⟩
      refine quiet' (pv.run _ sf σd Hf _ If kf) ?_
      rintro uv sg ⟨yv, Hg, Ig, rv, kg⟩
      exact kg.run hu Ig rk rv fun s' H' I' nx => back I' nx

theorem dcx_core {s : Shared} {σ : St} {H : Hp} {Q : VK} {pos' : Pos} {use : Option (Value → Sem Unit)} {Qf : Value → Shared → Prop} (hu : X.A.units + 1 < cLine) (calm : X.calm = true) (nd : X.N.Nodup) (I : Inv X pins σ H s) (hi : PI X tg iter wi) (ok : BlkOk X.N X.env.scope scope own)
    (hg : ∀ (s : Shared) (H : Hp) (C : Addr) (cl : List (Str × Addr)) (fp : List Addr), PG (X.blk s H scope (compEnvC scope cl C X.env) fp) tg g) (ht : ∀ (s : Shared) (H : Hp) (C : Addr) (cl : List (Str × Addr)) (fp : List Addr), PTs (X.blk s H scope (compEnvC scope cl C X.env) fp) ifs tt)
    (hk : ∀ (s : Shared) (H : Hp) (C : Addr) (cl : List (Str × Addr)) (fp : List Addr), PE (X.blk s H scope (compEnvC scope cl C X.env) fp) kx tk)
    (he : ∀ (s : Shared) (H : Hp) (C : Addr) (cl : List (Str × Addr)) (fp : List Addr), PE (X.blk s H scope (compEnvC scope cl C X.env) fp) vx tv) (plain : ∀ x, foldedSetIterable iter X.env x = pure x)
    (h : tDcX tup wi g tt tk tv (own.map (·.2)) σ H Q)
    (done : ∀ D C s' m H', Inv X pins σ H' s' → Q (.ref D) H' → s'.heap.Ns C m → FpOk X pins H' C → compPost (model X.prog X.w) X.A X.xe use Qf (.ref D) C (.ok .next) s') :
    wpAny (model X.prog X.w) X.A (comprehension (.DictComp kx vx [⟨tg, iter, ifs, 0⟩] scope pos) scope X.env pos' newDict false (eval iter X.env) use) Qf X.xe s := by
  have closed := closure_ok (scope := scope) (env := X.env) fun y hy e => I.ok.has y.1 (ok.free y hy e)
  refine wpAny_comprehension_free (use := use) rfl plain closed ok.kind (fun y hy e => (ok.uniq y hy).trans (by rw [e])) (thn (hi.run pins s σ H _ I h) fun _ s1 h1 => thn h1 ?_)
  rintro _ s2 ⟨it, fp, tn, J, H2, rfl, I2, T, st2, own2, q⟩
  refine wpAny_newObj_type (newEnv_comp ?_)
  let D := s2.heap.objs.size
  obtain ⟨W, ⟨m0, w0⟩, turn⟩ := q D (I2.hok.fresh (Nat.le_refl _))
  -- the new dict stands
  let s3 : Shared := { s2 with heap := s2.heap.push { cls := .type "dict", data := .dict #[] } }
  let H3 : Hp := upd H2 D (dcNew tup)
  let C := s3.heap.objs.size
  have up : ∀ b u, s2.heap.get? b = some u → s3.heap.get? b = some u := fun b u e => Heap.get?_push_of_some _ e
  have I3 : Inv X pins σ H3 s3 := by
    refine I2.laid (t' := s2.toks) up (Nat.le_refl _) ?_
    cases tup
    · exact dk_empty s2.heap I2.big
    · exact dt_empty s2.heap I2.big
  have below : ∀ b ∈ fp, b < D := fun b hb => let ⟨_, e, _⟩ := T.obj _ _ st2 b hb; Heap.lt_size e
  have own3 : ∀ b ∈ fp, FpOk X pins H3 b ∧ b < C := fun b hb =>
    ⟨⟨(upd_ne (Nat.ne_of_lt (below b hb))).trans (own2 b hb).1, (own2 b hb).2⟩, by show b < (s2.heap.push _).objs.size; rw [Heap.size_push]; exact Nat.lt_succ_of_lt (below b hb)⟩
  have I4 := block_start I3 ok nd own3
  let cl := cellsFrom (C + 1) scope.names (cloFrom X.env.cells scope.names [])
  let ce := compEnvC scope cl C X.env
  let Z := X.blk s3 H3 scope ce fp
  let s4 : Shared := { s3 with heap := pushCells (s3.heap.push { cls := .type "dict", data := .dict #[] }) scope.names }
  have st4 : tn 0 s4.heap := T.keep _ _ _ st2 fun b _ u e => pushCells_keeps _ _ _ _ (Heap.get?_push_of_some _ (up b u e))
  have loop : codeAny (model X.prog X.w) X.A (.compLoop (.DictComp kx vx [⟨tg, iter, ifs, 0⟩] scope pos) 0 (.ref it) (.ref D) ce) (compPost (model X.prog X.w) X.A X.xe use Qf (.ref D) C) s4 := by
    refine dc_loop (Z := Z) (fun _ _ f => f) hu calm T ?_ (hg s3 H3 C cl fp) (ht s3 H3 C cl fp) (hk s3 H3 C cl fp) (he s3 H3 C cl fp) turn ?_ I4 st4 (fun b hb => (own3 b hb).1.1) w0
    · intro σ' H' s' I' nf b hb
      exact ⟨nf b hb, (I'.ok.exf b hb).1, I'.ok.exfs b hb, .inl hb, fun x c e => (I'.ok.exf b hb).2 x c e, fun p hp => by cases hp⟩
    · intro s' H' I' k
      have I5 : Inv X pins σ H' s' := I3.call' (ch := fp) I'.os I'.base I'.hok I'.bare fun b hb => ⟨(own3 b hb).1.2.2.2.1, (own3 b hb).1.2.1, (own3 b hb).1.2.2.2.2.1, (own3 b hb).1.2.2.2.2.2⟩
      obtain ⟨m, ns, _⟩ := I'.loc
      exact done D C s' m H' I5 k ns (I3.fpOk (Nat.le_refl _) I'.free)
  exact codeAny_compStart_dict loop (T.self X.A 0 _ _ _ st4 loop)
theorem pe_dcx (hu : X.A.units + 1 < cLine) (calm : X.calm = true) (nd : X.N.Nodup) (hi : PI X tg iter wi) (ok : BlkOk X.N X.env.scope scope own)
    (hg : ∀ (s : Shared) (H : Hp) (C : Addr) (cl : List (Str × Addr)) (fp : List Addr), PG (X.blk s H scope (compEnvC scope cl C X.env) fp) tg g) (ht : ∀ (s : Shared) (H : Hp) (C : Addr) (cl : List (Str × Addr)) (fp : List Addr), PTs (X.blk s H scope (compEnvC scope cl C X.env) fp) ifs tt)
    (hk : ∀ (s : Shared) (H : Hp) (C : Addr) (cl : List (Str × Addr)) (fp : List Addr), PE (X.blk s H scope (compEnvC scope cl C X.env) fp) kx tk)
    (he : ∀ (s : Shared) (H : Hp) (C : Addr) (cl : List (Str × Addr)) (fp : List Addr), PE (X.blk s H scope (compEnvC scope cl C X.env) fp) vx tv) (plain : ∀ x, foldedSetIterable iter X.env x = pure x := by intro _; rfl) :
    PE X (.DictComp kx vx [⟨tg, iter, ifs, 0⟩] scope pos) (tDcX tup wi g tt tk tv (own.map (·.2))) := by
  constructor
  intro pins s σ H Q I h
  rw [arm_eval_DictComp]
  refine dcx_core hu calm nd I hi ok hg ht hk he plain h ?_
  rintro D C s' m H' I' q ns ⟨f0, f1, _, f3, f4, f5⟩
  exact ⟨m, ns, fun _ sb => ⟨.ref D, H', I'.turned (t' := s'.toks) (fun b u ne e => (sb.2 b ne).trans e) f0 f1 f3 f4 f5, rfl, q⟩⟩
theorem ps_setDcx {i : Nat} {y : Str} {py spos : Pos} (hu : X.A.units + 1 < cLine) (calm : X.calm = true) (nd : X.N.Nodup) (at_ : X.N[i]? = some y) (loc : X.env.scope.names.lookup y = some .local)
    (sw : swapsWith (.DictComp kx vx [⟨tg, iter, ifs, 0⟩] scope pos) (some (.Name y py)) spos.line X.env = pure true) (hi : PI X tg iter wi) (ok : BlkOk X.N X.env.scope scope own)
    (hg : ∀ (s : Shared) (H : Hp) (C : Addr) (cl : List (Str × Addr)) (fp : List Addr), PG (X.blk s H scope (compEnvC scope cl C X.env) fp) tg g) (ht : ∀ (s : Shared) (H : Hp) (C : Addr) (cl : List (Str × Addr)) (fp : List Addr), PTs (X.blk s H scope (compEnvC scope cl C X.env) fp) ifs tt)
    (hk : ∀ (s : Shared) (H : Hp) (C : Addr) (cl : List (Str × Addr)) (fp : List Addr), PE (X.blk s H scope (compEnvC scope cl C X.env) fp) kx tk)
    (he : ∀ (s : Shared) (H : Hp) (C : Addr) (cl : List (Str × Addr)) (fp : List Addr), PE (X.blk s H scope (compEnvC scope cl C X.env) fp) vx tv) (plain : ∀ x, foldedSetIterable iter X.env x = pure x := by intro _; rfl) :
    PS X (.Assign [.Name y py] (.DictComp kx vx [⟨tg, iter, ifs, 0⟩] scope pos) spos) (tAsg (tDcX tup wi g tt tk tv (own.map (·.2))) (gName i)) := by
  constructor
  intro pins s σ H D I h
  rw [exec_Assign_Name_used _ _ _ _ sw]
  refine wpAny_bind (wpAny_standAt (wpAny_bind ?_))
  show wpAny _ X.A (do let _ ← comprehension (.DictComp kx vx [⟨tg, iter, ifs, 0⟩] scope pos) scope X.env (firstIterPos [⟨tg, iter, ifs, 0⟩] pos) newDict false (eval iter X.env) (some (assign (.Name y py) X.env))) _ _ s
  refine wpAny_bind (thn (dcx_core (Q := fun x H1 => gName i x σ H1 D.nx) (Qf := fun _ s' => SP X pins D .next s') hu calm nd I hi ok hg ht hk he plain h ?_) fun _ _ k => wpAny_pure (wpAny_pure k))
  rintro d C s' m H' I' q ns ⟨f0, f1, _, f3, f4, f5⟩
  refine wpAny_assign_Name (store_ok2 (v := V.ref d) I' nd at_ (.inl loc) rfl ?_ (.inr loc))
  rintro s5 I5 ⟨a, sb, way⟩
  have apart : C ≠ a := way.elim (fun z => by rw [z]; exact f1) fun z e => f4 y a z e.symm
  exact ⟨m, ns.sameBut sb apart, fun _ sb3 => ⟨_, H', I5.turned (t' := s5.toks) (fun b u ne e => (sb3.2 b ne).trans e) f0 f1 f3 f4 f5, q⟩⟩
theorem sw_dc {kx vx : Expr} {gs : List Comprehension} {scope : Scope} {pos py : Pos} {y : Str} {l : Nat} {env : PySem.Env} (hk : env.scope.kind = .function) (hy : env.scope.names.lookup y = some .local) (hl : (py.line == pos.line) = true)
    (ha : (scope.names.any fun (n, k) => n == y && (k == .local || k == .cell)) = false) : swapsWith (.DictComp kx vx gs scope pos) (some (.Name y py)) l env = pure true := by
  have e1 : env.kindOf y = some .local := hy
  have e2 : env.blockKind = .function := by unfold Env.blockKind; rw [hk]; rfl
  simp only [swapsWith, e1, e2, ha, Expr.pos, hl]
  rfl
end
section
variable {K : PySem.W.Frag} {c : Cc} {o o' : Own} {σ σ' : St} {H H' : Hp} {ρ ρ' : Env} {τ τ' : List (V × M)} {X : Cx}
/-- the pairs so far, and one more -/
def dcAdd (tup : Bool) (m : M) (k v : D) (G : M → Prop) : Prop := if tup = true then match m, k with
    | .dt kvs, .tup ks => match D.keys? ks with
      | some k => kvs.length < sizeLine ∧ G (.dt (putD kvs k v))
      | none => False
    | _, _ => False
  else match m with
    | .dk kvs => match k.key? with
      | some k => kvs.length < sizeLine ∧ G (.dk (putD kvs k v))
      | none => False
    | _ => False
def mNew (tup : Bool) : M := if tup = true then .dt [] else .dk []
def dcL (tup : Bool) (b : Bd) (tq : TQ) (tk tv : TX) (vs : List Nat) (gd : Env → Prop) (k : M → Env → Prop) : List D → M → Env → Prop
  | [], acc, ρ => gd ρ ∧ k acc ρ
  | d :: ds, acc, ρ => gd ρ ∧ bnd b d ρ fun ρ1 => tq ρ1 fun ok ρ2 =>
    if ok = true then tFrz (lCons tk (lCons tv lNil)) (fun xs ρ3 => match xs with
      | [x, y] => dcAdd tup acc x y fun acc' => dcL tup b tq tk tv vs gd k ds acc' (wipeE ρ3 vs)
      | _ => False) ρ2
    else dcL tup b tq tk tv vs gd k ds acc (wipeE ρ2 vs)
theorem le_tmp {a : Addr} {j : Nat} {w : HO} (ho : o a = some (.t j)) : Le o H o (upd H a w) :=
  Le.mk' (fun b u q f => ⟨q, (upd_ne fun z => by rw [z, ho] at q; cases q).trans f⟩) (fun b q => ⟨q, upd_ne fun z => by rw [z, ho] at q; cases q⟩) fun b _ q => ⟨q, upd_ne fun z => by rw [z, ho] at q; cases q⟩
theorem dcAdd_ok {tup : Bool} {D0 : Addr} {m : M} {vk vx : V} {dk dx : D} {G : M → Prop} {Nx : Hp → Prop} (R0 : Rep K c o σ H ρ (τ ++ [(.ref D0, m)])) (d1 : Dat K o H vk dk) (d2 : Dat K o H vx dx) (h : dcAdd tup m dk dx G)
    (q : ∀ H' m', Rep K c o σ H' ρ (τ ++ [(.ref D0, m')]) → Le o H o H' → G m' → Nx H') : DcPut tup D0 vk vx H Nx := by
  have last := (R0.tm τ.length (.ref D0) m (by simp)).1
  cases tup with
  | true =>
    unfold dcAdd at h
    rw [if_pos rfl] at h
    split at h
    · rename_i kvs ks'
      split at h
      · rename_i ky ek
        obtain ⟨a, ks, e, ho, hH, dd⟩ := last
        cases e
        cases d1 with
        | tup t r =>
          have ek' := r.keys ek
          subst ek'
          refine ⟨ks, ky, _, rfl, t.2, hH, by rw [dd.length]; exact h.1, ?_⟩
          obtain ⟨R1, L1⟩ := R0.setT (m' := .dt (putD kvs ky dx)) (u := .dT (putK ks ky vx)) ho trivial rfl ⟨_, _, rfl, ho, upd_same, Kvs.mono (le_tmp ho) (dd.put ky d2)⟩
          exact q _ _ R1 L1 h.2
      · exact h.elim
    · exact h.elim
  | false =>
    unfold dcAdd at h
    rw [if_neg (by simp)] at h
    split at h
    · rename_i kvs
      split at h
      · rename_i ky ek
        obtain ⟨a, ks, e, ho, hH, dd⟩ := last
        cases e
        have ek' := d1.key ek
        subst ek'
        refine ⟨ks, ky, rfl, hH, by rw [dd.length]; exact h.1, ?_⟩
        obtain ⟨R1, L1⟩ := R0.setT (m' := .dk (putD kvs ky dx)) (u := .dK (putK ks ky vx)) ho trivial rfl ⟨_, _, rfl, ho, upd_same, Kvs.mono (le_tmp ho) (dd.put ky d2)⟩
        exact q _ _ R1 L1 h.2
      · exact h.elim
    · exact h.elim
theorem dcl_ok {tup : Bool} {J : It} {ds : List D} {bd : Bd} {tq : TQ} {tk tv : TX} {vs : List Nat} {gd : Env → Prop} {k : M → Env → Prop} {C : Own → Hp → Prop} {o1 : Own} {H1 : Hp} {Qd : Hp → Prop} {L : Addr} {m0 : M} (hr : Runs K J ds C) (hvs : ∀ i ∈ bd.slots, i ∈ vs)
    (hc : ∀ o' H' ρ' τ', Le o1 H1 o' H' → Rep K c o' (L2.wipe σ vs) H' ρ' τ' → gd ρ' → C o' H') (R0 : Rep K c o1 (L2.wipe σ vs) H1 ρ (τ ++ [(.ref L, m0)]))
    (h : dcL tup bd tq tk tv vs gd k ds m0 ρ)
    (q : ∀ o' H' ρ' m, Le o1 H1 o' H' → Rep K c o' (L2.wipe σ vs) H' ρ' (τ ++ [(.ref L, m)]) → gd ρ' → k m ρ' → Qd H') :
    ∃ W : Nat → Nat → Hp → Prop, (∃ m, W 0 m H1) ∧ DcTurn tup J (bd.tg K) (TTo K c tq) (TEo K c tk) (TEo K c tv) (L2.wipe σ vs) vs L W Qd := by
  let At : Nat → Hp → Prop := fun i H => ∃ o ρ m, Le o1 H1 o H ∧ Rep K c o (L2.wipe σ vs) H ρ (τ ++ [(.ref L, m)]) ∧ dcL tup bd tq tk tv vs gd k (ds.drop i) m ρ
  refine ⟨fun i n H => n = ds.length - i ∧ i ≤ ds.length ∧ At i H, ⟨ds.length, by simp, Nat.zero_le _, o1, ρ, m0, .refl, R0, by simpa using h⟩, ?_⟩
  rintro i n H ⟨rfl, hi, o, ρ, m, Lo, R, h⟩
  by_cases hlt : i < ds.length
  · rw [show ds.drop i = ds[i] :: ds.drop (i + 1) from List.drop_eq_getElem_cons hlt] at h
    obtain ⟨hg, h⟩ := h
    obtain ⟨go, yl⟩ := (hr o H (hc o H ρ _ Lo R hg) R.mu).1 i ds[i] (by simp [hlt])
    refine .inr ⟨go, At (i + 1), fun H' at' => ⟨ds.length - (i + 1), by omega, rfl, hlt, at'⟩, fun x H' y => ?_⟩
    obtain ⟨g, dx⟩ := yl x H' y
    refine bnd_ok (R.grow g) dx h fun σ' ρ' R' hw hf => ?_
    have same : L2.wipe σ' vs = L2.wipe σ vs := by rw [hw vs hvs, wipe_idem]
    have L2' : Le o1 H1 o H' := Lo.trans (g.le R.mu)
    refine ⟨same, o, ρ', _, _, R', hf, fun b H3 o3 ρ3 L3 R3 h3 => ?_⟩
    cases b with
    | false =>
      have R4 := R3.wipe vs
      rw [same] at R4
      exact ⟨o3, _, m, L2'.trans L3, R4, h3⟩
    | true =>
      refine ⟨o3, ρ3, _, _, R3, h3, fun v1 H4 o4 r1 ρ4 τ4 L4 R4 z1 h4 => ?_⟩
      refine ⟨o4, ρ4, _, _, R4, h4, fun v2 H5 o5 r2 ρ5 τ5 L5 R5 z2 h5 => ?_⟩
      have h5 : match froz ρ5 [r1, r2] with
        | some (ds', ρ6) => (match ds' with
          | [x, y] => dcAdd tup m x y fun acc' => dcL tup bd tq tk tv vs gd k (ds.drop (i + 1)) acc' (wipeE ρ6 vs)
          | _ => False)
        | none => False := h5
      split at h5
      · rename_i ds' ρ6 e
        have zz : RelRs K o5 H5 σ' [v1, v2] [r1, r2] (τ ++ [(.ref L, m)]) τ5 := .cons (z1.mono L5) (.cons z2 .nil)
        have R6 := R5.drop zz.pre
        have els := zz.els (ρ0 := ρ5) (base := (τ ++ [(V.ref L, m)]).length) (Nat.le_refl _) fun j v m e => (R5.tm j v m e).1
        obtain ⟨o6, L6, R7, dd⟩ := froz_ok R6 els e
        split at h5
        · rename_i x y
          cases dd with
          | cons a t =>
            cases t with
            | cons a' t' =>
              cases t'
              refine dcAdd_ok R7 a a' h5 fun H8 m' R8 L8 h8 => ?_
              have R9 := R8.wipe vs
              rw [same] at R9
              exact ⟨o6, _, m', L2'.trans (L3.trans (L4.trans (L5.trans ((dropT_le _).trans (L6.trans L8))))), R9, h8⟩
        · exact h5.elim
      · exact h5.elim
  · have e : i = ds.length := by omega
    subst e
    rw [List.drop_length] at h
    exact .inl ⟨(hr o H (hc o H ρ _ Lo R h.1) R.mu).2, q o H ρ m Lo R h.1 h.2⟩
/-- (a source that is no name's own list) -/
def tDc (tup : Bool) (ti : TSrc) (b : Bd) (tq : TQ) (tk tv : TX) (vs : List Nat) : TX := fun ρ Q => ti ρ fun src ρ1 => match src with
  | .fx ds => dcL tup b tq tk tv vs (fun _ => True) (fun m ρ' => Q (.tm m) (restE ρ1 ρ' vs)) ds (mNew tup) (wipeE ρ1 vs)
  | .sl i es ds => match ρ1.sl[i]? with
    | some s => match s.m! with
      | some m => m = .ls es ∧ ∀ v, dcL tup b tq tk tv vs (fun ρ => ρ.sl[i]? = some (.hd s.isP v m)) (fun m' ρ' => Q (.tm m') ((restE ρ1 ρ' vs).set i s)) ds (mNew tup) (wipeE (ρ1.set i (.hd s.isP v m)) vs)
      | none => False
    | none => False
  | .hs i p v es ds => dcL tup b tq tk tv vs (fun ρ => ρ.sl[i]? = some (.hd p v (.ls es))) (fun m ρ' => Q (.tm m) (restE ρ1 ρ' vs)) ds (mNew tup) (wipeE ρ1 vs)
  | .wo n es ds => dcL tup b tq tk tv vs (fun ρ => ρ.st[n]? = some (.ls es)) (fun m ρ' => Q (.tm m) (restE ρ1 ρ' vs)) ds (mNew tup) (wipeE ρ1 vs)
theorem dc_of {tup : Bool} {ti : TSrc} {bd : Bd} {tq : TQ} {tk tv : TX} {vs : List Nat} {k : VK} (hvs : ∀ i ∈ bd.slots, i ∈ vs) (h : TEo K c (tDc tup ti bd tq tk tv vs) σ H k) : tDcX tup (TIo K c ti) (bd.tg K) (TTo K c tq) (TEo K c tk) (TEo K c tv) vs σ H k := by
  obtain ⟨o, ρ, τ, Q, R0, h, q⟩ := h
  refine ⟨o, ρ, τ, _, R0, h, fun J H1 o1 ρ1 src L1 R1 ok h1 => ?_⟩
  intro L hL
  have push : ∀ {o2 : Own} {ρ2 : Env}, Rep K c o2 σ H1 ρ2 τ → Rep K c (fun b => if b = L then some (.t τ.length) else o2 b) σ (upd H1 L (dcNew tup)) ρ2 (τ ++ [(.ref L, mNew tup)]) ∧ Le o2 H1 (fun b => if b = L then some (.t τ.length) else o2 b) (upd H1 L (dcNew tup)) := by
    intro o2 ρ2 R2
    cases tup
    · exact R2.push (m := .dk []) (u := .dK []) hL trivial rfl ⟨L, [], rfl, by simp, upd_same, .nil⟩
    · exact R2.push (m := .dt []) (u := .dT []) hL trivial rfl ⟨L, [], rfl, by simp, upd_same, .nil⟩
  cases src with
  | fx ds =>
    obtain ⟨R2, L2'⟩ := push R1
    refine dcl_ok (C := fun o' H' => Le o1 H1 o' H') ok hvs (fun o' H' ρ' τ' L' R' _ => L2'.trans L') (R2.wipe vs) h1 fun o' H' ρ' m L' R' _ hk => ?_
    exact q _ H' o' (.tm m) _ _ (L1.trans (L2'.trans L')) (Rep.rest R1 (L2'.trans L') R') rfl hk
  | sl i es ds =>
    obtain ⟨v0, hv0, ok⟩ := ok
    have h1 : (match ρ1.sl[i]? with
      | some s => match s.m! with
        | some m => m = .ls es ∧ ∀ v, dcL tup bd tq tk tv vs (fun ρ => ρ.sl[i]? = some (.hd s.isP v m)) (fun m' ρ' => Q (.tm m') ((restE ρ1 ρ' vs).set i s)) ds (mNew tup) (wipeE (ρ1.set i (.hd s.isP v m)) vs)
        | none => False
      | none => False) := h1
    split at h1
    · rename_i s e
      split at h1
      · rename_i m em
        obtain ⟨rfl, h1⟩ := h1
        obtain ⟨v, hv, R2⟩ := R1.hide e em
        rw [hv0] at hv; cases hv
        have L2' : Le o1 H1 (relL (.s i) (.h i) o1) H1 := relL_le (by intro z; cases z)
        obtain ⟨R3, L3⟩ := push R2
        refine dcl_ok (C := fun o' H' => ∃ l, IsM K o' H' l v0 (.ls es)) ok hvs (fun o' H' ρ' τ' L' R' g => ?_) (R3.wipe vs) (h1 v0) fun o' H' ρ' m' L' R' g hk => ?_
        · obtain ⟨_, _, q⟩ := R'.sl i _ g
          exact ⟨_, q⟩
        · obtain ⟨hw, _, _⟩ := R'.sl i _ g
          have hi := (wipe_some hw).2
          have R4 := Rep.rest R1 (L2'.trans (L3.trans L')) R'
          obtain ⟨R5, L5⟩ := R4.unhide (i := i) (p := s.isP) (v := v0) (m := .ls es) (by rw [rest_out hi]; exact g)
          rw [up_back em] at R5
          exact q _ H' _ (.tm m') _ _ (L1.trans (L2'.trans (L3.trans (L'.trans L5)))) R5 rfl hk
      · exact h1.elim
    · exact h1.elim
  | hs i p v es ds =>
    obtain ⟨R2, L2'⟩ := push R1
    refine dcl_ok (C := fun o' H' => ∃ l, IsM K o' H' l v (.ls es)) ok hvs (fun o' H' ρ' τ' L' R' g => ?_) (R2.wipe vs) h1 fun o' H' ρ' m L' R' _ hk => ?_
    · obtain ⟨_, _, q⟩ := R'.sl i _ g
      exact ⟨_, q⟩
    · exact q _ H' o' (.tm m) _ _ (L1.trans (L2'.trans L')) (Rep.rest R1 (L2'.trans L') R') rfl hk
  | wo n es ds =>
    obtain ⟨ad, e1, ok⟩ := ok
    obtain ⟨R2, L2'⟩ := push R1
    refine dcl_ok ok hvs (fun o' H' ρ' τ' L' R' g => R'.woC e1 (L2'.trans L') g) (R2.wipe vs) h1 fun o' H' ρ' m L' R' _ hk => ?_
    exact q _ H' o' (.tm m) _ _ (L1.trans (L2'.trans L')) (Rep.rest R1 (L2'.trans L') R') rfl hk
section
variable {kx vx tg iter : Expr} {ifs : List Expr} {scope : Scope} {own : List (Str × Nat)} {pos : Pos} {ti : TSrc} {bd : Bd} {tq : TQ} {tk tv : TX}
theorem de_dc (tup : Bool) (hu : X.A.units + 1 < cLine) (hc : X.calm = true) (hN : X.N.Nodup) (hi : DI X c tg iter ti) (ok : blkC X.N X.env.scope scope own = true)
    (hg : ∀ (s : Shared) (H : Hp) (C : Addr) (cl : List (Str × Addr)) (fp : List Addr), PG (X.blk s H scope (compEnvC scope cl C X.env) fp) tg (bd.tg X.K))
    (ht : ∀ (s : Shared) (H : Hp) (C : Addr) (cl : List (Str × Addr)) (fp : List Addr), DQs (X.blk s H scope (compEnvC scope cl C X.env) fp) c ifs tq)
    (hk : ∀ (s : Shared) (H : Hp) (C : Addr) (cl : List (Str × Addr)) (fp : List Addr), DE (X.blk s H scope (compEnvC scope cl C X.env) fp) c kx tk)
    (he : ∀ (s : Shared) (H : Hp) (C : Addr) (cl : List (Str × Addr)) (fp : List Addr), DE (X.blk s H scope (compEnvC scope cl C X.env) fp) c vx tv)
    (hvs : ∀ i ∈ bd.slots, i ∈ own.map (·.2) := by decide) (hs : ∀ x, foldedSetIterable iter X.env x = pure x := by intro _; rfl) : DE X c (.DictComp kx vx [⟨tg, iter, ifs, 0⟩] scope pos) (tDc tup ti bd tq tk tv (own.map (·.2))) :=
  peImp (pe_dcx (tup := tup) (tt := TTo X.K c tq) (tk := TEo X.K c tk) (tv := TEo X.K c tv) hu hc hN hi (blkOk_by ok) hg ht hk he hs) fun σ H k h => dc_of hvs h
theorem ds_setDc (tup : Bool) {i : Nat} {y : Str} {py spos : Pos} (hu : X.A.units + 1 < cLine) (hc : X.calm = true) (hN : X.N.Nodup) (hsw : swapsWith (.DictComp kx vx [⟨tg, iter, ifs, 0⟩] scope pos) (some (.Name y py)) spos.line X.env = pure true) (hi : DI X c tg iter ti) (ok : blkC X.N X.env.scope scope own = true)
    (hg : ∀ (s : Shared) (H : Hp) (C : Addr) (cl : List (Str × Addr)) (fp : List Addr), PG (X.blk s H scope (compEnvC scope cl C X.env) fp) tg (bd.tg X.K))
    (ht : ∀ (s : Shared) (H : Hp) (C : Addr) (cl : List (Str × Addr)) (fp : List Addr), DQs (X.blk s H scope (compEnvC scope cl C X.env) fp) c ifs tq)
    (hk : ∀ (s : Shared) (H : Hp) (C : Addr) (cl : List (Str × Addr)) (fp : List Addr), DE (X.blk s H scope (compEnvC scope cl C X.env) fp) c kx tk)
    (he : ∀ (s : Shared) (H : Hp) (C : Addr) (cl : List (Str × Addr)) (fp : List Addr), DE (X.blk s H scope (compEnvC scope cl C X.env) fp) c vx tv)
    (hy : X.N[i]? = some y := by rfl) (hyl : X.env.scope.names.lookup y = some .local := by rfl) (hvs : ∀ i ∈ bd.slots, i ∈ own.map (·.2) := by decide) (hs : ∀ x, foldedSetIterable iter X.env x = pure x := by intro _; rfl) :
    DS X c (.Assign [.Name y py] (.DictComp kx vx [⟨tg, iter, ifs, 0⟩] scope pos) spos) (sAsg i (tDc tup ti bd tq tk tv (own.map (·.2)))) :=
  psImp (ps_setDcx (tup := tup) (tt := TTo X.K c tq) (tk := TEo X.K c tk) (tv := TEo X.K c tv) hu hc hN hy hyl hsw hi (blkOk_by ok) hg ht hk he hs) fun D σ H h => dc_of hvs (sAsg_of h)
end
end
end Y
namespace Y
open PySem PySem.Spec L2
/-! ### the module's own tables: a tuple of flat data, a dict from texts to flat data -/
def D.fl? : D → Option V
  | .non => some .non
  | .bl b => some (.bl b)
  | .int i => some (.int i)
  | .str x => some (.str x)
  | _ => none
theorem fl_dat {K : PySem.W.Frag} {o : Own} {H : Hp} {v : V} {d : D} (e : d.fl? = some v) : Dat K o H v d := by
  cases d with
  | non => cases e; exact .non
  | bl b => cases e; exact .bl b
  | int i => cases e; exact .int i
  | str x => cases e; exact .str x
  | tup _ => cases e
  | lst _ => cases e
  | raw _ => cases e
  | fnv _ _ _ _ _ => cases e
  | obj _ => cases e
def Gv (d : D) (u : Value) : Prop := ∃ v, d.fl? = some v ∧ RelV v u
theorem Gv.str {x : Str} {t : Tok} : Gv (.str x) (.str x t) := ⟨_, rfl, t, rfl⟩
theorem Gv.int {i : Int} {t : Tok} : Gv (.int i) (.int i t) := ⟨_, rfl, t, rfl⟩
theorem Gv.bl {b : Bool} : Gv (.bl b) (.bool b) := ⟨_, rfl, rfl⟩
theorem Gv.non : Gv .non .none := ⟨_, rfl, rfl⟩
def tabGet : List (Str × D) → Str → Option D
  | [], _ => none
  | p :: r, z => if p.1 = z then some p.2 else tabGet r z
/-- the name x is the module's dict of these rows -/
def GTab (K : PySem.W.Frag) (w : World) (mg : Str → Option Value) (x : Str) (tab : List (Str × D)) : Prop :=
  ∃ a es n, mg x = some (.ref a) ∧ KDict K w a es n ∧ Paired (fun (e : DictEntry) (p : Str × D) => (∃ t, e.key = .str p.1 t) ∧ Gv p.2 e.val) es.toList tab
/-- the name x is the module's tuple of these -/
def GTup (K : PySem.W.Frag) (mg : Str → Option Value) (x : Str) (ds : List D) : Prop :=
  ∃ a u its n, mg x = some (.ref a) ∧ K.lookup a = some u ∧ u.cls = .type "tuple" ∧ u.data = .seq its n ∧ its.size ≤ sizeLine ∧ Paired (fun (u : Value) (d : D) => Gv d u) its.toList ds
theorem tab_at {K : PySem.W.Frag} {a : Addr} {c : Value} {od : Option Addr} {es : Array DictEntry} {n : Nat} {sl : Array (Option Value)} {tab : List (Str × D)} (hl : K.lookup a = some ⟨c, od, .dict es n, sl⟩)
    (h : Paired (fun (e : DictEntry) (p : Str × D) => (∃ t, e.key = .str p.1 t) ∧ Gv p.2 e.val) es.toList tab) (z : Str) :
    match tabGet tab z with
    | some d => ∃ u, PySem.W.nsIn K a z = some (some u) ∧ Gv d u
    | none => PySem.W.nsIn K a z = some none := by
  unfold PySem.W.nsIn
  rw [hl]
  simp only
  have none_ref : ∀ {l : List DictEntry} {t : List (Str × D)}, Paired (fun (e : DictEntry) (p : Str × D) => (∃ t, e.key = .str p.1 t) ∧ Gv p.2 e.val) l t → l.any (·.refKey) = false := by
    intro l t g
    induction g with
    | nil => rfl
    | cons a _ ih =>
      obtain ⟨⟨t, e⟩, _⟩ := a
      rw [List.any_cons, ih, Bool.or_false]
      unfold DictEntry.refKey
      rw [e]
  rw [none_ref h]
  generalize es.toList = l at h
  induction h with
  | nil => rfl
  | @cons e p l t a _ ih =>
    obtain ⟨⟨tk, ek⟩, gv⟩ := a
    rw [List.find?_cons]
    have isz : e.key.isStr z = decide (p.1 = z) := by
      rw [ek]; unfold Value.isStr
      by_cases q : p.1 = z
      · simp [q]
      · simp [q]
    unfold tabGet
    by_cases q : p.1 = z
    · rw [if_pos q, isz, decide_eq_true q]
      exact ⟨_, rfl, gv⟩
    · rw [if_neg q, isz, decide_eq_false q]
      exact ih
section
variable {K : PySem.W.Frag} {c : Cc} {o o' : Own} {σ σ' : St} {H H' : Hp} {ρ ρ' : Env} {τ τ' : List (V × M)} {X : Cx} {e : Expr} {pos : Pos} {x : Str} {p : Pos}
/-- something is made of one value -/
def tOn (f : D → (D → Prop) → Prop) (t : TX) : TX := fun ρ Q => t ρ fun r ρ1 => match r with
  | .im d => f d fun e => Q (.im e) ρ1
  | _ => False
theorem tOn_of {f : D → (D → Prop) → Prop} {t : TX} {k : VK} {r : V → Hp → VK → Prop} (h : TEo K c (tOn f t) σ H k)
    (hr : ∀ o H v d (G : D → Prop) (k : VK), Dat K o H v d → f d G → (∀ v' e, Dat K o H v' e → G e → k v' H) → r v H k) : tUn r (TEo K c t) σ H k := by
  obtain ⟨o, ρ, τ, Q, R0, h, q⟩ := h
  refine ⟨o, ρ, τ, _, R0, h, fun v1 H1 o1 r1 ρ1 τ1 L1 R1 z1 h1 => ?_⟩
  split at h1
  · rename_i d
    obtain ⟨rfl, z⟩ := z1
    exact hr o1 H1 v1 d _ _ z h1 fun v' e de g => q v' H1 o1 (.im e) ρ1 _ L1 R1 ⟨rfl, de⟩ g
  · exact h1.elim
def fInD (neg : Bool) (tab : List (Str × D)) (d : D) (k : D → Prop) : Prop := match d with
  | .str z => k (.bl (neg ^^ (tabGet tab z).isSome))
  | _ => False
def fInT (neg : Bool) (ds : List D) (d : D) (k : D → Prop) : Prop := D.ok 64 d = true ∧ k (.bl (neg ^^ ds.any fun z => z.eqv d))
def fIxD (tab : List (Str × D)) (d : D) (k : D → Prop) : Prop := match d with
  | .str z => match tabGet tab z with
    | some e => k e
    | none => False
  | _ => False
def rInG (K : PySem.W.Frag) (a : Addr) (tab : List (Str × D)) (neg : Bool) : R2 := fun x y H Q => ∃ z, x = .str z ∧ y = .ref a ∧ Q (.bl (neg ^^ (tabGet tab z).isSome)) H
theorem op_inG {a : Addr} {es : Array DictEntry} {n : Nat} {tab : List (Str × D)} (kd : KDict X.K X.w a es n) (h : Paired (fun (e : DictEntry) (p : Str × D) => (∃ t, e.key = .str p.1 t) ∧ Gv p.2 e.val) es.toList tab) : OpR X (compareOp .In) (rInG X.K a tab false) := by
  intro pins s σ H x y v u Q I rx ry ⟨z, ex, ey, q⟩
  have at_ := tab_at kd.at_ h z
  rw [Bool.false_xor] at q
  cases e : tabGet tab z with
  | none => rw [e] at at_ q; exact op_in_kd kd pins s σ H x y v u Q I rx ry ⟨z, none, ex, ey, at_, q⟩
  | some d => rw [e] at at_ q; obtain ⟨u', at_, _⟩ := at_; exact op_in_kd kd pins s σ H x y v u Q I rx ry ⟨z, some u', ex, ey, at_, q⟩
theorem op_notInG {a : Addr} {es : Array DictEntry} {n : Nat} {tab : List (Str × D)} (kd : KDict X.K X.w a es n) (h : Paired (fun (e : DictEntry) (p : Str × D) => (∃ t, e.key = .str p.1 t) ∧ Gv p.2 e.val) es.toList tab) : OpR X (compareOp .NotIn) (rInG X.K a tab true) := by
  intro pins s σ H x y v u Q I rx ry ⟨z, ex, ey, q⟩
  have at_ := tab_at kd.at_ h z
  rw [Bool.true_xor] at q
  cases e : tabGet tab z with
  | none => rw [e] at at_ q; exact op_notIn_kd kd pins s σ H x y v u Q I rx ry ⟨z, none, ex, ey, at_, q⟩
  | some d => rw [e] at at_ q; obtain ⟨u', at_, _⟩ := at_; exact op_notIn_kd kd pins s σ H x y v u Q I rx ry ⟨z, some u', ex, ey, at_, q⟩
theorem gtup_dp {a : Addr} {u : Obj} {its : Array Value} {n : Nat} {ds : List D} (hl : K.lookup a = some u) (hc : u.cls = .type "tuple") (hd : u.data = .seq its n) (hs : its.size ≤ sizeLine) (h : Paired (fun (u : Value) (d : D) => Gv d u) its.toList ds)
    (ok : D.oks 63 ds = true) : Dp K H (.ref a) (.tuple (D.pys ds)) := by
  obtain ⟨xs, rel, dats⟩ : ∃ xs : List V, Vals xs its.toList ∧ Dats K (fun _ => none) H xs ds := by
    generalize its.toList = l at h
    clear ok hd hs
    induction h with
    | nil => exact ⟨[], .nil, .nil⟩
    | cons a _ ih =>
      obtain ⟨xs, r, dd⟩ := ih
      obtain ⟨v, e, rv⟩ := a
      exact ⟨v :: xs, .cons rv r, .cons (fl_dat e) dd⟩
  exact .tup (.inr ⟨u, its, n, hl, hc, hd, hs, rel⟩) (dats.dp ok)
theorem inT_ok {a : Addr} {u : Obj} {its : Array Value} {n : Nat} {ds : List D} {neg : Bool} (hl : K.lookup a = some u) (hc : u.cls = .type "tuple") (hd : u.data = .seq its n) (hs : its.size ≤ sizeLine) (h : Paired (fun (u : Value) (d : D) => Gv d u) its.toList ds) (ok : D.oks 63 ds = true)
    {o : Own} {H : Hp} {v : V} {d : D} {G : D → Prop} {k : VK} (hv : Dat K o H v d) (hf : fInT neg ds d G) (q : ∀ v' e, Dat K o H v' e → G e → k v' H) : rInT K neg v (.ref a) H k := by
  have e2 : D.ok 64 (.tup ds) = true := by simp only [D.ok]; exact ok
  refine ⟨d.py, D.pys ds, hv.dp hf.1, gtup_dp hl hc hd hs h ok, D.ok_shaped hf.1, by have := D.ok_shaped e2; simpa only [D.py] using this, ?_⟩
  rw [any_eqv]
  exact q _ (.bl _) (.bl _) hf.2
section
variable {t : TX} {tab : List (Str × D)} {ds : List D} {neg : Bool} {op : CmpOp}
theorem inD_of {a : Addr} {k : VK} (h : TEo K c (tOn (fInD neg tab) t) σ H k) : tOp (rInG K a tab neg) (TEo K c t) (tC (.ref a)) σ H k :=
  tOn_of (r := fun x H Q => rInG K a tab neg x (.ref a) H Q) h fun o H v d G k hv hf q => by
    cases hv <;> first | exact hf.elim | exact ⟨_, rfl, rfl, q _ _ (.bl _) hf⟩
theorem de_inG (hg : Gl X x) (g : GTab X.K X.w X.mg x tab) (he : DE X c e t) (hdb : (x == ("__debug__" : Str)) = false := by decide) (hm : behindInMarks .In (.Name x p) = false := by first | exact nomark _ | rfl) : DE X c (.Compare e [.In] [.Name x p] pos) (tOn (fInD false tab) t) :=
  let ⟨a, es, n, m, kd, pr⟩ := g; peImp (pe_cmpR (op_inG kd pr) he (pe_glob (v := .ref a) hg m rfl hdb) hm) fun _ _ _ h => inD_of h
theorem de_notInG (hg : Gl X x) (g : GTab X.K X.w X.mg x tab) (he : DE X c e t) (hdb : (x == ("__debug__" : Str)) = false := by decide) (hm : behindInMarks .NotIn (.Name x p) = false := by first | exact nomark _ | rfl) : DE X c (.Compare e [.NotIn] [.Name x p] pos) (tOn (fInD true tab) t) :=
  let ⟨a, es, n, m, kd, pr⟩ := g; peImp (pe_cmpR (op_notInG kd pr) he (pe_glob (v := .ref a) hg m rfl hdb) hm) fun _ _ _ h => inD_of h
theorem dt_inG (hg : Gl X x) (g : GTab X.K X.w X.mg x tab) (he : DE X c e t) (hdb : (x == ("__debug__" : Str)) = false := by decide) (hm : behindInMarks .In (.Name x p) = false := by first | exact nomark _ | rfl) : DT X c (.Compare e [.In] [.Name x p] pos) (tTst (tOn (fInD false tab) t)) :=
  let ⟨a, es, n, m, kd, pr⟩ := g; ptImp (pt_cmpR (op_inG kd pr) he (pe_glob (v := .ref a) hg m rfl hdb) hm) fun _ _ _ h => inD_of (tTst_of h)
theorem dt_notInG (hg : Gl X x) (g : GTab X.K X.w X.mg x tab) (he : DE X c e t) (hdb : (x == ("__debug__" : Str)) = false := by decide) (hm : behindInMarks .NotIn (.Name x p) = false := by first | exact nomark _ | rfl) : DT X c (.Compare e [.NotIn] [.Name x p] pos) (tTst (tOn (fInD true tab) t)) :=
  let ⟨a, es, n, m, kd, pr⟩ := g; ptImp (pt_cmpR (op_notInG kd pr) he (pe_glob (v := .ref a) hg m rfl hdb) hm) fun _ _ _ h => inD_of (tTst_of h)
theorem inT_of {a : Addr} {u : Obj} {its : Array Value} {n : Nat} {k : VK} (h1 : K.lookup a = some u) (h2 : u.cls = .type "tuple") (h3 : u.data = .seq its n) (h4 : its.size ≤ sizeLine) (h5 : Paired (fun (u : Value) (d : D) => Gv d u) its.toList ds) (ok : D.oks 63 ds = true)
    (h : TEo K c (tOn (fInT neg ds) t) σ H k) : tOp (rInT K neg) (TEo K c t) (tC (.ref a)) σ H k :=
  tOn_of (r := fun x H Q => rInT K neg x (.ref a) H Q) h fun o H v d G k hv hf q => inT_ok h1 h2 h3 h4 h5 ok hv hf q
theorem de_inT (hu : X.A.units + 65 < cLine) (hg : Gl X x) (g : GTup X.K X.mg x ds) (he : DE X c e t) (ok : D.oks 63 ds = true := by decide) (hdb : (x == ("__debug__" : Str)) = false := by decide) (hm : behindInMarks .In (.Name x p) = false := by first | exact nomark _ | rfl) :
    DE X c (.Compare e [.In] [.Name x p] pos) (tOn (fInT false ds) t) :=
  let ⟨a, u, its, n, m, h1, h2, h3, h4, h5⟩ := g; peImp (pe_cmpR (op_inT hu) he (pe_glob (v := .ref a) hg m rfl hdb) hm) fun _ _ _ h => inT_of h1 h2 h3 h4 h5 ok h
theorem de_notInT (hu : X.A.units + 65 < cLine) (hg : Gl X x) (g : GTup X.K X.mg x ds) (he : DE X c e t) (ok : D.oks 63 ds = true := by decide) (hdb : (x == ("__debug__" : Str)) = false := by decide) (hm : behindInMarks .NotIn (.Name x p) = false := by first | exact nomark _ | rfl) :
    DE X c (.Compare e [.NotIn] [.Name x p] pos) (tOn (fInT true ds) t) :=
  let ⟨a, u, its, n, m, h1, h2, h3, h4, h5⟩ := g; peImp (pe_cmpR (op_notInT hu) he (pe_glob (v := .ref a) hg m rfl hdb) hm) fun _ _ _ h => inT_of h1 h2 h3 h4 h5 ok h
theorem dt_inT (hu : X.A.units + 65 < cLine) (hg : Gl X x) (g : GTup X.K X.mg x ds) (he : DE X c e t) (ok : D.oks 63 ds = true := by decide) (hdb : (x == ("__debug__" : Str)) = false := by decide) (hm : behindInMarks .In (.Name x p) = false := by first | exact nomark _ | rfl) :
    DT X c (.Compare e [.In] [.Name x p] pos) (tTst (tOn (fInT false ds) t)) :=
  let ⟨a, u, its, n, m, h1, h2, h3, h4, h5⟩ := g; ptImp (pt_cmpR (op_inT hu) he (pe_glob (v := .ref a) hg m rfl hdb) hm) fun _ _ _ h => inT_of h1 h2 h3 h4 h5 ok (tTst_of h)
theorem dt_notInT (hu : X.A.units + 65 < cLine) (hg : Gl X x) (g : GTup X.K X.mg x ds) (he : DE X c e t) (ok : D.oks 63 ds = true := by decide) (hdb : (x == ("__debug__" : Str)) = false := by decide) (hm : behindInMarks .NotIn (.Name x p) = false := by first | exact nomark _ | rfl) :
    DT X c (.Compare e [.NotIn] [.Name x p] pos) (tTst (tOn (fInT true ds) t)) :=
  let ⟨a, u, its, n, m, h1, h2, h3, h4, h5⟩ := g; ptImp (pt_cmpR (op_notInT hu) he (pe_glob (v := .ref a) hg m rfl hdb) hm) fun _ _ _ h => inT_of h1 h2 h3 h4 h5 ok (tTst_of h)
theorem de_ixG (hg : Gl X x) (g : GTab X.K X.w X.mg x tab) (he : DE X c e t) (hdb : (x == ("__debug__" : Str)) = false := by decide) (hs : PlainIx e := by intro _ _; rfl) : DE X c (.Subscript (.Name x p) e pos) (tOn (fIxD tab) t) := by
  obtain ⟨a, es, n, m, kd, pr⟩ := g
  refine peImp (pe_ix ix_kdict (pe_glob (v := .ref a) hg m rfl hdb) he hs) fun σ H k h => ?_
  refine tOn_of (r := fun y H Q => rIxD X.K X.w (.ref a) y H Q) h fun o H v d G k hv hf q => ?_
  cases hv <;> first | exact hf.elim | skip
  rename_i z
  have at_ := tab_at kd.at_ pr z
  unfold fIxD at hf
  simp only at hf
  split at hf
  · rename_i d' ed
    rw [ed] at at_
    obtain ⟨u, hn, v', fl, rel⟩ := at_
    exact ⟨a, z, v', rfl, rfl, ⟨es, n, u, kd.at_, kd.lit, hn, rel⟩, q v' d' (fl_dat fl) hf⟩
  · exact hf.elim
end
end
end Y
namespace Y
open PySem PySem.Spec L2
/-! ### functions as values -/
def D.fa? : D → Option Addr
  | .raw (.ref f) => some f
  | .fnv f _ _ _ _ => some f
  | _ => none
theorem Dat.fa {K : PySem.W.Frag} {o : Own} {H : Hp} {v : V} {d : D} {f : Addr} (h : Dat K o H v d) (e : d.fa? = some f) : v = .ref f := by
  cases h with
  | raw v =>
    cases v with
    | ref a => cases e; rfl
    | _ => cases e
  | fnv _ _ _ => cases e; rfl
  | _ => cases e
def spO (K : PySem.W.Frag) (F : TF) (n : Nat) (o : Own) : List V → Hp → VK → Prop := fun vs H Q => ∃ ms W G, vs.length = n ∧ ArgsOk K o H vs ms W ∧ F ms W G gx0 ∧
  ∀ v H' o' m fin W', Le o H o' H' → Aft K o' H' W' → IsM K o' H' (.t 0) v m → FinOk K o' H' vs fin → G m fin W' → Q v H'
def spV (K : PySem.W.Frag) (f : Addr) (d : D) (F : TF) (n : Nat) : Sp := fun vs H Q _ => ∃ o, Dat K o H (.ref f) d ∧ spO K F n o vs H Q
/-- d may be called, with n arguments, at the level k; it keeps the promise F -/
structure FnV (Pg : Program) (w : World) (K : PySem.W.Frag) (mg : Str → Option Value) (base : Heap) (k n : Nat) (d : D) (F : TF) : Prop where
  ex : ∃ f, d.fa? = some f ∧ (∀ h : Heap, K.In h → (∀ b u, base.get? b = some u → h.get? b = some u) → PySem.W.FnAt f h) ∧
    ∀ (A : Around) (outer : List PySem.Env) (s : Shared) (H : Hp) (us : List Value) (vs : List V) (Q : VK) (E : XK), Room k A → Env0 Pg w K mg base A outer s H → Vals vs us → spV K f d F n vs H Q E →
      codeAny (model Pg w) A (.call (.ref f) ⟨us, []⟩) (CR CX0 outer Pg w H s Q E) s
theorem FnV.mono {Pg : Program} {w : World} {K : PySem.W.Frag} {mg : Str → Option Value} {base : Heap} {j k n : Nat} {d : D} {F : TF} (h : FnV Pg w K mg base j n d F) (l : j ≤ k) : FnV Pg w K mg base k n d F :=
  let ⟨f, a, b, r⟩ := h.ex; ⟨f, a, b, fun A outer s H us vs Q E hr => r A outer s H us vs Q E (hr.mono l)⟩
/-- one of the module's defs -/
theorem FnV.of {Pg : Program} {w : World} {K : PySem.W.Frag} {mg : Str → Option Value} {base : Heap} {name : Str} {st : Stmt} {ps : List Str} {Df : DefAt K mg name st ps} {k : Nat} {F : TF} (G : FnD Pg w K mg base Df k F) : FnV Pg w K mg base k ps.length (.raw (.ref Df.f)) F := by
  refine ⟨Df.f, rfl, fun h kin _ => ?_, fun A outer s H us vs Q E hr e0 rel sp => ?_⟩
  · obtain ⟨oc, od, kV, doc, pm, an, cdv, ct, osl, _, lk, _⟩ := Df.fu.ex
    exact ⟨oc, od, _, osl, kin _ _ lk⟩
  · obtain ⟨o, _, ms, W, Gm, hl, ha, hF, q⟩ := sp
    have kin : K.In s.heap := e0.mod.kin.keeps fun b u e => (e0.bs b u e).1
    exact G.run A outer s H ⟨us, []⟩ us vs Q E hr e0 (by have := Df.bd s us kin (by rw [List.append_nil, ← rel.length]; exact hl); simpa using this) rel ⟨o, ms, W, Gm, gx0, hl, ha, hF, q, fun _ _ _ _ _ _ _ _ z => z.elim⟩
section
variable {K : PySem.W.Frag} {c : Cc} {o o' : Own} {σ σ' : St} {H H' : Hp} {ρ ρ' : Env} {τ τ' τ0 τ1 : List (V × M)} {X : Cx} {e a b : Expr} {es : List Expr} {pos p : Pos} {t u : TX} {F : TF} {n k j : Nat} {f : Addr} {x : Str} {ta : TL}
theorem callO {kk : VK} {Q : R → Env → Prop} {vs : List V} {H1 : Hp} {o1 : Own} {rs : List R} {ρ1 : Env} (q : ∀ v H' o' r ρ' τ', Le o H o' H' → Rep K c o' σ H' ρ' τ' → RelR K o' H' σ v r τ τ' → Q r ρ' → kk v H')
    (L1 : Le o H o1 H1) (R1 : Rep K c o1 σ H1 ρ1 τ1) (z1 : RelRs K o1 H1 σ vs rs τ τ1) (h1 : match argMs ρ1 rs with
      | some ms => rs.length = n ∧ (slots rs).Nodup ∧ F ms ρ1.st (fun m fin W => m.fit = true ∧ Q m.res ((putB rs fin ρ1).put W)) fun x W => ex0 x ((putB rs [] ρ1).put W)
      | none => False) : ∃ o2, Le o1 H1 o2 H1 ∧ spO K F n o2 vs H1 kk := by
  split at h1
  · rename_i ms em
    obtain ⟨hn, nd, hF⟩ := h1
    refine ⟨ownC rs τ.length o1, ownC_le, ms, ρ1.st, _, z1.length.trans hn, callA_ok R1 z1 em nd, hF, fun v H2 o2 m fin W' L2 A2 im fo hG => ?_⟩
    obtain ⟨hfit, hG⟩ := hG
    exact callR_ok (vs := vs) (callB_ok R1 z1 em nd L2 A2 fo) im hfit hG fun o' r τ' e R' z' hq => q v H2 o' r _ τ' (L1.trans (by rw [e]; exact ownB_le L2)) R' z' hq
  · exact h1.elim
theorem tCallO_of {kk : VK} {Q : R → Env → Prop} (R0 : Rep K c o σ H ρ τ) (h : tCall ex0 F n ta ρ Q) (q : ∀ v H' o' r ρ' τ', Le o H o' H' → Rep K c o' σ H' ρ' τ' → RelR K o' H' σ v r τ τ' → Q r ρ' → kk v H') :
    TAo K c ta σ H fun vs H1 => ∃ o1, Le o H o1 H1 ∧ spO K F n o1 vs H1 kk :=
  ⟨o, ρ, τ, _, R0, h, fun _ _ _ _ _ _ L1 R1 z1 h1 => let ⟨o2, L2, sp⟩ := callO q L1 R1 z1 h1; ⟨o2, L1.trans L2, sp⟩⟩
/-- x(..), x the name in the slot i: what it holds is called -/
def tCallV (i : Nat) (Pv : D → Prop) (Fv : D → TF) (n : Nat) (ta : TL) : TX := fun ρ Q => match ρ.sl[i]? with
  | some s => match s.m? with
    | some (.im d) => Pv d ∧ tCall ex0 (Fv d) n ta ρ Q
    | _ => False
  | none => False
theorem de_callV {Pv : D → Prop} {Fv : D → TF} (i : Nat) (G : ∀ d, Pv d → FnV X.prog X.w X.K X.mg X.base k n d (Fv d)) (hr : Room k X.A) (ha : DA X c (e :: es) ta)
    (hN : X.N[i]? = some x := by rfl) (hv : Vis X.env.scope x := by first | exact Or.inl rfl | exact Or.inr (Or.inl rfl) | exact Or.inr (Or.inr rfl)) (hd : (x == ("__debug__" : Str)) = false := by decide) (hcd : (x == ("__classdict__" : Str)) = false := by decide)
    (he : starEach (e :: es) X.env = (false, eval e X.env) :: starEach es X.env := by rfl) (hpl : (backTo pos (starEach es X.env)).any (·.1) = false := by rfl) : DE X c (.Call (.Name x p) (e :: es) [] pos) (tCallV i Pv Fv n ta) := by
  constructor
  rintro pins s σ H kk I ⟨o, ρ, τ, Q, R0, h, q⟩
  unfold tCallV at h
  split at h
  · rename_i sl es'
    split at h
    · rename_i d em
      obtain ⟨pd, h⟩ := h
      obtain ⟨v, hv0, _, z⟩ := (R0.sl i sl es').of em
      have z : Dat X.K o H v d := z
      obtain ⟨f, ef, hat, run⟩ := (G d pd).ex
      have ev := z.fa ef
      subst ev
      refine wpAny_Call_Name_kw (thn ((pe_var (pos := p) (i := i) hN hv hd hcd).run pins s σ H (fun v H1 => v = .ref f ∧ H1 = H) I ⟨.ref f, hv0, rfl, rfl⟩) ?_)
      rintro u s1 ⟨v, H1, I1, r1, rfl, rfl⟩
      obtain rfl : u = Value.ref f := r1
      have at_ : ∀ {pins : List (Addr × Obj)} {σ : St} {H : Hp} {s : Shared}, Inv X pins σ H s → PySem.W.FnAt f s.heap := fun I => hat _ I.kIn I.bk
      refine PySem.W.callWith_F (first := []) (at_ I1) (thn (ha.run pos pins s1 σ _ _ I1 (tCallO_of R0 h q)) ?_) he hpl
      rintro us s2 ⟨vs, H2, I2, rel, o1, L1, sp⟩
      refine ⟨at_ I2, ?_⟩
      show wpAny _ _ (call (.ref f) us) _ _ _
      refine wpAny_call (codeAny_mono (run X.A X.stack s2 H2 us vs kk E0 hr I2.env0 rel ⟨o1, z.mono L1, sp⟩) fun r s' hq => ?_)
      cases r with
      | error e => exact hq.elim
      | ok fl =>
        cases fl with
        | ret u => exact I2.after hq
        | next => exact False.elim hq
        | brk => exact False.elim hq
        | cont => exact False.elim hq
    · exact h.elim
  · exact h.elim
end
/-! ### a lambda's body -/
/-- the lambda: its words, the names that it captures -/
structure Lam where
  qual : Str
  params : Arguments
  body : Expr
  scope : Scope
  ps : List Str
  fr : List Str
  N : List Str
/-- in the heap base: the lambda's object at f, its cells, which hold vs -/
structure LamAt (base : Heap) (L : Lam) (f c : Addr) (cl : List (Str × Addr)) (vs : List V) : Prop where
  at_ : ∃ pm ctv, base.get? f = some (PySem.W.kla_obj "<lambda>" L.qual L.params L.body L.scope cl pm c ctv)
  len : vs.length = L.fr.length
  cell : ∀ y a, cl.lookup y = some a → ∃ v, base.IsCell a v
  inj : ∀ x y a, cl.lookup x = some a → cl.lookup y = some a → x = y
  has : ∀ (i : Nat) (y : Str) (v : V), L.fr[i]? = some y → vs[i]? = some v → ∃ a, cl.lookup y = some a ∧ ∃ u, RelV v u ∧ base.IsCell a (some u)
def Lam.nf (L : Lam) (cl : List (Str × Addr)) (c : Addr) : NdefX.NF := ⟨"<lambda>", L.qual, L.params, [], L.scope, cl, c⟩
/-- a lambda's names at the entry: the parameters, what is captured, nothing more -/
def envL (L : Lam) (ms : List M) (ds : List D) (W : Sto) : Env := ⟨ms.map Sl.pa ++ (ds.map fun d => Sl.lo (.im d)) ++ List.replicate (L.N.length - L.ps.length - L.fr.length) .no, W⟩
/-- what the body is to do -/
def BodyL (L : Lam) (F : TF) (ds : List D) (T : TX) : Prop := ∀ ms W G, ms.length = L.ps.length → F ms W G gx0 → T (envL L ms ds W) fun r ρ => match r with
  | .im d => G (.im d) (fins L.ps.length ρ) ρ.st
  | .tm m => m.fit = true ∧ G m (fins L.ps.length ρ) ρ.st
  | .sl _ => False
section
variable {Pg : Program} {w : World} {K : PySem.W.Frag} {mg : Str → Option Value} {base : Heap} {k : Nat} {L : Lam} {F : TF} {T : TX} {f c : Addr} {cl : List (Str × Addr)} {vs : List V} {ds : List D}
theorem LamAt.cells {h : Heap} {H : Hp} (a : LamAt base L f c cl vs) (bs : ∀ b u, base.get? b = some u → h.get? b = some u ∧ H b = none) : NdefX.CellsAt cl L.fr (vs.map some) h H := by
  have up : ∀ {b : Addr} {v : Option Value}, base.IsCell b v → h.IsCell b v ∧ H b = none := fun {b v} ⟨u, hu, hd⟩ => ⟨⟨u, (bs b u hu).1, hd⟩, (bs b u hu).2⟩
  refine ⟨by rw [List.length_map]; exact a.len, fun y b e => ?_, a.inj, fun i y e => ?_⟩
  · obtain ⟨v, z⟩ := a.cell y b e
    exact ⟨(up z).2, v, (up z).1⟩
  · have hi : i < vs.length := by rw [a.len]; exact (List.getElem?_eq_some_iff.mp e).1
    obtain ⟨b, hb, u, ru, z⟩ := a.has i y vs[i] e (List.getElem?_eq_getElem hi)
    refine ⟨b, hb, fun v hv => ?_⟩
    rw [List.getElem?_map, List.getElem?_eq_getElem hi] at hv
    have hv := Option.some.inj (Option.some.inj hv)
    subst hv
    exact ⟨u, ru, (up z).1⟩
theorem rep_startL {o : Own} {H : Hp} {us : List V} {ms : List M} {W : Sto} (h : ArgsOk K o H us ms W) (hl : us.length = L.ps.length) (hv : vs.length = L.fr.length) (dd : Dats K o H vs ds) (hN : L.ps.length + L.fr.length ≤ L.N.length) :
    Rep K ⟨o, H, us⟩ o (NdefX.startF L.N us (vs.map some)) H (envL L ms ds W) [] := by
  have ml : ms.length = us.length := h.len.symm
  have dl : ds.length = vs.length := dd.length.symm
  refine ⟨fun i s e => ?_, fun j v m e => by simp at e, h.mu, .refl, ?_, h.st⟩
  · have e : (ms.map Sl.pa ++ (ds.map fun d => Sl.lo (.im d)) ++ List.replicate (L.N.length - L.ps.length - L.fr.length) Sl.no)[i]? = some s := e
    by_cases h1 : i < us.length
    · rw [List.getElem?_append_left (by simp; omega), List.getElem?_append_left (by simp; omega), List.getElem?_map, List.getElem?_eq_getElem (by omega)] at e
      cases e
      refine ⟨us[i], ?_, List.getElem?_eq_getElem h1, h.at_ i _ _ (List.getElem?_eq_getElem h1) (List.getElem?_eq_getElem (by omega))⟩
      unfold NdefX.startF
      rw [List.getElem?_append_left (by simpa using h1), List.getElem?_map, List.getElem?_eq_getElem h1]; rfl
    · by_cases h2 : i < us.length + vs.length
      · rw [List.getElem?_append_left (by simp; omega), List.getElem?_append_right (by simp; omega), List.getElem?_map, List.getElem?_eq_getElem (by simp; omega)] at e
        cases e
        have at_ : ds[i - (List.map Sl.pa ms).length]? = some (ds[i - (List.map Sl.pa ms).length]'(by simp; omega)) := List.getElem?_eq_getElem _
        obtain ⟨v, ev, dv⟩ := dd.get at_
        refine ⟨v, ?_, dv⟩
        unfold NdefX.startF
        rw [List.getElem?_append_right (by simp; omega), List.getElem?_append_left (by simp; omega), List.getElem?_map, List.length_map]
        have e1 : i - (List.map Sl.pa ms).length = i - us.length := by simp; omega
        rw [e1] at ev
        rw [ev]; rfl
      · rw [List.getElem?_append_right (by simp; omega), List.getElem?_replicate] at e
        split at e
        · cases e; exact trivial
        · cases e
  · unfold envL NdefX.startF
    simp
    omega
theorem FnV.lam (S : NdefX.NScope L.N L.ps L.fr L.scope) (bind : ∀ (q : Str) (cl : List (Str × Addr)) (pm cv ctv : Value) (us : List Value), us.length = L.ps.length → bindArgs (PySem.W.kla_fn "<lambda>" q L.params L.body L.scope cl pm cv ctv) ⟨us, []⟩ = pure (L.ps.zip us))
    (a : LamAt base L f c cl vs) (hB : BodyL L F ds T)
    (hbody : ∀ (A : Around) (outer : List PySem.Env) (s : Shared) (H : Hp) (E : XK) (cc : Cc), Room k (A.deeper (NdefX.envF (L.nf cl c) f s.heap.objs.size)) → DE (NdefX.ncx CX0 Pg w K mg base L.N (L.nf cl c) f A outer s H E) cc L.body T) :
    FnV Pg w K mg base (k + 1) L.ps.length (.fnv f c L.qual vs ds) F := by
  obtain ⟨pm, ctv, hf⟩ := a.at_
  refine ⟨f, rfl, fun h _ kp => ⟨_, _, _, _, kp _ _ hf⟩, fun A outer s H us xs Q E hr e0 rel sp => ?_⟩
  obtain ⟨o, dat, ms, W, G, hl, ha, hF, q⟩ := sp
  cases dat with
  | fnv oc hc dd =>
    have lim : s.heap.NoLimit := e0.mod.nolimit.keeps fun b u e => (e0.bs b u e).1
    refine PySem.W.kla_callFunE hr.depth (e0.bs _ _ hf).1 rfl S.co S.gen rfl (NdefX.codeO_at e0.hok hc) ?_
    rw [bind _ _ _ _ _ us (by rw [← rel.length]; exact hl)]
    refine wpAny_pure (wpAny_newFunctionEnv S.nocell (fun ⟨n, _⟩ hy => S.par n (List.of_mem_zip hy).1) (fun h₁ hns hsb => ⟨lim.fresh _ hsb, ?_⟩) S.kind)
    show codeAny _ _ (.expr L.body (NdefX.envF (L.nf cl c) f s.heap.objs.size)) _ _
    have kp : ∀ b u, s.heap.get? b = some u → h₁.get? b = some u := fun b u e => hsb.extBut b u (Nat.ne_of_lt (Heap.lt_size e)) (Heap.get?_push_of_some _ e)
    have hN : L.ps.length + L.fr.length ≤ L.N.length := by
      have := congrArg List.length S.pre
      rw [List.length_take, List.length_append] at this
      omega
    have I : Inv (NdefX.ncx CX0 Pg w K mg base L.N (L.nf cl c) f A outer s H E) [] (NdefX.startF L.N xs (vs.map some)) H { s with heap := h₁, toks := s.toks + (L.ps.zip us).length } :=
      NdefX.inv_startN (F := L.nf cl c) S hr.hd e0 hl rel (a.cells e0.bs) hns kp
    have R0 := rep_startL ha hl a.len dd hN
    refine PySem.W.kla_codeExpr (wpAny_mono ((hbody A outer s H E ⟨o, H, xs⟩ (hr.deeper _)).run [] _ _ H Q I ⟨o, _, [], _, R0, hB ms W G (by rw [← ha.len]; exact hl) hF, fun v H' o' r ρ' τ' L' R z hG => ?_⟩) (fun u s' hq => ?_) fun e s' hq => hq)
    · have af : Aft K (unH o') H' ρ'.st := ⟨unH_mu R.mu, R.st.mono unH_le unH_ks⟩
      have fo : ∀ {τ'}, Rep K ⟨o, H, xs⟩ o' (NdefX.startF L.N xs (vs.map some)) H' ρ' τ' → FinOk K (unH o') H' xs (fins L.ps.length ρ') := fun {τ'} R => by
        refine fins_ok (o := o') (σ := NdefX.startF L.N xs (vs.map some)) ⟨R.sl, fun j v m e => by simp at e, R.mu, R.le, R.ln, R.st⟩ _
      split at hG
      · rename_i d
        exact q v H' (unH o') (.im d) _ _ (L'.trans unH_le) af (Dat.mono unH_le z.2) (fo R) hG
      · rename_i m
        have e : τ' = [] ++ [(v, m)] := z
        subst e
        have im := (R.tm 0 v m (by simp)).1
        exact q v H' (unH o') m _ _ (L'.trans unH_le) af (im.mono unH_le fun a z => ⟨by unfold unH; rw [z], rfl⟩) (fo R) hG.2
      · exact hG.elim
    · obtain ⟨v', H', J, rv, qq⟩ := hq
      exact ⟨v', H', J.os, J.bare, J.base, J.hok, rv, qq⟩
end
end Y
namespace Y
open PySem PySem.Spec L2
/-! ### a lambda handed to a def -/
section
variable {K : PySem.W.Frag} {c : Cc} {o o' : Own} {σ σ' : St} {H H' : Hp} {ρ ρ' : Env} {τ τ' τ0 τ1 : List (V × M)} {X : Cx} {e a b : Expr} {es : List Expr} {pos p : Pos} {t u : TX} {F : TF} {n k j : Nat} {f : Addr} {x : Str} {ta : TL}
/-- all that is labelled stays, but for tables -/
theorem Rep.step {H1 : Hp} (R0 : Rep K c o σ H ρ τ) (L : Le o H o H1) (lab : ∀ a l, o a = some l → (∀ q, l ≠ .k q) → H1 a = H a) (ks : ∀ a q, q.tbl = false → o a = some (.k q) → H1 a = H a) (mu : ∀ a l, o a = some l → Mt (H1 a)) : Rep K c o σ H1 ρ τ :=
  ⟨fun i s e => (R0.sl i s e).mono L (fun a q => ⟨q, lab a _ q fun _ z => by cases z⟩) fun a q => ⟨q, lab a _ q fun _ z => by cases z⟩, fun j v m e => ⟨(R0.tm j v m e).1.mono L fun a q => ⟨q, lab a _ q fun _ z => by cases z⟩, (R0.tm j v m e).2⟩, mu, R0.le.trans L, R0.ln, R0.st.mono L ⟨fun a q w e => ⟨e, ks a q w e⟩, fun _ _ e => e⟩⟩
/-- a lambda is made -/
theorem lam_new {pins : List (Addr × Obj)} {s : Shared} {cd P : Addr} {q : Str} {params : Arguments} {body : Expr} {scope : Scope} {E Q : Value → Shared → Prop} (I : Inv X pins σ H s) (R0 : Rep K c o σ H ρ τ) (TB : LamX.TabB X.base X.mg cd P) (hcode : X.env.code = .ref cd)
    (hq : X.env.qual ++ "<lambda>" = q) (tab : Tab o H P q) (hdef : defaultsOf params X.env = ([], [])) (hfree : ∀ y ∈ scope.names, y.2 = .free → ∃ a, X.env.cells.lookup y.1 = some a)
    (h : ∀ (f c' : Addr) (pm ctv : Value) (H1 : Hp) (s' : Shared), Inv X pins σ H1 s' → Le o H o H1 → Rep K c o σ H1 ρ τ → s'.heap.get? f = some (PySem.W.kla_obj "<lambda>" q params body scope (cloFrom X.env.cells scope.names []) pm c' ctv) → H1 f = none → f ∉ frs X.stack →
      s.heap.objs.size ≤ f → o c' = none → H1 c' = some (LamX.CodeO c' q) → Q (.ref f) s') : wpAny (model X.prog X.w) X.A (eval (.Lambda params body scope pos) X.env) Q E s := by
  subst hq
  obtain ⟨ps, hk, hP, good, all⟩ := tab
  refine PySem.W.kla_eval hdef ?_
  have bP : s.heap.BuiltinsAt X.mg P := TB.bm.keeps I.bk
  have atP : s.heap.get? P = some { cls := .none, data := .fields ps } := I.hok P _ hP
  have late : ∀ f, s.heap.objs.size ≤ f → f ∉ frs X.stack := fun f hf z => by
    rcases List.mem_cons.mp (I.stkSub _ z) with e | e
    · have := I.lt; rw [← e] at this; exact absurd (Nat.lt_of_lt_of_le this hf) (Nat.lt_irrefl _)
    · exact I.nofs hf e
  cases hc : codeAmong pos ps.toList with
  | some cv =>
    obtain ⟨c', rfl, oc, hc'⟩ := all pos cv hc
    refine PySem.W.kla_makeFunctionHit (mg := X.mg) (c := cd) (P := P) (ps := ps) (closure_ok hfree) I.ok.glob (I.mod.glob.keeps I.bk) hcode (TB.code.keeps I.bk) atP good hc bP fun ctv h' tk kp big => ?_
    have I1 : Inv X pins σ H { s with heap := h'.push (PySem.W.kla_obj "<lambda>" (X.env.qual ++ "<lambda>") params body scope (cloFrom X.env.cells scope.names []) ((X.mg "__name__").getD .none) c' ctv), toks := tk } := I.kept fun b u e => Heap.get?_push_of_some _ (kp b u e)
    exact h h'.objs.size c' _ ctv H _ I1 .refl R0 (Heap.get?_push_size _ rfl) (I.hok.fresh big) (late _ big) big oc hc'
  | none =>
    refine PySem.W.kla_makeFunction (mg := X.mg) (c := cd) (P := P) (ps := ps) (closure_ok hfree) I.ok.glob (I.mod.glob.keeps I.bk) hcode (TB.code.keeps I.bk) atP good hc TB.gP bP fun c' ctv h' tk kp low high hrec htb => ?_
    obtain ⟨_, oc, vs, tq, e2, hoc, hd, hv⟩ := hrec
    cases e2
    let ps' := ps ++ #[rawInt pos.line, rawInt pos.col, .ref c']
    let H1 := upd (upd H P (.tbl ps')) c' (LamX.CodeO c' (X.env.qual ++ "<lambda>"))
    have big : s.heap.objs.size ≤ h'.objs.size := by omega
    have nC : H c' = none := I.hok.fresh low
    have oC : o c' = none := R0.fresh nC
    have I1 : Inv X pins σ H1 { s with heap := h'.push (PySem.W.kla_obj "<lambda>" (X.env.qual ++ "<lambda>") params body scope (cloFrom X.env.cells scope.names []) ((X.mg "__name__").getD .none) c' ctv), toks := tk } :=
      LamX.inv_table (t' := tk) I hP (fun b u ne e => Heap.get?_push_of_some _ (kp b u ne e)) (Heap.get?_push_of_some _ htb) low ⟨oc, vs, tq, Heap.get?_push_of_some _ hoc, hd, hv⟩
    have same : ∀ b, b ≠ P → b ≠ c' → H1 b = H b := fun b n1 n2 => (upd_ne n2).trans (upd_ne n1)
    have nePC : P ≠ c' := fun z => by rw [z, nC] at hP; cases hP
    have lab : ∀ a l, o a = some l → (∀ q, l ≠ .k q) → H1 a = H a := fun a l e n => same a (fun z => by rw [z, hk] at e; exact n _ (Option.some.inj e).symm) fun z => by rw [z, oC] at e; cases e
    have keep : ∀ b u, o b = none → H b = some u → o b = none ∧ H1 b = some u := fun b u e f => ⟨e, (same b (fun z => by rw [z, hk] at e; cases e) fun z => by rw [z, nC] at f; cases f).trans f⟩
    have L : Le o H o H1 := by
      refine ⟨keep, fun b e => ⟨e, lab b _ e fun _ z => by cases z⟩, fun P' q' ⟨qs, lb, hP', ok', all'⟩ => ?_, fun _ _ e => e⟩
      by_cases hPP : P' = P
      · subst hPP
        rw [hk] at lb
        cases lb
        rw [hP] at hP'
        cases hP'
        have eL : ps'.toList = ps.toList ++ [rawInt pos.line, rawInt pos.col, .ref c'] := by simp [ps']
        refine ⟨ps', hk, (upd_ne nePC).trans upd_same, by rw [eL]; exact PySem.TriplesOk_snoc _ _ _ _ good, fun p' cv hcv => ?_⟩
        rw [eL] at hcv
        rcases LamX.among_app _ good hcv with z | z
        · obtain ⟨c0, e1, e2, e3⟩ := all' p' cv z
          exact ⟨c0, e1, e2, (keep _ _ e2 e3).2⟩
        · exact ⟨c', z, oC, upd_same⟩
      · have neC : P' ≠ c' := fun z => by rw [z, nC] at hP'; cases hP'
        refine ⟨qs, lb, (same P' hPP neC).trans hP', ok', fun p' cv hcv => ?_⟩
        obtain ⟨c0, e1, e2, e3⟩ := all' p' cv hcv
        exact ⟨c0, e1, e2, (keep _ _ e2 e3).2⟩
    have mu : ∀ a l, o a = some l → Mt (H1 a) := fun a l e => by
      by_cases z : a = P
      · subst z
        have : H1 a = some (.tbl ps') := (upd_ne nePC).trans upd_same
        rw [this]; trivial
      · rw [same a z fun z => by rw [z, oC] at e; cases e]
        exact R0.mu a l e
    refine h h'.objs.size c' _ ctv H1 _ I1 L (R0.step L lab (fun a q w e => same a (fun z => by rw [z, hk] at e; cases e; cases w) fun z => by rw [z, oC] at e; cases e) mu) (Heap.get?_push_size _ rfl) ?_ (late _ big) big oC upd_same
    have n1 : h'.objs.size ≠ c' := Nat.ne_of_gt high
    have n2 : h'.objs.size ≠ P := Nat.ne_of_gt (Nat.lt_of_lt_of_le (Heap.lt_size atP) big)
    rw [same _ n2 n1]
    exact I.hok.fresh big
end
end Y
namespace Y
open PySem PySem.Spec L2
/-! ### some more objects that stay -/
def keepAt (base : Heap) (xs : List Addr) (h : Heap) : Heap := PySem.W.hideAll h ((List.range h.objs.size).filter fun b => !((base.get? b).isSome || xs.contains b))
theorem keepAt_get {base h : Heap} {xs : List Addr} {b : Addr} {u : Obj} (e : h.get? b = some u) (k : (base.get? b).isSome = true ∨ b ∈ xs) : (keepAt base xs h).get? b = some u := by
  refine PySem.W.hideAll_get _ e fun hm => ?_
  have q := (List.mem_filter.mp hm).2
  rcases k with k | k
  · rw [k] at q; cases q
  · rw [List.contains_iff_mem.mpr k, Bool.or_true] at q; cases q
theorem of_keepAt {base h : Heap} {xs : List Addr} {b : Addr} {u : Obj} (e : (keepAt base xs h).get? b = some u) : h.get? b = some u ∧ ((base.get? b).isSome = true ∨ b ∈ xs) := by
  have e1 : h.get? b = some u := PySem.W.of_hideAll _ e
  refine ⟨e1, ?_⟩
  by_cases k : ((base.get? b).isSome || xs.contains b) = true
  · rcases Bool.or_eq_true_iff.mp k with k | k
    · exact .inl k
    · exact .inr (List.contains_iff_mem.mp k)
  · have hid : (keepAt base xs h).get? b = none := PySem.W.hideAll_none _ (List.mem_filter.mpr ⟨List.mem_range.mpr (Heap.lt_size e1), by rw [Bool.eq_false_iff.mpr k]; rfl⟩)
    rw [hid] at e; cases e
theorem funs_keepAt {base h : Heap} {xs : List Addr} : ∀ {l : List PySem.Env}, (∀ b ∈ xs, b ∉ frs l) → h.FunFrames base l → h.FunFrames (keepAt base xs h) l
  | [], _, _ => trivial
  | env :: l, n, ⟨hk, ⟨L, u, hf, hn, hu, hd⟩, r⟩ => by
    have mem : L ∈ frs (env :: l) := List.mem_filterMap.mpr ⟨env, List.mem_cons_self, hf⟩
    refine ⟨hk, ⟨L, u, hf, ?_, hu, hd⟩, funs_keepAt (fun b hb z => n b hb ?_) r⟩
    · cases e : (keepAt base xs h).get? L with
      | none => rfl
      | some v =>
        rcases (of_keepAt e).2 with z | z
        · rw [hn] at z; cases z
        · exact absurd mem (n L z)
    · obtain ⟨e', h1, h2⟩ := List.mem_filterMap.mp z
      exact List.mem_filterMap.mpr ⟨e', List.mem_cons_of_mem _ h1, h2⟩
section
variable {K : PySem.W.Frag} {c : Cc} {o o' : Own} {σ σ' : St} {H H' : Hp} {ρ ρ' : Env} {τ τ' τ0 τ1 : List (V × M)} {X : Cx} {e a b : Expr} {es : List Expr} {pos p : Pos} {t u : TX} {F : TF} {n k j : Nat} {f g : Addr} {x : Str} {ta : TL} {pins : List (Addr × Obj)} {s : Shared}
theorem env0_keepAt (I : Inv X pins σ H s) {xs : List Addr} (hx : ∀ b ∈ xs, H b = none ∧ b ∉ frs X.stack) : Env0 X.prog X.w X.K X.mg (keepAt X.base xs s.heap) X.A X.stack s H := by
  have e := I.env0
  have up : ∀ b u, X.base.get? b = some u → (keepAt X.base xs s.heap).get? b = some u := fun b u q => keepAt_get (I.bk b u q) (.inl (by rw [q]; rfl))
  refine ⟨e.frames, ⟨e.mod.kin.keeps up, e.mod.glob.keeps up, ?_, e.mod.nolimit.keeps up⟩, fun b u q => ⟨(of_keepAt q).1, ?_⟩, by unfold keepAt; rw [PySem.W.hideAll_size]; exact Nat.le_refl _, funs_keepAt (fun b hb => (hx b hb).2) e.funs, e.frf, e.hok, e.bare⟩
  · obtain ⟨mb, h1, h2⟩ := e.mod.blt
    exact ⟨mb, h1.keeps up, h2⟩
  · rcases (of_keepAt q).2 with z | z
    · obtain ⟨u', z⟩ := Option.isSome_iff_exists.mp z
      exact (I.bs b u' z).2
    · exact (hx b z).1
/-! ### what a lambda captures -/
def capt (ρ : Env) : List Nat → Option (List D)
  | [] => some []
  | j :: js => match ρ.sl[j]? with
    | some s => match s.m?, capt ρ js with
      | some (.im d), some ds => some (d :: ds)
      | _, _ => none
    | none => none
theorem capt_ok (R0 : Rep K c o σ H ρ τ) : ∀ {js : List Nat} {ds : List D}, capt ρ js = some ds → ∃ vs : List V, vs.length = js.length ∧ Dats K o H vs ds ∧ ∀ (i j : Nat), js[i]? = some j → ∃ v, vs[i]? = some v ∧ σ[j]? = some (some v)
  | [], _, h => by cases h; exact ⟨[], rfl, .nil, fun i j e => by simp at e⟩
  | j :: js, ds, h => by
    unfold capt at h
    split at h
    · rename_i s es
      split at h
      · rename_i d ds' em er
        cases h
        obtain ⟨v, hv, _, z⟩ := (R0.sl j s es).of em
        obtain ⟨vs, l, dd, all⟩ := capt_ok R0 er
        refine ⟨v :: vs, congrArg (· + 1) l, .cons z dd, fun i j' e => ?_⟩
        cases i with
        | zero => cases e; exact ⟨v, rfl, hv⟩
        | succ i => exact all i j' e
      · cases h
    · cases h
/-- the lambda's captured names, where they stand among the def's names -/
def capB (N : List Str) (sc lsc : Scope) : List Str → List Nat → Bool
  | [], [] => true
  | y :: fr, j :: js => decide (N[j]? = some y) && (decide (sc.names.lookup y = some .cell) || decide (sc.names.lookup y = some .free)) && decide ((y, NameKind.free) ∈ lsc.names) && capB N sc lsc fr js
  | _, _ => false
theorem capB_at {N : List Str} {sc lsc : Scope} : ∀ {fr : List Str} {js : List Nat}, capB N sc lsc fr js = true → js.length = fr.length ∧ ∀ (i : Nat) (y : Str), fr[i]? = some y → ∃ j, js[i]? = some j ∧ N[j]? = some y ∧ (sc.names.lookup y = some .cell ∨ sc.names.lookup y = some .free) ∧ (y, NameKind.free) ∈ lsc.names
  | [], [], _ => ⟨rfl, fun i y e => by simp at e⟩
  | y :: fr, j :: js, h => by
    simp only [capB, Bool.and_eq_true, Bool.or_eq_true, decide_eq_true_eq] at h
    obtain ⟨⟨⟨h1, h2⟩, h3⟩, h4⟩ := h
    obtain ⟨l, all⟩ := capB_at h4
    refine ⟨congrArg (· + 1) l, fun i y' e => ?_⟩
    cases i with
    | zero => cases e; exact ⟨j, rfl, h1, h2, h3⟩
    | succ i => exact all i y' e
  | [], _ :: _, h => by cases h
  | _ :: _, [], h => by cases h
end
end Y
namespace Y
open PySem PySem.Spec L2
/-- what a lambda's words ask of the def that writes it -/
def lamB (N : List Str) (sc : Scope) (L : Lam) (js : List Nat) : Bool :=
  capB N sc L.scope L.fr js && L.scope.names.all fun y => !decide (y.2 = .free) || decide (sc.names.lookup y.1 = some .cell) || decide (sc.names.lookup y.1 = some .free)
section
variable {K : PySem.W.Frag} {c : Cc} {o o' : Own} {σ σ' : St} {H H' : Hp} {ρ ρ' : Env} {τ τ' τ0 τ1 : List (V × M)} {X : Cx} {e a b : Expr} {es : List Expr} {pos p lpos : Pos} {t u : TX} {F : TF} {n k j : Nat} {f g : Addr} {x : Str} {ta : TL} {pins : List (Addr × Obj)} {s : Shared}
/-- in the heap: the lambda at f and its cells -/
theorem lamAt_of {L : Lam} {js : List Nat} {c' : Addr} {pm ctv : Value} (I : Inv X pins σ H s) (hB : lamB X.N X.env.scope L js = true) (hfn : ∀ y, X.fn y = true) {vs : List V} (hl : vs.length = js.length) (at_ : ∀ (i j : Nat), js[i]? = some j → ∃ v, vs[i]? = some v ∧ σ[j]? = some (some v))
    (hf : s.heap.get? f = some (PySem.W.kla_obj "<lambda>" L.qual L.params L.body L.scope (cloFrom X.env.cells L.scope.names []) pm c' ctv)) (nf : H f = none) (fr : f ∉ frs X.stack) :
    ∃ xs : List Addr, (∀ b ∈ xs, H b = none ∧ b ∉ frs X.stack) ∧ LamAt (keepAt X.base xs s.heap) L f c' (cloFrom X.env.cells L.scope.names []) vs := by
  obtain ⟨hc, hfree⟩ := Bool.and_eq_true_iff.mp hB
  obtain ⟨jl, cap⟩ := capB_at hc
  have free : ∀ y ∈ L.scope.names, y.2 = .free → ∃ a, X.env.cells.lookup y.1 = some a := fun y hy e => by
    have q := List.all_eq_true.mp hfree y hy
    simp only [e, Bool.or_eq_true, Bool.not_eq_true', decide_true, decide_eq_true_eq] at q
    exact I.ok.has _ (q.elim (fun q => q.elim (fun z => by cases z) .inl) .inr)
  have back : ∀ {y : Str} {a : Addr}, (y, a) ∈ cloFrom X.env.cells L.scope.names [] → X.env.cells.lookup y = some a := fun {y a} hm => by
    rcases cloFrom_mem hm with z | ⟨z1, z2⟩
    · cases z
    · obtain ⟨a', e⟩ := free _ z1 rfl
      have e : X.env.cells.lookup y = some a' := e
      rw [z2, e]; rfl
  have look : ∀ {y : Str} {a : Addr}, (cloFrom X.env.cells L.scope.names []).lookup y = some a → X.env.cells.lookup y = some a := fun h => back (PySem.mem_of_lookup h)
  let xs : List Addr := f :: (cloFrom X.env.cells L.scope.names []).map (·.2)
  have cellIn : ∀ {y : Str} {a : Addr} {v : Option Value}, (cloFrom X.env.cells L.scope.names []).lookup y = some a → s.heap.IsCell a v → (keepAt X.base xs s.heap).IsCell a v := fun {y a v} hl ⟨u, hu, hd⟩ =>
    ⟨u, keepAt_get hu (.inr (List.mem_cons_of_mem _ (List.mem_map.mpr ⟨(y, a), PySem.mem_of_lookup hl, rfl⟩))), hd⟩
  refine ⟨xs, fun b hb => ?_, ⟨⟨pm, ctv, keepAt_get hf (.inr List.mem_cons_self)⟩, hl.trans jl, fun y a e => ?_, fun x y a e1 e2 => I.ok.inj x y a (look e1) (look e2), fun i y v e1 e2 => ?_⟩⟩
  · rcases List.mem_cons.mp hb with e | hb
    · rw [e]; exact ⟨nf, fr⟩
    · obtain ⟨⟨y, a⟩, hm, rfl⟩ := List.mem_map.mp hb
      have hl := back hm
      refine ⟨I.freeC y a hl, fun z => ?_⟩
      rcases List.mem_cons.mp (I.stkSub _ z) with e | e
      · exact I.cne y a hl e
      · obtain ⟨_, u, hu, _⟩ := I.ok.funs.mem e
        exact absurd (Nat.lt_of_lt_of_le (Heap.lt_size hu) (I.ok.cab y a (hfn y) hl)) (Nat.lt_irrefl _)
  · obtain ⟨v, z⟩ := I.cell y a (look e)
    exact ⟨v, cellIn e z⟩
  · obtain ⟨j, hj, hN, hk, hm⟩ := cap i y e1
    obtain ⟨v', e3, hv⟩ := at_ i j hj
    rw [e2] at e3
    cases e3
    obtain ⟨m, hn, hl⟩ := I.loc
    have hk' : X.env.kindOf y = some .cell ∨ X.env.kindOf y = some .free := hk
    obtain ⟨w, r, q⟩ := hl j y v hN hv (.inr hk)
    obtain ⟨a, ha⟩ := mem_lookup (cloFrom_has (cells := X.env.cells) (acc := []) hm)
    refine ⟨a, ha, w, r, cellIn ha ?_⟩
    rcases q with ⟨q, _⟩ | ⟨_, a2, e4, z⟩
    · rcases hk' with z | z <;> rw [z] at q <;> cases q
    · rw [look ha] at e4
      cases e4
      exact z
/-- g(e, lambda ..: ..) -/
def tCallL (q : Str) (js : List Nat) (Fl : D → TF) (t1 : TX) : TX := fun ρ Q => t1 ρ fun r1 ρ1 => match capt ρ1 js with
  | some ds => ∀ f c vs, tCall ex0 (Fl (.fnv f c q vs ds)) 2 (fun ρ' Q' => Q' [r1, .im (.fnv f c q vs ds)] ρ') ρ1 Q
  | none => False
theorem de_callLam {L : Lam} {js : List Nat} {Fl : D → TF} {fd : FuncData} {ps : List Str} {cd P : Addr} (he1 : DE X c e t) (hB : lamB X.N X.env.scope L js = true) (hfn : ∀ y, X.fn y = true) (TB : LamX.TabB X.base X.mg cd P) (hcode : X.env.code = .ref cd) (hq : X.env.qual ++ "<lambda>" = L.qual)
    (tab : Tab c.o0 c.H0 P L.qual) (hdef : defaultsOf L.params X.env = ([], []))
    (G : ∀ (base' : Heap) (f c' : Addr) (cl : List (Str × Addr)) (vs : List V) (ds : List D), LamAt base' L f c' cl vs → FnOk X.prog X.w X.K X.mg base' CX0 k g fd ps (spD X.K (Fl (.fnv f c' L.qual vs ds)) 2)) (hr : Room k X.A)
    (hg : Gl X x) (hm : X.mg x = some (.ref g)) (hk : PySem.W.keepIn X.K (.ref g) = true) (hb : Binds X.K fd ps []) (hdb : (x == ("__debug__" : Str)) = false := by decide)
    (hs1 : starEach [e, .Lambda L.params L.body L.scope lpos] X.env = [(false, eval e X.env), (false, eval (.Lambda L.params L.body L.scope lpos) X.env)] := by rfl) :
    DE X c (.Call (.Name x p) [e, .Lambda L.params L.body L.scope lpos] [] pos) (tCallL L.qual js Fl t) := by
  constructor
  rintro pins s σ H kk I ⟨o, ρ, τ, Q, R0, h, q⟩
  refine wpAny_Call_Name_kw (ld_glob I hg hm ?_ hdb)
  refine PySem.W.callWith_K (h₀ := X.base) I.ok.mod.kin hk ?_ (by rw [hs1]; rfl) (by rfl)
  rw [hs1]
  show wpAny _ _ (spliced [(false, eval e X.env), (false, eval (.Lambda L.params L.body L.scope lpos) X.env)]) _ _ s
  refine Calls.spliced_cons (thn (he1.run pins s σ H (fun v1 H1 => ∃ o1 r1 ρ1 τ1, Le o H o1 H1 ∧ Rep X.K c o1 σ H1 ρ1 τ1 ∧ RelR X.K o1 H1 σ v1 r1 τ τ1 ∧ match capt ρ1 js with
    | some ds => ∀ f c vs, tCall ex0 (Fl (.fnv f c L.qual vs ds)) 2 (fun ρ' Q' => Q' [r1, .im (.fnv f c L.qual vs ds)] ρ') ρ1 Q
    | none => False) I ⟨o, ρ, τ, _, R0, h, fun v H' o' r ρ' τ' L' R' z hh => ⟨o', r, ρ', τ', L', R', z, hh⟩⟩) ?_)
  rintro u1 s1 ⟨v1, H1, I1, rv1, o1, r1, ρ1, τ1, L1, R1, z1, h1⟩
  split at h1
  · rename_i ds hcap
    obtain ⟨vs, hl, dd, at_⟩ := capt_ok R1 hcap
    have tab1 : Tab o1 H1 P L.qual := R1.le.tbs P L.qual tab
    have hfree : ∀ y ∈ L.scope.names, y.2 = .free → ∃ a, X.env.cells.lookup y.1 = some a := fun y hy e => by
      have q := List.all_eq_true.mp (Bool.and_eq_true_iff.mp hB).2 y hy
      simp only [e, Bool.or_eq_true, Bool.not_eq_true', decide_true, decide_eq_true_eq] at q
      exact I.ok.has _ (q.elim (fun q => q.elim (fun z => by cases z) .inl) .inr)
    refine Calls.spliced_cons (lam_new I1 R1 TB hcode hq tab1 hdef hfree fun f c' pm ctv H2 s2 I2 L2' R2 hf nf fr big oc hc => ?_)
    refine Calls.spliced_nil ⟨I2.kIn, ?_⟩
    obtain ⟨xs, hx, lam⟩ := lamAt_of I2 hB hfn hl at_ hf nf fr
    have oc2 : o1 c' = none := oc
    have df : Dat X.K o1 H2 (.ref f) (.fnv f c' L.qual vs ds) := .fnv oc hc (dd.mono L2')
    have z2 : RelRs X.K o1 H2 σ [v1, .ref f] [r1, .im (.fnv f c' L.qual vs ds)] τ τ1 := .cons (by
      cases r1 with
      | im d => exact ⟨z1.1, z1.2.mono L2'⟩
      | tm m => exact z1
      | sl i => exact z1) (.cons ⟨rfl, df⟩ .nil)
    have h2 := h1 f c' vs
    unfold tCall at h2
    obtain ⟨o2, Lo, ms, Wm, Gm, hl2, ha, hF, qq⟩ := callO (kk := kk) (n := 2) (F := Fl (.fnv f c' L.qual vs ds)) (Q := Q) (τ := τ) (o := o) (H := H) (vs := [v1, .ref f]) (H1 := H2) (o1 := o1) (rs := [r1, .im (.fnv f c' L.qual vs ds)]) (ρ1 := ρ1) q (L1.trans L2') R2 z2 h2
    have FO := G (keepAt X.base xs s2.heap) f c' _ vs ds lam
    have ln : [v1, V.ref f].length = ps.length := FO.len [v1, V.ref f] H2 kk E0 ⟨o2, ms, Wm, Gm, gx0, hl2, ha, hF, qq, fun _ _ _ _ _ _ _ _ z => z.elim⟩
    refine wpAny_call (codeAny_mono (FO.run X.A X.stack s2 H2 ⟨[u1, .ref f], []⟩ [u1, .ref f] [v1, .ref f] kk E0 hr (env0_keepAt I2 hx) (by have := hb s2 [u1, .ref f] I2.kIn (by simpa using ln); simpa using this) (.cons rv1 (.cons rfl .nil)) ⟨o2, ms, Wm, Gm, gx0, hl2, ha, hF, qq, fun _ _ _ _ _ _ _ _ z => z.elim⟩) fun r s' hq => ?_)
    cases r with
    | error e => exact hq.elim
    | ok fl =>
      cases fl with
      | ret u => exact I2.after hq
      | next => exact False.elim hq
      | brk => exact False.elim hq
      | cont => exact False.elim hq
  · exact h1.elim
end
end Y
namespace Y
open PySem PySem.Spec L2
/-! ### a def as a value -/
section
variable {K : PySem.W.Frag} {c : Cc} {X : Cx} {p : Pos} {f : Addr} {x : Str}
theorem de_def (hg : Gl X x) (hm : X.mg x = some (.ref f)) (hdb : (x == ("__debug__" : Str)) = false := by decide) : DE X c (.Name x p) (tIm (.raw (.ref f))) :=
  peImp (pe_glob hg hm (v := .ref f) rfl hdb) fun σ H k ⟨o, ρ, τ, Q, R0, h, q⟩ => q _ H o (.im (.raw (.ref f))) ρ τ .refl R0 ⟨rfl, .raw _⟩ h
end
/-! ### a def that makes lambdas: it knows its code object and the table in it -/
structure CodeOf (K : PySem.W.Frag) (name : Str) (st : Stmt) (f : Addr) (fd : FuncData) where
  cd : Addr
  P : Addr
  ex : ∃ (oc : Value) (od : Option Addr) (kV doc pm : Value) (an : Option Addr) (ct : Value) (osl : Array (Option Value)),
    fd = PySem.W.fnOf name name (defArgs st) (defBody st) (defScope st) .none kV doc pm an (.ref cd) ct ∧ K.lookup f = some ⟨oc, od, .func fd, osl⟩ ∧ PySem.W.codeIn K (.ref cd) name = true
  hd : PySem.W.codeHdIn K cd P = true
  no : K.lookup P = none
/-- as spD, with a table at P whose code objects are called q -/
def spT (P : Addr) (q : Str) (K : PySem.W.Frag) (F : TF) (n : Nat) : Sp := fun vs H Q _ => ∃ o ms W G, Tab o H P q ∧ vs.length = n ∧ ArgsOk K o H vs ms W ∧ F ms W G gx0 ∧
  ∀ v H' o' m fin W', Le o H o' H' → Aft K o' H' W' → IsM K o' H' (.t 0) v m → FinOk K o' H' vs fin → G m fin W' → Q v H'
theorem fn_okT {Pg : Program} {w : World} {K : PySem.W.Frag} {mg : Str → Option Value} {base : Heap} {x q : Str} {st : Stmt} {f : Addr} {fd : FuncData} {N ps : List Str} {k : Nat} {F : TF} {T : TSX} (C : CodeOf K x st f fd) (S : FnScope N ps (defScope st)) (hB : Body F N.length ps.length fun _ => T)
    (hbody : ∀ (A : Around) (outer : List PySem.Env) (s : Shared) (H : Hp) (E : XK) (c : Cc), Room k (A.deeper (PyProof.Rows.envOfC x (defScope st) s.heap.objs.size f (.ref C.cd))) → Tab c.o0 c.H0 C.P q → DSs (cxOf CX0 Pg w K mg base N x (defScope st) f (.ref C.cd) A outer s H E).nox c (defBody st) T) :
    FnOk Pg w K mg base CX0 (k + 1) f fd ps (spT C.P q K F ps.length) := by
  obtain ⟨cd, P, ex, hd, no⟩ := C
  obtain ⟨oc, od, kV, doc, pm, an, ct, osl, e, lk, hcd⟩ := ex
  subst e
  refine fn_of lk hcd S (fun vs H Q E ⟨o, ms, W, G, _, hl, _⟩ => hl) fun A outer s H vs Q E hr ⟨o, ms, W, G, tab, hl, ha, hF, q⟩ => ?_
  refine ⟨_, (hbody A outer s H E ⟨o, H, vs⟩ hr tab).nox, ?_⟩
  have R0 : Rep K ⟨o, H, vs⟩ o (L2.start N vs) H (envOf N.length ps.length ms W) [] := by have := rep_start (N := N) ha; rw [hl] at this; exact this
  exact ⟨o, _, _, R0, hB ms W G gx0 (by rw [← ha.len]; exact hl) hF, body_ways q⟩
/-! ### the law's def with its table -/
theorem hspT {F : TF} (hF : LawF F) (K : PySem.W.Frag) (H : Hp) (P a : Addr) (q : Str) (ns : List Int) (hl : ns.length ≤ 63) (hP : H P = some (.tbl #[])) (hS : SqL K H a (ns.map V.int)) :
    spT P q K F 1 [.ref a] H (fun v _ => v = .bl true) fun _ _ _ => False := by
  let o : Own := fun b => if b = P then some (.k (.tb q)) else none
  have oP : o P = some (.k (.tb q)) := if_pos rfl
  have on : ∀ {b l}, o b = some l → b = P := fun {b l} e => by
    by_cases z : b = P
    · exact z
    · have z2 : o b = none := if_neg z
      rw [z2] at e; cases e
  refine ⟨o, [.sq (ns.map D.int)], [], fun m _ _ => m = .im (.bl true), ⟨#[], oP, hP, True.intro, fun pos cv hc => ?_⟩, rfl, ⟨rfl, fun i v m e1 e2 => ?_, fun b l e => ?_, ⟨fun n u e => by simp at e, fun b _ n e => ?_, fun b n e => ?_⟩⟩, hF ns _ gx0 hl fun _ _ => rfl, fun v H' o' m fin _ _ _ i _ e => ?_⟩
  · have z : codeAmong pos [] = some cv := hc
    simp [codeAmong] at z
  · cases i with
    | zero =>
      cases e1; cases e2
      refine ⟨a, ns.map V.int, rfl, ?_, Dats.of_ints ns⟩
      rcases hS with h | h
      · refine .inl ⟨.inl (if_neg fun z => ?_), h⟩
        subst z
        rcases h with h | ⟨_, h⟩
        · rw [hP] at h; cases h
        · rw [hP] at h; cases h
      · exact .inr h
    | succ i => simp at e1
  · rw [on e, hP]; trivial
  · have := on e; subst this; rw [oP] at e; cases e
  · have := on e; subst this; rw [oP] at e; cases e
  · subst e
    cases (show Dat K o' H' v (.bl true) from i)
    rfl
theorem walkT {l : PySem.W.OpenLaw} {q : Program} {loose : List Str} {XP : (Str → Option Value) → Heap → Prop} {YP : World → Heap → Prop} {d : DefRec} {K : Params → PySem.W.Frag} {F : TF} {qn : Str} (hn : l.most = some 63) (hdf : d.params.defaults = [])
    (hF : LawF F)
    (hY : ∀ (w : World) (h : Heap), YP w h → (K w.params).In h)
    (Fk : ∀ (w : World) (mg : Str → Option Value) (fa : Addr) (h : Heap), YP w h → (K w.params).In h → h.Ns mainGlobals mg → mg d.name = some (.ref fa) →
      ∃ (fd : FuncData) (cd P : Addr), h.get? P = some { cls := .none, data := .fields #[] } ∧ (K w.params).lookup P = none ∧ PySem.W.CodeHd h cd P ∧ (∀ (s : Shared) (u : Value), BindsTo s fd ⟨[u], []⟩ [("script", u)]) ∧
        ∀ base : Heap, (K w.params).In base → base.Ns mainGlobals mg → LamX.TabB base mg cd P → FnOk l.prog w (K w.params) mg base CX0 65 fa fd ["script"] (spT P qn (K w.params) F 1)) :
    PySem.W.WalkO q loose XP YP l.row.toRowW d [] (fun f vs => PySem.call f vs) :=
  LamX.walk_ofTs (n := 63) (k := 65) (x := "script") (CX := fun _ => CX0) hn (by decide) hdf ⟨rfl, by decide, by decide⟩ hY
    (fun w mg fa h Y KX G e => let ⟨fd, cd, P, h1, h2, h3, h4, h5⟩ := Fk w mg fa h Y KX G e
      ⟨fd, [(cd, P)], spT P qn (K w.params) F 1, fun p hp => by cases List.mem_singleton.mp hp; exact h1, fun p hp => by cases List.mem_singleton.mp hp; exact h2, fun p hp => by cases List.mem_singleton.mp hp; exact h3, h4,
        fun H a ns a1 _ a3 a4 => hspT hF (K w.params) H P a qn ns a1 (a3 _ (List.mem_singleton.mpr rfl)) a4, fun base b1 b2 b3 => h5 base b1 b2 (b3 _ (List.mem_singleton.mpr rfl))⟩)
    fun _ _ _ _ _ z => z
end Y
namespace Y
open PySem PySem.Spec L2
/-! ### the way to a lambda in a statement -/
def kids : Expr → List Expr
  | .Call f es _ _ => f :: es
  | .UnaryOp _ e _ => [e]
  | .BoolOp _ es _ => es
  | _ => []
def follow : List Nat → Expr → Expr
  | [], e => e
  | i :: r, e => follow r ((kids e).getD i e)
def valOf : Stmt → Expr
  | .Assign _ v _ => v
  | .If t _ _ _ => t
  | .Return (some e) _ => e
  | _ => .Constant .none 0 ⟨0, 0, 0, 0⟩
def lamPs : Expr → Arguments
  | .Lambda p _ _ _ => p
  | _ => default
def lamBd : Expr → Expr
  | .Lambda _ b _ _ => b
  | e => e
def lamSc : Expr → Scope
  | .Lambda _ _ s _ => s
  | _ => default
section
variable {X : Cx}
/-! ### a < b of data -/
theorem op_ltD (hu : X.A.units + 64 < cLine) : OpR X (compareOp .Lt) (fun x y H k => ∃ d e, Dp X.K H x d ∧ Dp X.K H y e ∧ PySem.W.alike d e = true ∧ d ≠ .none ∧ d.depth ≤ 64 ∧ k (.bl (PySem.W.dataLt d e)) H) := by
  rintro pins s σ H x y v u Q I rx ry ⟨d, e, d1, d2, al, nn, dep, q⟩
  obtain ⟨as, r1⟩ := Dp.reads I _ _ _ d1 rx
  obtain ⟨bs, r2⟩ := Dp.reads I _ _ _ d2 ry
  exact PySem.W.lt_data r1 r2 al nn (by omega) ⟨.bl _, H, I, rfl, q⟩
def gLtD : G2 := fun m n G => match m.dat?, n.dat? with
  | some d, some e => PySem.W.alike d.py e.py = true ∧ d.py ≠ .none ∧ D.ok 64 d = true ∧ D.ok 64 e = true ∧ G (.im (.bl (PySem.W.dataLt d.py e.py)))
  | _, _ => False
theorem ltD_ok (hu : X.A.units + 64 < cLine) : OpG X (compareOp .Lt) gLtD := by
  refine opG (op_ltD hu) fun x y H k h => ?_
  obtain ⟨o, m1, m2, G, mu, v1, v2, h, q⟩ := h
  unfold gLtD at h
  split at h
  · rename_i d e e1 e2
    exact ⟨d.py, e.py, v1.dp e1 h.2.2.1, v2.dp e2 h.2.2.2.1, h.1, h.2.1, (D.ok_lay 64 d h.2.2.1).2, qim q (.bl _) h.2.2.2.2⟩
  · exact h.elim
/-! ### sum(l), max(l) of ints -/
def gSum : GC := fun ms G => match ms with
  | [m] => match m.lq? with
    | some ds => ∃ ns : List Int, ds = ns.map D.int ∧ G (.im (.int ns.sum))
    | none => False
  | _ => False
def gMax : GC := fun ms G => match ms with
  | [m] => match m.lq? with
    | some ds => ∃ ns : List Int, ds = ns.map D.int ∧ 0 < ns.length ∧ ∀ m, m ∈ ns → (∀ y, y ∈ ns → y ≤ m) → G (.im (.int m))
    | none => False
  | _ => False
theorem ints_vals {K : PySem.W.Frag} {o : Own} {H : Hp} : ∀ {ns : List Int} {xs : List V}, Dats K o H xs (ns.map D.int) → xs = ns.map V.int
  | [], _, .nil => rfl
  | n :: ns, _, .cons a r => by cases a; rw [ints_vals r]; rfl
theorem sum_ok (hc : X.calm = true) : CallG X (.builtin "sum") gSum := by
  refine callG (cr_sum hc) fun vs H k h => ?_
  obtain ⟨o, ms, G, mu, v1, h, q⟩ := h
  unfold gSum at h
  split at h
  · obtain ⟨v, rfl, w1⟩ := pv1 v1
    split at h
    · rename_i ds e
      obtain ⟨ns, rfl, h⟩ := h
      obtain ⟨a, xs, rfl, ht, dd⟩ := w1.lq e
      rw [ints_vals dd] at ht
      exact ⟨a, ns, rfl, ht, qim q (.int _) h⟩
    · exact h.elim
  · exact h.elim
theorem max_ok (hc : X.calm = true) : CallG X (.builtin "max") gMax := by
  refine callG (cr_max hc) fun vs H k h => ?_
  obtain ⟨o, ms, G, mu, v1, h, q⟩ := h
  unfold gMax at h
  split at h
  · obtain ⟨v, rfl, w1⟩ := pv1 v1
    split at h
    · rename_i ds e
      obtain ⟨ns, rfl, hl, h⟩ := h
      obtain ⟨a, xs, rfl, ht, dd⟩ := w1.lq e
      rw [ints_vals dd] at ht
      exact ⟨a, ns, rfl, ht, hl, fun m h1 h2 => qim q (.int _) (h m h1 h2)⟩
    · exact h.elim
  · exact h.elim
end
end Y
namespace Y
open PySem PySem.Spec L2
section
variable {X : Cx}
/-! ### sorted(t) of a tuple -/
theorem sorted_tup (hu : X.A.units + 80 < cLine) : CallR X (.builtin "sorted") (fun vs H k => ∃ a xs ds o, vs = [.ref a] ∧ SqT X.K H a xs ∧ Dats X.K o H xs ds ∧ CanSort ds ∧
    ∀ p ys, H p = none → ys.length = ds.length → Dats X.K o H ys (sortD ds) → k (.ref p) (upd H p (.lst ys))) := by
  rintro pins s σ H vs us Q I r ⟨a, xs, ds, o, rfl, hs, hd, ⟨c1, c2, c3⟩, q⟩
  obtain ⟨its, rv, ⟨ob, eo, hcl, nn, hdat⟩, hz⟩ := I.tuple hs
  rw [Vals.ref1 r]
  have il : its.length = ds.length := by rw [← rv.length, hd.length]
  refine Calls.call_function_entry PyProof.Rows.kind_sorted PyProof.Rows.plain_sorted PyProof.Rows.entry_sorted (PyProof.Rows.args_sorted1 _) ?_
  unfold Builtin.«sorted»
  refine wpAny_bind (m := checkCount "sorted" 1 1 _) (wpAny_pure ?_)
  refine wpAny_bind (wpAny_collect_seq a (T := "tuple") (.inr rfl) eo hcl hdat (fun h' kp => ?_) (by rw [List.size_toArray, ← rv.length]; exact hz))
  have I1 : Inv X pins σ H { s with heap := h' } := I.kept kp
  have dp := hd.all_dp c3
  have hlz : (xs.zip ds).length = ds.length := by rw [List.length_zip, hd.length, Nat.min_self]
  refine wpAny_bind (wpAny_newList ?_ (by simpa [← rv.length] using hz))
  show wpAny _ _ _ _ _ { s with heap := h'.push (PyProof.Rows.seqObj "list" its.toArray 0) }
  have at_ : (h'.push (PyProof.Rows.seqObj "list" its.toArray 0)).get? h'.objs.size = some (PyProof.Rows.seqObj "list" its.toArray 0) := Heap.get?_push_size _ rfl
  have reads : PySem.W.EachIs (fun v (b : V × D) => ∃ as, Reads (h'.push (PyProof.Rows.seqObj "list" its.toArray 0)) v b.2.py as ∧ h'.objs.size ∉ as) its (xs.zip ds) := each_zip rv hd.length fun p hp u ru => by
    obtain ⟨as, ra⟩ := Dp.reads I1 _ _ _ (dp p hp).2 ru
    refine ⟨as, PyProof.Rows.Reads.keeps (fun b u e => Heap.get?_push_of_some _ e) ra, fun hm => ?_⟩
    obtain ⟨u, hu⟩ := PyProof.On.reads_mem_get ra _ hm
    exact absurd (Heap.lt_size hu) (Nat.lt_irrefl _)
  have rels : PySem.W.EachIs (fun u (p : V × D) => RelV p.1 u ∧ p ∈ xs.zip ds) its (xs.zip ds) := each_zip rv hd.length fun p hp u ru => ⟨ru, hp⟩
  refine wpAny_bind (wpAny_holding (PySem.W.list_sort_data (enc := fun p : V × D => p.2.py) (s := { s with heap := h'.push (PyProof.Rows.seqObj "list" its.toArray 0) }) at_ rels reads (by rw [zip_py hd.length]; exact c1) (by rw [zip_py hd.length]; exact c2) (by rw [hlz, ← hd.length]; exact hz) (fun b hb => ?_) fun out ho eo => ?_))
  · have := (D.ok_lay 64 b.2 (c3 b.2 (List.of_mem_zip hb).2)).2
    show X.A.in1.units + 1 + _ < _
    have h1 : X.A.in1.units = X.A.units + 1 := rfl
    omega
  · obtain ⟨ys, hv, hly, hdy⟩ := sort_fin hd.length out eo fun p hp => (dp p hp).1
    obtain ⟨e', he'⟩ := PyProof.Rows.sortedHeap_at (vs := its) (out := out.toArray) at_
    refine wpAny_pure ⟨_, rfl, .ref h'.objs.size, upd H h'.objs.size (.lst ys), I1.laid (t' := s.toks) (fun b u e => ?_) (Nat.le_refl _)
      (show ObjOk X.prog X.w _ _ _ (.lst ys) from ⟨by rw [hly, ← hd.length]; exact hz, out, e', hv, he'⟩), rfl, q h'.objs.size ys (I1.hok.fresh (Nat.le_refl _)) hly hdy⟩
    have hb : b < h'.objs.size := Heap.lt_size e
    rw [PyProof.Rows.sortedHeap_old (Nat.ne_of_lt hb) (by show b < (h'.objs.push _).size; rw [Array.size_push]; exact Nat.lt_succ_of_lt hb)]
    exact Heap.get?_push_of_some _ e
def gSorted2 : GC := fun ms G => match ms with
  | [.im (.tup ds)] => CanSort ds ∧ G (.ls (sortD ds))
  | ms => gSorted ms G
theorem sorted2_ok (hc : X.calm = true) (hu : X.A.units + 80 < cLine) : CallG X (.builtin "sorted") gSorted2 := by
  have B := (sorted_tup (X := X) hu).or (sorted_ok hc hu)
  refine callG B fun vs H k h => ?_
  obtain ⟨o, ms, G, mu, v1, h, q⟩ := h
  unfold gSorted2 at h
  split at h
  · obtain ⟨v, rfl, w1⟩ := pv1 v1
    obtain ⟨a, xs, rfl, ht, dd⟩ := w1.tup
    exact .inl ⟨a, xs, _, o, rfl, ht.sq, dd, h.1, fun p ys hp _ hd => q _ _ (.ls _) (.new hp) ⟨p, ys, rfl, hp, rfl, hd⟩ h.2⟩
  · exact .inr ⟨o, ms, G, mu, v1, h, q⟩
end
end Y
namespace Y
open PySem PySem.Spec L2
/-! ### methods of a text -/
def MtT (X : Cx) (id : String) (g : Str → GC) : Prop := MtR X id fun x xs H k => ∃ a, x = .str a ∧ rCl X.K (g a) xs H k
def tSm (g : Str → GC) (td : TX) (ta : TL) : TX := fun ρ Q => td ρ fun r ρ1 => match r with
  | .im (.str a) => tCl (g a) ta ρ1 Q
  | _ => False
section
variable {K : PySem.W.Frag} {c : Cc} {o o' : Own} {σ σ' : St} {H H' : Hp} {ρ ρ' : Env} {τ τ' : List (V × M)} {X : Cx} {e a b : Expr} {es : List Expr} {pos p apos cpos : Pos} {t u td : TX} {ta : TL} {name : Str} {id : String} {g : Str → GC}
theorem de_sm (slot : Slot "str" name id) (hty : typeOf (.builtin id) = pure (.type "method_descriptor")) (hm : MtT X id g) (ho : DE X c a td) (ha : DA X c (e :: es) ta)
    (hbase : attributeBase a name X.env (eval a X.env) = eval a X.env := by rfl)
    (hfew : ((backTo cpos (starEach (e :: es) X.env)).all (fun x => !x.1) && (backToKw cpos (keywordEach [] X.env)).all (fun x => x.1.isSome)
      && decide ((e :: es).length + ([] : List Keyword).length + (if ([] : List Keyword).isEmpty then 0 else 1) < 30)) = true := by rfl)
    (hline : (apos.endLine == cpos.line) = true := by rfl) (hs : starEach (e :: es) X.env = (false, eval e X.env) :: starEach es X.env := by rfl) (hplain : (backTo cpos (starEach es X.env)).any (·.1) = false := by rfl) :
    DE X c (.Call (.Attribute a name apos) (e :: es) [] cpos) (tSm g td ta) :=
  peImp (pe_bm F.plainAttrs_str slot hty hm ho ha hbase hfew hline hs hplain) fun σ H k h => by
    obtain ⟨o, ρ, τ, Q, R0, h, q⟩ := h
    refine ⟨o, ρ, τ, _, R0, h, fun v1 H1 o1 r1 ρ1 τ1 L1 R1 z1 h1 => ?_⟩
    split at h1
    · rename_i y
      obtain ⟨rfl, z⟩ := z1
      cases z
      have w := tCl_of (K := X.K) (c := c) (g := g y) (ta := ta) (σ := σ) (H := H1) (k := k) ⟨o1, ρ1, τ1, Q, R1, h1, fun v H' o' r ρ' τ' L R z hq => q v H' o' r ρ' τ' (L1.trans L) R z hq⟩
      refine ⟨by first | exact trivial | rfl | exact ⟨y, rfl⟩ | simp [tyV], ?_⟩
      obtain ⟨o2, ρ2, τ2, Q2, R2, h2, q2⟩ := w
      exact ⟨o2, ρ2, τ2, Q2, R2, h2, fun vs H' o' rs ρ' τ' L R z hq => ⟨y, rfl, q2 vs H' o' rs ρ' τ' L R z hq⟩⟩
    · exact h1.elim
theorem strs_vals {K : PySem.W.Frag} {o : Own} {H : Hp} : ∀ {ys : List Str} {xs : List V}, Dats K o H xs (ys.map D.str) → xs = ys.map V.str
  | [], _, .nil => rfl
  | n :: ns, _, .cons a r => by cases a; rw [strs_vals r]; rfl
theorem pv3 {K : PySem.W.Frag} {o : Own} {H : Hp} {vs : List V} {m n l : M} (h : Paired (Vw K o H) vs [m, n, l]) : ∃ v w u, vs = [v, w, u] ∧ Vw K o H v m ∧ Vw K o H w n ∧ Vw K o H u l := by
  cases h with
  | cons a h =>
    obtain ⟨v, w, rfl, b, c⟩ := pv2 h
    exact ⟨_, v, w, rfl, a, b, c⟩
/-- sep.join(l) -/
def gJoin (a : Str) : GC := fun ms G => match ms with
  | [m] => match m.sq? with
    | some ds => ∃ ys : List Str, ds = ys.map D.str ∧ (ys.map (·.length)).sum + ys.length * a.length ≤ 16777216 ∧ G (.im (.str (Txt.join a ys)))
    | none => False
  | _ => False
theorem join_ok : MtT X "str.join" gJoin := fun pins s σ H x xs v us Q I rx rs h => mt_join pins s σ H x xs v us Q I rx rs (by
  obtain ⟨a, rfl, h⟩ := h
  obtain ⟨o, ms, G, mu, v1, h, q⟩ := h
  unfold gJoin at h
  split at h
  · obtain ⟨v, rfl, w1⟩ := pv1 v1
    split at h
    · rename_i m ds e
      obtain ⟨ys, rfl, hl, h⟩ := h
      unfold M.sq? at e
      split at e
      · cases e
        obtain ⟨a', xs, rfl, ht, dd⟩ := w1.tup
        rw [strs_vals dd] at ht
        exact ⟨a, a', ys, rfl, rfl, .inr ht.sq, hl, qim q (.str _) h⟩
      · obtain ⟨a', xs, rfl, ht, dd⟩ := w1.lq e
        rw [strs_vals dd] at ht
        exact ⟨a, a', ys, rfl, rfl, .inl ht, hl, qim q (.str _) h⟩
    · exact h.elim
  · exact h.elim)
/-- t.find(u), t.find(u, i), t.find(u, i, j) -/
def gFind (a : Str) : GC := fun ms G => match ms with
  | [.im (.str b)] => G (.im (.int (Txt.find a b)))
  | [.im (.str b), .im (.int i)] => G (.im (.int (Txt.find3 a b i)))
  | [.im (.str b), .im (.int i), .im (.int j)] => G (.im (.int (Txt.findIn a b i j)))
  | _ => False
theorem find_ok : MtT X "str.find" gFind := fun pins s σ H x xs v us Q I rx rs h => (mt_find.or (mt_find3.or mt_find4)) pins s σ H x xs v us Q I rx rs (by
  obtain ⟨a, rfl, h⟩ := h
  obtain ⟨o, ms, G, mu, v1, h, q⟩ := h
  unfold gFind at h
  split at h
  · obtain ⟨v, rfl, w1⟩ := pv1 v1
    exact .inl ⟨a, _, rfl, by rw [w1.str], qim q (.int _) h⟩
  · obtain ⟨v, w, rfl, w1, w2⟩ := pv2 v1
    exact .inr (.inl ⟨a, _, _, rfl, by rw [w1.str, w2.int], qim q (.int _) h⟩)
  · obtain ⟨v, w, u, rfl, w1, w2, w3⟩ := pv3 v1
    exact .inr (.inr ⟨a, _, _, _, rfl, by rw [w1.str, w2.int, w3.int], qim q (.int _) h⟩)
  · exact h.elim)
/-- str(x) -/
def gStr : GC := fun ms G => match ms with
  | [.im (.int i)] => i.natAbs.log2 < 1920 ∧ G (.im (.str (toString i)))
  | [.im (.str a)] => G (.im (.str a))
  | _ => False
theorem str_ok : CallG X (.type "str") gStr := by
  refine callG (call_str_int.or SkE.call_str_str) fun vs H k h => ?_
  obtain ⟨o, ms, G, mu, v1, h, q⟩ := h
  unfold gStr at h
  split at h
  · obtain ⟨v, rfl, w1⟩ := pv1 v1
    exact .inl ⟨_, by rw [w1.int], h.1, qim q (.str _) h.2⟩
  · obtain ⟨v, rfl, w1⟩ := pv1 v1
    exact .inr ⟨_, by rw [w1.str], qim q (.str _) h⟩
  · exact h.elim
/-! ### f'..' -/
/-- f'{e}' -/
def tFv (t : TX) : TX := fun ρ Q => t ρ fun r ρ1 => match r with
  | .im (.str y) => y.length ≤ sizeLine ∧ Q (.im (.str y)) ρ1
  | .im (.int i) => i.natAbs.log2 < 1920 ∧ Q (.im (.str (toString i))) ρ1
  | _ => False
theorem de_fv (h : DE X c e t) : DE X c (.FormattedValue e (-1) none pos) (tFv t) := peImp (pe_fmt h) fun σ H k h => by
  obtain ⟨o, ρ, τ, Q, R0, h, q⟩ := h
  refine ⟨o, ρ, τ, _, R0, h, fun v1 H1 o1 r1 ρ1 τ1 L1 R1 z1 h1 => ?_⟩
  split at h1
  · obtain ⟨rfl, z⟩ := z1
    cases z
    exact .inl ⟨_, rfl, h1.1, q _ H1 o1 (.im _) ρ1 _ L1 R1 ⟨rfl, .str _⟩ h1.2⟩
  · obtain ⟨rfl, z⟩ := z1
    cases z
    exact .inr ⟨_, rfl, h1.1, q _ H1 o1 (.im _) ρ1 _ L1 R1 ⟨rfl, .str _⟩ h1.2⟩
  · exact h1.elim
/-- the parts one behind the other -/
def tJoinS : List TX → Str → Env → (Str → Env → Prop) → Prop
  | [], acc, ρ, Q => Q acc ρ
  | t :: ts, acc, ρ, Q => t ρ fun r ρ1 => match r with
    | .im (.str y) => (acc ++ y).length ≤ sizeLine ∧ tJoinS ts (acc ++ y) ρ1 Q
    | _ => False
def tFs (ts : List TX) : TX := fun ρ Q => tJoinS ts Str.empty ρ fun out ρ1 => Q (.im (.str out)) ρ1
inductive DJ (X : Cx) (c : Cc) : List Expr → List TX → Prop
  | nil : DJ X c [] []
  | cons {e : Expr} {t : TX} {es : List Expr} {ts : List TX} : DE X c e t → DJ X c es ts → DJ X c (e :: es) (t :: ts)
theorem DJ.pj {es : List Expr} {ts : List TX} (h : DJ X c es ts) : PJ X es (ts.map fun t => TEo X.K c t) := by
  induction h with
  | nil => exact .nil
  | cons a _ ih => exact .cons a ih
theorem joins_of {k : Str → Hp → Prop} : ∀ {ts : List TX} {acc : Str} {H : Hp} {o : Own} {ρ : Env} {τ : List (V × M)} {Q : Str → Env → Prop}, Rep K c o σ H ρ τ → tJoinS ts acc ρ Q →
    (∀ out H' o' ρ' , Le o H o' H' → Rep K c o' σ H' ρ' τ → Q out ρ' → k out H') → tJs (ts.map fun t => TEo K c t) acc σ H k
  | [], acc, H, o, ρ, τ, Q, R0, h, q => q acc H o ρ .refl R0 h
  | t :: ts, acc, H, o, ρ, τ, Q, R0, h, q => by
    refine ⟨o, ρ, τ, _, R0, h, fun v1 H1 o1 r1 ρ1 τ1 L1 R1 z1 h1 => ?_⟩
    split at h1
    · obtain ⟨rfl, z⟩ := z1
      cases z
      exact ⟨_, rfl, h1.1, joins_of R1 h1.2 fun out H' o' ρ' L R hq => q out H' o' ρ' (L1.trans L) R hq⟩
    · exact h1.elim
theorem de_fs {v1 v2 : Expr} {rest : List Expr} {ts : List TX} (h : DJ X c (v1 :: v2 :: rest) ts) : DE X c (.JoinedStr (v1 :: v2 :: rest) pos) (tFs ts) := peImp (pe_joined h.pj) fun σ H k h => by
  obtain ⟨o, ρ, τ, Q, R0, h, q⟩ := h
  exact joins_of R0 h fun out H' o' ρ' L R hq => q (.str out) H' o' (.im (.str out)) ρ' τ L R ⟨rfl, .str _⟩ hq
theorem de_fs1 (h : DE X c e t) : DE X c (.JoinedStr [e] pos) t := pe_joined1 h
end
end Y
namespace Y
open PySem PySem.Spec L2
/-! ### the store: objects read, changed, made -/
@[reducible] def Env.stSet (ρ : Env) (n : Nat) (u : Ob) : Env := ⟨ρ.sl, ρ.st.set n u⟩
@[reducible] def Env.push (ρ : Env) (u : Ob) : Env := ⟨ρ.sl, ρ.st ++ [u]⟩
section
variable {K : PySem.W.Frag} {c : Cc} {o o' : Own} {σ σ' : St} {H H' : Hp} {ρ ρ' : Env} {τ τ' τ0 τ1 : List (V × M)} {X : Cx} {e a b : Expr} {es : List Expr} {pos p : Pos} {t u : TX} {P : EndP} {D' : Ends} {v : V} {m : M}
/-- an address with a label that stays is written -/
theorem le_kw {a : Addr} {n : Kl} {u : HO} (ho : o a = some (.k n)) (hn : n.tbl = false) : Le o H o (upd H a u) :=
  ⟨fun b w q f => ⟨q, by rw [upd_ne (fun z => by subst z; rw [ho] at q; cases q)]; exact f⟩, fun b q => ⟨q, upd_ne (fun z => by subst z; rw [ho] at q; cases q)⟩,
   fun P q ⟨ps, h1, h2, h3, h4⟩ => ⟨ps, h1, by rw [upd_ne (fun z => by subst z; rw [ho] at h1; cases h1; cases hn)]; exact h2, h3, fun pos cv hc => by
     obtain ⟨c, e1, e2, e3⟩ := h4 pos cv hc
     exact ⟨c, e1, e2, by rw [upd_ne (fun z => by subst z; rw [ho] at e2; cases e2)]; exact e3⟩⟩, fun _ _ q => q⟩
theorem IsOb.keep {n : Nat} {a : Addr} (L : Le o H o' H') (ha : H' a = H a) (kp : ∀ b q, o b = some (.k q) → o' b = some (.k q) ∧ H' b = H b) : ∀ {u : Ob}, IsOb K o H n a u → IsOb K o' H' n a u
  | .ls _, ⟨xs, e, q⟩ => ⟨xs, ha.trans e, q.mono L⟩
  | .dk _, ⟨xs, e, q⟩ => ⟨xs, ha.trans e, Kvs.mono L q⟩
  | .dt _, ⟨xs, e, q⟩ => ⟨xs, ha.trans e, Kvs.mono L q⟩
  | .ins C fs, ⟨dx, vs, e, f, g', q⟩ => ⟨dx, vs, ha.trans e, (kp _ _ f).1, (kp _ _ f).2.trans g', Kvs.mono L q⟩
/-- an object of the store is changed -/
theorem Rep.stSet (R0 : Rep K c o σ H ρ τ) {a : Addr} {n : Nat} {u u' : Ob} {w : HO} (e : ρ.st[n]? = some u) (ho : o a = some (.k (.w n))) (hw : Mt (some w))
    (h : IsOb K o (upd H a w) n a u') : Rep K c o σ (upd H a w) (ρ.stSet n u') τ ∧ Le o H o (upd H a w) := by
  have L : Le o H o (upd H a w) := le_kw ho rfl
  have ne : ∀ b l, o b = some l → l ≠ .k (.w n) → b ≠ a := fun b l q z y => by subst y; rw [ho] at q; cases q; exact z rfl
  have kp : ∀ l, l ≠ .k (.w n) → ∀ b, o b = some l → o b = some l ∧ upd H a w b = H b := fun l z b q => ⟨q, upd_ne (ne b l q z)⟩
  refine ⟨⟨fun j s' q => (R0.sl j s' q).mono L (kp _ (by intro z; cases z)) (kp _ (by intro z; cases z)), fun j v m' q => ⟨(R0.tm j v m' q).1.mono L (kp _ (by intro z; cases z)), (R0.tm j v m' q).2⟩, fun b l q => ?_, R0.le.trans L, R0.ln, ?_⟩, L⟩
  · by_cases z : b = a
    · subst z; rw [upd_same]; exact hw
    · rw [upd_ne z]; exact R0.mu b l q
  · have S := R0.st
    refine ⟨fun m y q => ?_, S.one, fun b m q => by rw [List.length_set]; exact S.lt b m q⟩
    by_cases hm : n = m
    · subst hm
      rw [List.getElem?_set_self (List.getElem?_eq_some_iff.mp e).1] at q; cases q
      exact ⟨a, ho, h⟩
    · rw [List.getElem?_set_ne hm] at q
      obtain ⟨b, hb, y'⟩ := S.at_ m y q
      have nb : b ≠ a := ne b _ hb (by intro z; cases z; exact hm rfl)
      refine ⟨b, hb, ?_⟩
      cases y with
      | ls ds => obtain ⟨xs, h1, h2⟩ := y'; exact ⟨xs, by rw [upd_ne nb]; exact h1, h2.mono L⟩
      | dk ds => obtain ⟨xs, h1, h2⟩ := y'; exact ⟨xs, by rw [upd_ne nb]; exact h1, Kvs.mono L h2⟩
      | dt ds => obtain ⟨xs, h1, h2⟩ := y'; exact ⟨xs, by rw [upd_ne nb]; exact h1, Kvs.mono L h2⟩
      | ins C fs =>
        obtain ⟨dx, vs, h1, h2, h3, h4⟩ := y'
        exact ⟨dx, vs, by rw [upd_ne nb]; exact h1, h2, by rw [upd_ne (ne dx _ h2 (by intro z; cases z))]; exact h3, Kvs.mono L h4⟩
/-- an address gets a label that stays -/
def labK (a : Addr) (q : Kl) (o : Own) : Own := fun b => if b = a then some (.k q) else o b
theorem labK_same {a : Addr} {q : Kl} : labK a q o a = some (.k q) := if_pos rfl
theorem labK_ne {a b : Addr} {q : Kl} (h : b ≠ a) : labK a q o b = o b := if_neg h
/-- an object that a slot or a temporary has owned is the store's now -/
theorem Rep.publish (R0 : Rep K c o σ H ρ τ) {a : Addr} {l : Lb} {u : Ob} (ho : o a = some l) (hl : ∀ q, l ≠ .k q) (hx : l ≠ .x) (ok : ∀ o' : Own, Le o H o' H → IsOb K o' H ρ.st.length a u)
    (sl : ∀ i s, ρ.sl[i]? = some s → l ≠ .s i ∨ s = .no) (hd : ∀ i s, ρ.sl[i]? = some s → l ≠ .h i) (tm : ∀ j, j < τ.length → l ≠ .t j) :
    Rep K c (labK a (.w ρ.st.length) o) σ H (ρ.push u) τ ∧ Le o H (labK a (.w ρ.st.length) o) H := by
  have ne : ∀ b l', o b = some l' → l' ≠ l → b ≠ a := fun b l' q z y => by subst y; rw [ho] at q; cases q; exact z rfl
  have L : Le o H (labK a (.w ρ.st.length) o) H :=
    .mk' (fun b w e f => ⟨by rw [labK_ne (fun z => by subst z; rw [ho] at e; cases e)]; exact e, f⟩) (fun b e => ⟨by rw [labK_ne (ne b _ e hx.symm)]; exact e, rfl⟩) fun b q e => ⟨by rw [labK_ne (ne b _ e (hl q).symm)]; exact e, rfl⟩
  have kp : ∀ l', l' ≠ l → ∀ b, o b = some l' → labK a (.w ρ.st.length) o b = some l' ∧ H b = H b := fun l' z b q => ⟨by rw [labK_ne (ne b _ q z)]; exact q, rfl⟩
  refine ⟨⟨fun i s e => ?_, fun j v m e => ?_, fun b l' e => ?_, R0.le.trans L, R0.ln, ?_⟩, L⟩
  · rcases sl i s e with z | rfl
    · exact (R0.sl i s e).mono L (kp _ z.symm) (kp _ (hd i s e).symm)
    · exact trivial
  · have hj := (List.getElem?_eq_some_iff.mp e).1
    exact ⟨(R0.tm j v m e).1.mono L (kp _ (tm j hj).symm), (R0.tm j v m e).2⟩
  · by_cases z : b = a
    · subst z; exact R0.mu b l ho
    · rw [labK_ne z] at e; exact R0.mu b l' e
  · have S := R0.st
    have lt : ∀ b m, o b = some (.k (.w m)) → m ≠ ρ.st.length := fun b m q => Nat.ne_of_lt (S.lt b m q)
    refine ⟨fun m y e => ?_, fun b1 b2 m e1 e2 => ?_, fun b m e => ?_⟩
    · by_cases hm : m < ρ.st.length
      · rw [List.getElem?_append_left hm] at e
        obtain ⟨b, hb, y'⟩ := S.at_ m y e
        have q := kp _ (hl _).symm b hb
        exact ⟨b, q.1, y'.keep L rfl fun b' q e' => kp _ (hl _).symm b' e'⟩
      · rw [List.getElem?_append_right (by omega)] at e
        have e0 : m - ρ.st.length = 0 := by
          cases y : m - ρ.st.length with
          | zero => rfl
          | succ z => rw [y] at e; simp at e
        rw [e0] at e; cases e
        have e1 : m = ρ.st.length := by omega
        subst e1
        exact ⟨a, labK_same, ok _ L⟩
    · by_cases z1 : b1 = a
      · by_cases z2 : b2 = a
        · rw [z1, z2]
        · rw [labK_ne z2] at e2
          rw [z1, labK_same] at e1
          cases e1
          exact absurd rfl (lt b2 _ e2)
      · rw [labK_ne z1] at e1
        by_cases z2 : b2 = a
        · rw [z2, labK_same] at e2
          cases e2
          exact absurd rfl (lt b1 _ e1)
        · rw [labK_ne z2] at e2
          exact S.one b1 b2 m e1 e2
    · rw [List.length_append, List.length_singleton]
      by_cases z : b = a
      · rw [z, labK_same] at e; cases e; omega
      · rw [labK_ne z] at e; have := S.lt b m e; omega
def M.ob? : M → Option Ob
  | .ls ds => some (.ls ds)
  | .dk kvs => some (.dk kvs)
  | .dt kvs => some (.dt kvs)
  | _ => none
theorem IsM.ob {l : Lb} {u : Ob} {n : Nat} (h : IsM K o H l v m) (e : m.ob? = some u) : ∃ a, v = .ref a ∧ o a = some l ∧ ∀ o' : Own, Le o H o' H → IsOb K o' H n a u := by
  cases m with
  | ls ds => cases e; obtain ⟨a, xs, rfl, ho, hH, d⟩ := h; exact ⟨a, rfl, ho, fun o' L => ⟨xs, hH, d.mono L⟩⟩
  | dk ds => cases e; obtain ⟨a, xs, rfl, ho, hH, d⟩ := h; exact ⟨a, rfl, ho, fun o' L => ⟨xs, hH, Kvs.mono L d⟩⟩
  | dt ds => cases e; obtain ⟨a, xs, rfl, ho, hH, d⟩ := h; exact ⟨a, rfl, ho, fun o' L => ⟨xs, hH, Kvs.mono L d⟩⟩
  | _ => cases e
/-- what is in hand becomes the store's -/
def pub (r : R) (ρ : Env) (k : D → Env → Prop) : Prop := match r with
  | .im d => k d ρ
  | .tm m => match m.ob? with
    | some u => k (.obj ρ.st.length) (ρ.push u)
    | none => False
  | .sl i => match ρ.sl[i]? with
    | some s => match s.m! with
      | some m => match m.ob? with
        | some u => k (.obj ρ.st.length) ((ρ.set i (s.up (.im (.obj ρ.st.length)))).push u)
        | none => False
      | none => False
    | none => False
theorem pub_ok {r : R} {k : D → Env → Prop} {kk : Prop} (R0 : Rep K c o σ H ρ τ') (z : RelR K o H σ v r τ τ') (h : pub r ρ k) (q : ∀ o' d ρ', Le o H o' H → Rep K c o' σ H ρ' τ → Dat K o' H v d → k d ρ' → kk) : kk := by
  cases r with
  | im d =>
    obtain ⟨rfl, z⟩ := z
    exact q o d ρ .refl R0 z h
  | tm m =>
    have z : τ' = τ ++ [(v, m)] := z
    subst z
    unfold pub at h
    simp only at h
    split at h
    · rename_i u e
      obtain ⟨a, rfl, ho, ok⟩ := (R0.tm τ.length v m (by simp)).1.ob (n := ρ.st.length) e
      have R1 : Rep K c o σ H ρ τ := ⟨R0.sl, fun j w m' e' => R0.tm j w m' (by rw [List.getElem?_append_left (List.getElem?_eq_some_iff.mp e').1]; exact e'), R0.mu, R0.le, R0.ln, R0.st⟩
      obtain ⟨R2, L⟩ := R1.publish ho (by intro q z; cases z) (by intro z; cases z) ok (fun i s _ => .inl (by intro z; cases z)) (fun i s _ z => by cases z) (fun j hj z => by injection z with z; omega)
      exact q _ _ _ L R2 (.obj labK_same) h
    · exact h.elim
  | sl i =>
    obtain ⟨rfl, z⟩ := z
    unfold pub at h
    simp only at h
    split at h
    · rename_i s es
      split at h
      · rename_i m em
        split at h
        · rename_i u eu
          obtain ⟨w, hw, im⟩ := (R0.sl i s es).of! em
          rw [z] at hw; cases hw
          obtain ⟨a, rfl, ho, ok⟩ := im.ob (n := ρ.st.length) eu
          have R1 : Rep K c o σ H (ρ.set i .no) τ' := R0.setS trivial
          obtain ⟨R2, L⟩ := R1.publish ho (by intro q z; cases z) (by intro z; cases z) ok (fun j s' e' => by
            by_cases hj : i = j
            · subst hj
              rw [List.getElem?_set_self (List.getElem?_eq_some_iff.mp es).1] at e'; cases e'
              exact .inr rfl
            · exact .inl (by intro z; injection z with z; exact hj z)) (fun j s' _ z => by cases z) (fun j hj z => by cases z)
          have k0 := R0.sl i s es
          have R3 := R2.setS (i := i) (s := s.up (.im (.obj ρ.st.length))) (by
            cases s with
            | no => cases em
            | lo x => exact ⟨_, z, .obj labK_same⟩
            | pa x => obtain ⟨w, h1, h2, _⟩ := k0; rw [z] at h1; cases h1; exact ⟨_, z, h2, .obj labK_same⟩
            | hd _ _ _ => cases em)
          refine q _ _ _ L ?_ (.obj labK_same) h
          have e3 : ((((ρ.set i .no).push u).set i (s.up (.im (.obj ρ.st.length)))) : Env) = (ρ.set i (s.up (.im (.obj ρ.st.length)))).push u := by
            simp only [Env.set, Env.push, List.set_set]
          rw [← e3]; exact R3
        · exact h.elim
      · exact h.elim
    · exact h.elim
def tPub (t : TX) : TX := fun ρ Q => t ρ fun r ρ1 => pub r ρ1 fun d ρ2 => Q (.im d) ρ2
theorem de_pub (h : DE X c e t) : DE X c e (tPub t) := peImp h fun σ H k h => by
  obtain ⟨o, ρ, τ, Q, R0, h, q⟩ := h
  refine ⟨o, ρ, τ, _, R0, h, fun v1 H1 o1 r1 ρ1 τ1 L1 R1 z1 h1 => ?_⟩
  exact pub_ok R1 z1 h1 fun o' d ρ' L R' dd hk => q v1 H1 o' (.im d) ρ' τ (L1.trans L) R' ⟨rfl, dd⟩ hk

/-! ### e.f -/
/-- what is told of the classes whose instances have the attribute f -/
structure FldOk (K : PySem.W.Frag) (C : Addr) (f : Str) : Prop where
  cls : Cls K C
  no : NoAttr K C f
def tFldY (Pc : Addr → Prop) (f : Str) (t : TX) : TX := fun ρ Q => t ρ fun r ρ1 => match r with
  | .im (.obj n) => match ρ1.st[n]? with
    | some (.ins C fs) => Pc C ∧ match fs.lookup f with
      | some d => Q (.im d) ρ1
      | none => False
    | _ => False
  | _ => False
theorem Kvs.look {x : Str} : ∀ {vs : List (Str × V)} {fs : List (Str × D)}, Kvs K o H vs fs → (∀ d, fs.lookup x = some d → ∃ w, vs.lookup x = some w ∧ Dat K o H w d) ∧ (fs.lookup x = none → vs.lookup x = none)
  | [], [], .nil => ⟨fun d e => (by cases e), fun _ => rfl⟩
  | (y, v) :: vs, (z, w) :: fs, .cons a r => by
    obtain ⟨a1, a2⟩ := a
    have a1 : y = z := a1
    subst a1
    rw [List.lookup_cons, List.lookup_cons]
    cases hb : x == y with
    | true => exact ⟨fun d e => by cases e; exact ⟨v, rfl, a2⟩, fun e => by cases e⟩
    | false => exact Kvs.look r
theorem de_fld {f : Str} {Pc : Addr → Prop} (h : DE X c e t) (hC : ∀ C, Pc C → FldOk X.K C f) (hb : attributeBase e f X.env (eval e X.env) = eval e X.env := by rfl) : DE X c (.Attribute e f pos) (tFldY Pc f t) :=
  peImp (pe_fld h hb) fun σ H k h => by
    obtain ⟨o, ρ, τ, Q, R0, h, q⟩ := h
    refine ⟨o, ρ, τ, _, R0, h, fun v1 H1 o1 r1 ρ1 τ1 L1 R1 z1 h1 => ?_⟩
    split at h1
    · rename_i n
      obtain ⟨rfl, z⟩ := z1
      split at h1
      · rename_i C fs es
        obtain ⟨pc, h1⟩ := h1
        obtain ⟨a, rfl, ho, dx, vs, g1, g2, g3, g4⟩ := R1.st.obj es z
        split at h1
        · rename_i d ed
          obtain ⟨w, e1, dw⟩ := (Kvs.look g4).1 d ed
          exact ⟨a, C, dx, vs, w, rfl, g1, (hC C pc).cls, (hC C pc).no, e1, q w H1 o1 (.im d) ρ1 τ1 L1 R1 ⟨rfl, dw⟩ h1⟩
        · exact h1.elim
      · exact h1.elim
    · exact h1.elim
def putFD (f : Str) (d : D) : List (Str × D) → List (Str × D)
  | [] => [(f, d)]
  | (g, x) :: r => if g = f then (g, d) :: r else (g, x) :: putFD f d r
theorem Kvs.putF {f : Str} {w : V} {d : D} (q : Dat K o H w d) : ∀ {vs : List (Str × V)} {fs : List (Str × D)}, Kvs K o H vs fs → Kvs K o H (L2.putF f w vs) (putFD f d fs)
  | [], [], .nil => .cons ⟨rfl, q⟩ .nil
  | (y, v) :: vs, (z, x) :: fs, .cons a r => by
    obtain ⟨a1, a2⟩ := a
    have a1 : y = z := a1
    subst a1
    unfold L2.putF putFD
    by_cases hb : y = f
    · rw [if_pos hb, if_pos hb]; exact .cons ⟨rfl, q⟩ r
    · rw [if_neg hb, if_neg hb]; exact .cons ⟨rfl, a2⟩ (Kvs.putF q r)
/-- e.f = .. -/
def sFldY (Pc : Addr → Prop) (f : Str) (to tv : TX) : TSX := fun P ρ => tPub tv ρ fun rv ρ1 => match rv with
  | .im d => to ρ1 fun r ρ2 => match r with
    | .im (.obj n) => match ρ2.st[n]? with
      | some (.ins C fs) => Pc C ∧ fs.length < 1000 ∧ P.nx (ρ2.stSet n (.ins C (putFD f d fs)))
      | _ => False
    | _ => False
  | _ => False
theorem ds_fld {f : Str} {Pc : Addr → Prop} {val : Expr} {tv : TX} {pos' : Pos} (ho : DE X c e t) (hv : DE X c val tv) (hC : ∀ C, Pc C → FldOk X.K C f) (hs : swapsWith val (some (.Attribute e f pos')) pos.line X.env = pure false := by rfl) :
    DS X c (.Assign [.Attribute e f pos'] val pos) (sFldY Pc f t tv) := psImp (ps_fld ho (de_pub hv) hs) fun D σ H h => by
  obtain ⟨o, ρ, P, R0, h, w⟩ := h
  refine ⟨o, ρ, [], _, R0, h, fun v1 H1 o1 r1 ρ1 τ1 L1 R1 z1 h1 => ?_⟩
  split at h1
  · rename_i d
    obtain ⟨rfl, dv⟩ := z1
    refine ⟨o1, ρ1, [], _, R1, h1, fun v2 H2 o2 r2 ρ2 τ2 L2 R2 z2 h2 => ?_⟩
    split at h2
    · rename_i n
      obtain ⟨rfl, z⟩ := z2
      split at h2
      · rename_i C fs es
        obtain ⟨pc, hl, h2⟩ := h2
        obtain ⟨a, rfl, ho, dx, vs, g1, g2, g3, g4⟩ := R2.st.obj es z
        refine ⟨a, C, dx, vs, rfl, g1, (hC C pc).cls, (hC C pc).no, by rw [show vs.length = fs.length from Paired.length g4]; exact hl, ?_⟩
        have Lk : Le o2 H2 o2 (upd H2 a (.ins C dx (putF f v1 vs))) := le_kw ho rfl
        have ne : dx ≠ a := fun y => by subst y; rw [ho] at g2; cases g2
        obtain ⟨R3, L3⟩ := R2.stSet (u' := .ins C (putFD f d fs)) (w := .ins C dx (putF f v1 vs)) es ho trivial ⟨dx, _, upd_same, g2, by rw [upd_ne ne]; exact g3, Kvs.mono Lk (Kvs.putF (dv.mono L2) g4)⟩
        exact w.nx _ _ _ _ (L1.trans (L2.trans L3)) R3 h2
      · exact h2.elim
    · exact h2.elim
  · exact h1.elim

/-! ### methods of lists, whoever holds them -/
def tMtE (g : GM) (to : TX) (ta : TL) : TX := fun ρ Q => to ρ fun r ρ1 => match r with
  | .sl i => tMt g i ta ρ1 Q
  | .im (.obj n) => (match ρ1.st[n]? with
    | some (.ls _) => True
    | _ => False) ∧ tFrz ta (fun ds ρ2 => match ρ2.st[n]? with
      | some (.ls xs) => g xs ds fun d xs' => Q (.im d) (ρ2.stSet n (.ls xs'))
      | _ => False) ρ1
  | _ => False
theorem tMtE_of {g : GM} {to : TX} {ta : TL} {k : VK} (h : TEo K c (tMtE g to ta) σ H k) : tBM K "list" (rMt K g) (TEo K c to) (TAo K c ta) σ H k := by
  obtain ⟨o, ρ, τ, Q, R0, h, q⟩ := h
  refine ⟨o, ρ, τ, _, R0, h, fun v1 H1 o1 r1 ρ1 τ1 L1 R1 z1 h1 => ?_⟩
  split at h1
  · rename_i i
    obtain ⟨rfl, z⟩ := z1
    obtain ⟨y, hy, ty, t2⟩ := tMt_of (k := k) ⟨o1, ρ1, τ1, Q, R1, h1, fun v H' o' r ρ' τ' L => q v H' o' r ρ' τ' (L1.trans L)⟩
    rw [z] at hy; cases hy
    exact ⟨ty, t2⟩
  · rename_i n
    obtain ⟨rfl, z⟩ := z1
    obtain ⟨h0, h1⟩ := h1
    split at h0
    · rename_i xs es
      obtain ⟨a, rfl, ho, ys, g1, g2⟩ := R1.st.obj es z
      refine ⟨.inl ⟨rfl, ys, SqL.of g1⟩, ?_⟩
      refine tFrz_of R1 h1 fun vs H2 o2 ds ρ2 L2 R2 d2 h2 => ?_
      split at h2
      · rename_i zs e2
        obtain ⟨a', e3, ho2, ws, g3, g4⟩ := R2.st.obj e2 (z.mono L2)
        cases e3
        refine ⟨a, ws, zs, ds, o2, _, rfl, g3, g4, d2, h2, fun y d xs' ds' dy dxs hG => ?_⟩
        have Lk : Le o2 H2 o2 (upd H2 a (.lst xs')) := le_kw ho2 rfl
        obtain ⟨R3, L3⟩ := R2.stSet (u' := .ls ds') (w := .lst xs') e2 ho2 trivial ⟨xs', upd_same, dxs.mono Lk⟩
        exact q y _ o2 (.im d) _ τ1 (L1.trans (L2.trans L3)) R3 ⟨rfl, dy.mono L3⟩ hG
      · exact h2.elim
    · exact h0.elim
  · exact h1.elim
section
variable {name : Str} {apos cpos : Pos} {id : String} {g : GM} {ta : TL}
theorem de_mtE (pa : PySem.PlainAttrs "list") (slot : PySem.Slot "list" name id) (hty : typeOf (.builtin id) = pure (.type "method_descriptor")) (hm : MtG X id g) (ho : DE X c a t) (ha : DA X c (e :: es) ta)
    (hbase : attributeBase a name X.env (eval a X.env) = eval a X.env := by rfl)
    (hfew : ((backTo cpos (starEach (e :: es) X.env)).all (fun x => !x.1) && (backToKw cpos (keywordEach [] X.env)).all (fun x => x.1.isSome)
      && decide ((e :: es).length + ([] : List Keyword).length + (if ([] : List Keyword).isEmpty then 0 else 1) < 30)) = true := by rfl)
    (hline : (apos.endLine == cpos.line) = true := by rfl) (hs : starEach (e :: es) X.env = (false, eval e X.env) :: starEach es X.env := by rfl) (hplain : (backTo cpos (starEach es X.env)).any (·.1) = false := by rfl) :
    DE X c (.Call (.Attribute a name apos) (e :: es) [] cpos) (tMtE g t ta) := peImp (pe_bm pa slot hty hm ho ha hbase hfew hline hs hplain) fun _ _ _ h => tMtE_of h
theorem de_mtE0 (pa : PySem.PlainAttrs "list") (slot : PySem.Slot "list" name id) (hty : typeOf (.builtin id) = pure (.type "method_descriptor")) (hm : MtG X id g) (ho : DE X c a t)
    (hbase : attributeBase a name X.env (eval a X.env) = eval a X.env := by rfl) (hline : (apos.endLine == cpos.line) = true := by rfl) :
    DE X c (.Call (.Attribute a name apos) [] [] cpos) (tMtE g t lNil) := peImp (pe_bm0 pa slot hty hm ho hbase hline) fun σ H k h => by
  obtain ⟨o, ρ, τ, Q, R0, h, q⟩ := tMtE_of h
  refine ⟨o, ρ, τ, Q, R0, h, fun v1 H1 o1 r1 ρ1 τ1 L1 R1 z1 h1 => ?_⟩
  obtain ⟨ty, o2, ρ2, τ2, Q2, R2, h2, q2⟩ := q v1 H1 o1 r1 ρ1 τ1 L1 R1 z1 h1
  exact ⟨ty, q2 [] H1 o2 [] ρ2 τ2 .refl R2 .nil h2⟩
end

/-! ### o.m(..) and C(..) -/
/-- the def is called: what stands for its arguments -/
def callF (ex : EX) (F : TF) (n : Nat) (rs : List R) (ρ : Env) (Q : R → Env → Prop) : Prop := match argMs ρ rs with
  | some ms => rs.length = n ∧ (slots rs).Nodup ∧ F ms ρ.st (fun m fin W => m.fit = true ∧ Q m.res ((putB rs fin ρ).put W)) fun x W => ex x ((putB rs [] ρ).put W)
  | none => False
theorem callF_ok {F : TF} {n : Nat} {ex : EX} {E : XK} {kk : VK} {vs : List V} {rs : List R} {Q : R → Env → Prop} (hE : ∀ (x : Xc) d H' o' ρ', Rep K c o' σ H' ρ' [] → IsXd K o' H' d x.2 → ex x ρ' → E x.1 d H') (R1 : Rep K c o σ H ρ τ1) (z1 : RelRs K o H σ vs rs τ τ1) (h : callF ex F n rs ρ Q)
    (q : ∀ v H' o' r ρ' τ', Le o H o' H' → Rep K c o' σ H' ρ' τ' → RelR K o' H' σ v r τ τ' → Q r ρ' → kk v H') : spD K F n vs H kk E := by
  unfold callF at h
  split at h
  · rename_i ms em
    obtain ⟨hn, nd, hF⟩ := h
    refine ⟨ownC rs τ.length o, ms, ρ.st, _, _, z1.length.trans hn, callA_ok R1 z1 em nd, hF, fun v H2 o2 m fin W' L2 A2 im fo hG => ?_, fun x d H2 o2 W' L2 A2 hx hG => ?_⟩
    · obtain ⟨hfit, hG⟩ := hG
      exact callR_ok (vs := vs) (callB_ok R1 z1 em nd L2 A2 fo) im hfit hG fun o' r τ' e R' z' hq => q v H2 o' r _ τ' (by rw [e]; exact ownB_le L2) R' z' hq
    · refine hE x d H2 _ _ (callB_ok R1 z1 em nd L2 A2 fin_nil).forget ?_ hG
      cases d with
      | none => exact hx
      | some d =>
        obtain ⟨hx1, ws, hx2, hx3⟩ := hx
        exact ⟨(ownB_keep.k d _ hx1 hx2).1, ws, hx2, Kvs.monoK ownB_keep hx3⟩
  · exact h.elim
def tMethY (ex : EX) (C : Addr) (m : Str) (F : TF) (n : Nat) (to : TX) (ta : TL) : TX := fun ρ Q => to ρ fun r ρ1 => match r with
  | .im (.obj j) => match ρ1.st[j]? with
    | some (.ins C' fs) => C' = C ∧ fs.lookup m = none ∧ ta ρ1 fun rs ρ2 => callF ex F n (.im (.obj j) :: rs) ρ2 Q
    | _ => False
  | _ => False
theorem meth_of {m : Str} {C : Addr} {F : TF} {n : Nat} {ex : EX} {E : XK} {to : TX} {ta : TL} {k : VK} (hE : ∀ (x : Xc) d H' o' ρ', Rep K c o' σ H' ρ' [] → IsXd K o' H' d x.2 → ex x ρ' → E x.1 d H')
    (h : TEo K c (tMethY ex C m F n to ta) σ H k) : L2.tMeth C m (spD K F n) [] E (TEo K c to) (TAo K c ta) σ H k := by
  obtain ⟨o, ρ, τ, Q, R0, h, q⟩ := h
  refine ⟨o, ρ, τ, _, R0, h, fun v1 H1 o1 r1 ρ1 τ1 L1 R1 z1 h1 => ?_⟩
  split at h1
  · rename_i j
    obtain ⟨rfl, z⟩ := z1
    split at h1
    · rename_i C' fs es
      obtain ⟨rfl, hm, h1⟩ := h1
      obtain ⟨a, rfl, ho, dx, vs, g1, g2, g3, g4⟩ := R1.st.obj es z
      refine ⟨a, dx, vs, rfl, g1, (Kvs.look g4).2 hm, o1, ρ1, τ1, _, R1, h1, fun ws H2 o2 rs ρ2 τ2 L2 R2 z2 h2 => ?_⟩
      show spD K F n (V.ref a :: (ws ++ [])) H2 k E
      rw [List.append_nil]
      exact callF_ok hE R2 (RelRs.cons (r := .im (.obj j)) ⟨rfl, z.mono L2⟩ z2) h2 fun v H' o' r ρ' τ' L R' z' hq => q v H' o' r ρ' τ' (L1.trans (L2.trans L)) R' z' hq
    · exact h1.elim
  · exact h1.elim
def tMakeY (ex : EX) (C : Addr) (F : TF) (n : Nat) (ta : TL) : TX := fun ρ Q => ta ρ fun rs ρ1 => callF ex F n (.im (.obj ρ1.st.length) :: rs) (ρ1.push (.ins C [])) fun r ρ2 => match r with
  | .im .non => Q (.im (.obj ρ1.st.length)) ρ2
  | _ => False
/-- a new instance stands in the store -/
theorem Rep.newIns (R0 : Rep K c o σ H ρ τ) {x dx C : Addr} (hx : H x = none) (hd : H dx = none) (ne : dx ≠ x) :
    Rep K c (labK x (.w ρ.st.length) (labK dx (.wd ρ.st.length) o)) σ (upd (upd H dx (.own x)) x (.ins C dx [])) (ρ.push (.ins C [])) τ ∧ Le o H (labK x (.w ρ.st.length) (labK dx (.wd ρ.st.length) o)) (upd (upd H dx (.own x)) x (.ins C dx [])) := by
  have ox := R0.fresh hx
  have od := R0.fresh hd
  have keepH : ∀ b u, H b = some u → b ≠ x ∧ b ≠ dx := fun b u e => ⟨fun z => (by rw [z, hx] at e; cases e), fun z => (by rw [z, hd] at e; cases e)⟩
  have lab : ∀ b, b ≠ x → b ≠ dx → labK x (.w ρ.st.length) (labK dx (.wd ρ.st.length) o) b = o b ∧ upd (upd H dx (.own x)) x (.ins C dx []) b = H b := fun b h1 h2 => ⟨by rw [labK_ne h1, labK_ne h2], by rw [upd_ne h1, upd_ne h2]⟩
  have olab : ∀ b l, o b = some l → b ≠ x ∧ b ≠ dx := fun b l e => ⟨fun z => (by rw [z, ox] at e; cases e), fun z => (by rw [z, od] at e; cases e)⟩
  have kp : ∀ l b, o b = some l → labK x (.w ρ.st.length) (labK dx (.wd ρ.st.length) o) b = some l ∧ upd (upd H dx (.own x)) x (.ins C dx []) b = H b := fun l b e => by
    obtain ⟨h1, h2⟩ := olab b l e
    obtain ⟨e1, e2⟩ := lab b h1 h2
    exact ⟨e1.trans e, e2⟩
  have L : Le o H (labK x (.w ρ.st.length) (labK dx (.wd ρ.st.length) o)) (upd (upd H dx (.own x)) x (.ins C dx [])) :=
    .mk' (fun b w e f => by
      obtain ⟨h1, h2⟩ := keepH b w f
      obtain ⟨e1, e2⟩ := lab b h1 h2
      exact ⟨e1.trans e, e2.trans f⟩) (fun b e => kp _ b e) fun b q e => kp _ b e
  have lx : labK x (.w ρ.st.length) (labK dx (.wd ρ.st.length) o) x = some (.k (.w ρ.st.length)) := labK_same
  have ld : labK x (.w ρ.st.length) (labK dx (.wd ρ.st.length) o) dx = some (.k (.wd ρ.st.length)) := (labK_ne ne).trans labK_same
  have Hx : upd (upd H dx (.own x)) x (.ins C dx []) x = some (.ins C dx []) := upd_same
  have Hd : upd (upd H dx (.own x)) x (.ins C dx []) dx = some (.own x) := (upd_ne ne).trans upd_same
  refine ⟨⟨fun i s e => (R0.sl i s e).mono L (kp _) (kp _), fun j v m e => ⟨(R0.tm j v m e).1.mono L (kp _), (R0.tm j v m e).2⟩, fun b l e => ?_, R0.le.trans L, R0.ln, ?_⟩, L⟩
  · by_cases h1 : b = x
    · rw [h1, Hx]; trivial
    · by_cases h2 : b = dx
      · rw [h2, Hd]; trivial
      · obtain ⟨e1, e2⟩ := lab b h1 h2
        rw [e1] at e; rw [e2]; exact R0.mu b l e
  · have S := R0.st
    have back : ∀ b m, labK x (.w ρ.st.length) (labK dx (.wd ρ.st.length) o) b = some (.k (.w m)) → (b = x ∧ m = ρ.st.length) ∨ (o b = some (.k (.w m)) ∧ m < ρ.st.length) := fun b m e => by
      by_cases h1 : b = x
      · rw [h1, lx] at e; cases e; exact .inl ⟨h1, rfl⟩
      · by_cases h2 : b = dx
        · rw [h2, ld] at e; cases e
        · rw [(lab b h1 h2).1] at e; exact .inr ⟨e, S.lt b m e⟩
    refine ⟨fun m y e => ?_, fun b1 b2 m e1 e2 => ?_, fun b m e => ?_⟩
    · by_cases hm : m < ρ.st.length
      · rw [List.getElem?_append_left hm] at e
        obtain ⟨b, hb, y'⟩ := S.at_ m y e
        exact ⟨b, (kp _ b hb).1, y'.keep L (kp _ b hb).2 fun b' q e' => kp _ b' e'⟩
      · rw [List.getElem?_append_right (by omega)] at e
        have e0 : m - ρ.st.length = 0 := by
          cases y : m - ρ.st.length with
          | zero => rfl
          | succ z => rw [y] at e; simp at e
        rw [e0] at e; cases e
        have e1 : m = ρ.st.length := by omega
        subst e1
        exact ⟨x, lx, dx, [], Hx, ld, Hd, .nil⟩
    · rcases back b1 m e1 with ⟨h1, h2⟩ | ⟨h1, h2⟩
      · rcases back b2 m e2 with ⟨h3, h4⟩ | ⟨h3, h4⟩
        · rw [h1, h3]
        · omega
      · rcases back b2 m e2 with ⟨h3, h4⟩ | ⟨h3, h4⟩
        · omega
        · exact S.one b1 b2 m h1 h3
    · rw [List.length_append, List.length_singleton]
      rcases back b m e with ⟨h1, h2⟩ | ⟨h1, h2⟩ <;> omega
theorem make_of {C : Addr} {F : TF} {n : Nat} {ex : EX} {E : XK} {ta : TL} {k : VK} (hE : ∀ (x : Xc) d H' o' ρ', Rep K c o' σ H' ρ' [] → IsXd K o' H' d x.2 → ex x ρ' → E x.1 d H')
    (h : TEo K c (tMakeY ex C F n ta) σ H k) : L2.tMake C (spD K F n) [] E (TAo K c ta) σ H k := by
  obtain ⟨o, ρ, τ, Q, R0, h, q⟩ := h
  refine ⟨o, ρ, τ, _, R0, h, fun vs H1 o1 rs ρ1 τ1 L1 R1 z1 h1 => ?_⟩
  intro x dx hx hd ne
  show spD K F n (V.ref x :: (vs ++ [])) _ _ E
  rw [List.append_nil]
  obtain ⟨R2, L2⟩ := R1.newIns (C := C) hx hd ne
  refine callF_ok hE R2 (RelRs.cons (r := .im (.obj ρ1.st.length)) ⟨rfl, .obj labK_same⟩ (z1.mono L2)) h1 fun v H' o' r ρ' τ' L R' z' hq => ?_
  split at hq
  · obtain ⟨rfl, z⟩ := z'
    cases z
    exact ⟨rfl, q _ H' o' (.im (.obj ρ1.st.length)) ρ' _ (L1.trans (L2.trans L)) R' ⟨rfl, .obj (L.wk _ _ labK_same)⟩ hq⟩
  · exact hq.elim
end
section
variable {X : Cx} {c : Cc} {F : TF} {n k : Nat} {C f : Addr} {fd : FuncData} {ps : List Str} {x m : Str} {p pos apos : Pos} {e o : Expr} {es : List Expr} {to : TX} {ta : TL}
theorem hE0 {K : PySem.W.Frag} {σ : St} : ∀ (x : Xc) d H' o' ρ', Rep K c o' σ H' ρ' [] → IsXd K o' H' d x.2 → ex0 x ρ' → E0 x.1 d H' := fun _ _ _ _ _ _ _ z => z.elim
/-- o.m(e, ..): a method that raises nothing -/
theorem de_meth {pl : Sem Bool} (ho : DE X c o to) (cl : Cls X.K C) (hm : Meth X.K C m f) (G : FnOk X.prog X.w X.K X.mg X.base CX0 k f fd ps (spD X.K F n)) (hr : Room k X.A) (hb : Binds X.K fd ps []) (ha : DA X c (e :: es) ta)
    (hst : starEach (e :: es) X.env = (false, eval e X.env) :: starEach es X.env := by rfl) (hpl : (backTo pos (starEach es X.env)).any (·.1) = false := by rfl)
    (ht : eval (.Call (.Attribute o m apos) (e :: es) [] pos) X.env = (do
      let ov ← eval o X.env
      standAt apos.atName
      let (f, first) ← holding [ov] (getMethod ov m pl)
      callWith pos f first (backTo pos (starEach (e :: es) X.env)) (backToKw pos (keywordEach [] X.env))) := by rfl) :
    DE X c (.Call (.Attribute o m apos) (e :: es) [] pos) (tMethY ex0 C m F n to ta) := peImp (pe_meth (E := E0) ho cl hm G hr hb .nil pass0 ha hst hpl ht) fun _ _ _ h => meth_of hE0 h
theorem de_meth0 {pl : Sem Bool} (ho : DE X c o to) (cl : Cls X.K C) (hm : Meth X.K C m f) (G : FnOk X.prog X.w X.K X.mg X.base CX0 k f fd ps (spD X.K F n)) (hr : Room k X.A) (hb : Binds X.K fd ps [])
    (ht : eval (.Call (.Attribute o m apos) [] [] pos) X.env = (do
      let ov ← eval o X.env
      standAt apos.atName
      let (f, first) ← holding [ov] (getMethod ov m pl)
      callWith pos f first (backTo pos (starEach [] X.env)) (backToKw pos (keywordEach [] X.env))) := by rfl) :
    DE X c (.Call (.Attribute o m apos) [] [] pos) (tMethY ex0 C m F n to lNil) := peImp (pe_meth0 (E := E0) ho cl hm G hr hb .nil pass0 ht) fun σ H kk h => by
  obtain ⟨o, ρ, τ, Q, R0, h, q⟩ := meth_of hE0 h
  refine ⟨o, ρ, τ, Q, R0, h, fun v1 H1 o1 r1 ρ1 τ1 L1 R1 z1 h1 => ?_⟩
  obtain ⟨a, dx, fs, e1, e2, e3, o2, ρ2, τ2, Q2, R2, h2, q2⟩ := q v1 H1 o1 r1 ρ1 τ1 L1 R1 z1 h1
  exact ⟨a, dx, fs, e1, e2, e3, q2 [] H1 o2 [] ρ2 τ2 .refl R2 .nil h2⟩
/-- C(e, ..) -/
theorem de_make (Mk : Mk X.K C f) (G : FnOk X.prog X.w X.K X.mg X.base CX0 k f fd ps (spD X.K F n)) (hr : Room (k + 1) X.A) (hg : Gl X x) (hm : X.mg x = some (.ref C)) (hb : Binds X.K fd ps []) (ha : DA X c (e :: es) ta) (hdb : (x == ("__debug__" : Str)) = false := by decide)
    (he : starEach (e :: es) X.env = (false, eval e X.env) :: starEach es X.env := by rfl) (hpl : (backTo pos (starEach es X.env)).any (·.1) = false := by rfl) :
    DE X c (.Call (.Name x p) (e :: es) [] pos) (tMakeY ex0 C F n ta) := peImp (pe_make (E := E0) Mk G hr hg hm hb .nil pass0 ha hdb he hpl) fun _ _ _ h => make_of hE0 h
theorem de_make0 (Mk : Mk X.K C f) (G : FnOk X.prog X.w X.K X.mg X.base CX0 k f fd ps (spD X.K F n)) (hr : Room (k + 1) X.A) (hg : Gl X x) (hm : X.mg x = some (.ref C)) (hb : Binds X.K fd ps []) (hdb : (x == ("__debug__" : Str)) = false := by decide) :
    DE X c (.Call (.Name x p) [] [] pos) (tMakeY ex0 C F n lNil) := peImp (pe_make0 (E := E0) Mk G hr hg hm hb .nil pass0 hdb) fun σ H kk h => by
  obtain ⟨o, ρ, τ, Q, R0, h, q⟩ := make_of hE0 h
  exact q [] H o [] ρ τ .refl R0 .nil h
/-- f() -/
theorem de_call0 (G : FnOk X.prog X.w X.K X.mg X.base CX0 k f fd ps (spD X.K F n)) (hr : Room k X.A) (hg : Gl X x) (hm : X.mg x = some (.ref f)) (hk : PySem.W.keepIn X.K (.ref f) = true) (hb : Binds X.K fd ps []) (hdb : (x == ("__debug__" : Str)) = false := by decide) :
    DE X c (.Call (.Name x p) [] [] pos) (tCall ex0 F n lNil) := peImp (pe_call0 (E := E0) G hr hg hm hk hb .nil pass0 hdb) fun σ H kk h => by
  obtain ⟨o, ρ, τ, Q, R0, h, q⟩ := tCall_of hE0 h
  exact q [] H o [] ρ τ .refl R0 .nil h
end
end Y
namespace Y
open PySem PySem.Spec L2
/-! ### max(l, default = d) -/
section
variable {pg : Program} {w : World} {A : Around} {R : Result → Shared → Prop} {it S l : Addr} {xs : Array (Int × Tok)} {d : Value}
theorem mx_args (a b : Value) : argsOk "max" ⟨[a], [("default", b)]⟩ := by unfold argsOk; kernel_rfl
theorem mx_nm : (toString "max" ++ toString ".loop" : String) = "max.loop" := by decide
/-- the items from the i-th on, the greatest of the first i + 1 in hand -/
theorem mx_go (hh : A.in1.handled = none) (li : l ≠ it) (sl : S ≠ l) (si : S ≠ it) : ∀ (todo i : Nat) (st : Shared) (best : Value) (age : Nat), xs.size = i + 1 + todo →
    st.heap.IsListIter it l (i + 1) → st.heap.IsList l (intItems xs) → (intItems xs)[argBest (fun i j => decide (numAt xs i > numAt xs j)) i]? = some best → st.heap.get? S = some ⟨.type "list", none, .seq #[best, best] age, #[]⟩ →
    (∀ v hp tk, (intItems xs)[argBest (fun i j => decide (numAt xs i > numAt xs j)) (xs.size - 1)]? = some v → (∀ b u, b ≠ it → b ≠ S → st.heap.get? b = some u → hp.get? b = some u) → R (.ok (.ret v)) { st with heap := hp, toks := tk }) →
    codeAny (model pg w) A (.builtin "max.loop" ⟨[.ref it, .none, .ref S], [("default", d)]⟩) R st := by
  intro todo
  have Wk := Walks.list (prog := pg) (w := w) (A := A.in1) hh it l li (intItems xs)
  have Cp : CmpOf pg w A.in1 .Gt (fun i v => (intItems xs)[i]? = some v) (fun i j => decide (numAt xs i > numAt xs j)) := CmpOf.ints_gt (numAt xs) fun _ _ => intItems_at
  have nS : S ∉ [it] := fun z => si (List.mem_singleton.mp z)
  have sz : (intItems xs).size = xs.size := by simp [intItems]
  induction todo with
  | zero =>
    intro i st best age hn h1 h2 h3 h4 fin
    refine codeAny_builtin F.entry_max_loop ?_
    rw [Around.under_plainId F.plain_max_loop _]
    refine wpAny_bind (m := seqItems? (.ref S)) (wpAny_seqItems h4 rfl (wpAny_bind (m := tryCatch (pyNext (.ref it)) _) (wpAny_tryCatch (Wk.done st _ _ ?_ fun hp tk kp => ?_))))
    · rw [sz, hn]; exact ⟨h1, h2⟩
    · have g4 := kp S _ nS h4
      refine wpAny_bind (m := updateSeq S fun _ => #[]) (wpAny_updateSeq g4 rfl (wpAny_bind (wpAny_letGo (wpAny_pure (fin best _ tk ?_ fun b u n1 n2 e => ?_)))))
      · rw [show xs.size - 1 = i by omega]; exact h3
      · exact (Heap.get?_update_other _ _ n2.symm).trans (kp b u (fun z => n1 (List.mem_singleton.mp z)) e)
  | succ todo ih =>
    intro i st best age hn h1 h2 h3 h4 fin
    refine codeAny_builtin F.entry_max_loop ?_
    rw [Around.under_plainId F.plain_max_loop _]
    refine wpAny_bind (m := seqItems? (.ref S)) (wpAny_seqItems h4 rfl (wpAny_bind (m := tryCatch (pyNext (.ref it)) _) (wpAny_tryCatch (Wk.item (i + 1) st _ _ (by rw [sz]; omega) ⟨h1, h2⟩ fun v hp tk hv hst kp => ?_))))
    have g4 := kp S _ nS h4
    refine wpAny_bind (m := tryCatch (holding [v, v] (richCompare .Gt v best >>= _)) _) (wpAny_tryCatch (wpAny_holding (wpAny_bind (Cp _ _ v best _ _ _ hv h3 (wpAny_bind (wpAny_holding (wpAny_truthy_bool (wpAny_bind (wpAny_letGo (wpAny_pure ?_))))))))))
    cases better : (fun i j => decide (numAt xs i > numAt xs j)) (i + 1) (argBest (fun i j => decide (numAt xs i > numAt xs j)) i) with
    | false =>
      rw [if_neg (by simp)]
      refine wpAny_bind (wpAny_letGo ?_)
      rw [mx_nm]
      refine wpAny_pure ⟨plainId_quiet F.plain_max_loop _, ih (i + 1) _ best age (by omega) hst.1 hst.2 ?_ g4 fun v' hp' tk' hv' kp' => fin v' hp' tk' hv' fun b u n1 n2 e => kp' b u n1 n2 (kp b u (fun z => n1 (List.mem_singleton.mp z)) e)⟩
      rw [argBest, if_neg (by rw [show decide (numAt xs (i + 1) > numAt xs (argBest (fun i j => decide (numAt xs i > numAt xs j)) i)) = false from better]; simp)]
      exact h3
    | true =>
      rw [if_pos rfl]
      refine wpAny_bind (m := updateSeq S fun _ => #[v, v]) (wpAny_updateSeq g4 rfl (wpAny_bind (wpAny_letGo ?_)))
      rw [mx_nm]
      refine wpAny_pure ⟨plainId_quiet F.plain_max_loop _, ih (i + 1) _ v _ (by omega) ?_ ?_ ?_ (Heap.get?_update_self _ g4 rfl) fun v' hp' tk' hv' kp' => fin v' hp' tk' hv' fun b u n1 n2 e => kp' b u n1 n2 ?_⟩
      · exact hst.1.at fun u e => (Heap.get?_update_other _ _ si).trans e
      · exact hst.2.at fun u e => (Heap.get?_update_other _ _ sl).trans e
      · rw [argBest, if_pos better]
        exact hv
      · exact (Heap.get?_update_other _ _ n2.symm).trans (kp b u (fun z => n1 (List.mem_singleton.mp z)) e)
abbrev RunQ (Q E : Value → Shared → Prop) : Result → Shared → Prop := fun r s' => match r with | .ok (.ret v) => Q v s' | .ok _ => False | .error e => E e s'
theorem mx_body {E : Value → Shared → Prop} {st : Shared} {Q : Value → Shared → Prop} (hh : A.handled = none) (hl : st.heap.IsList l (intItems xs))
    (none_ : xs.size = 0 → ∀ hp tk, (∀ b u, st.heap.get? b = some u → hp.get? b = some u) → Q d { st with heap := hp, toks := tk })
    (some_ : ∀ v hp tk, 0 < xs.size → (intItems xs)[argBest (fun i j => decide (numAt xs i > numAt xs j)) (xs.size - 1)]? = some v → (∀ b u, st.heap.get? b = some u → hp.get? b = some u) → Q v { st with heap := hp, toks := tk }) :
    wpAny (model pg w) A.in1 (Builtin.«max» ⟨[.ref l], [("default", d)]⟩) (fun fin s' => match fin with
      | .done f => RunQ Q E (.ok f) s'
      | .again c' => c'.quiet = true ∧ codeAny (model pg w) A c' (RunQ Q E) s') (fun e s' => RunQ Q E (.error e) s') st := by
  show wpAny _ A.in1 (Builtin.Builtins.bindParams "max" ["key", "default"] 0 ⟨[], [("default", d)]⟩ >>= _) _ _ st
  refine wpAny_bind (wpAny_of_eq (show Builtin.Builtins.bindParams "max" ["key", "default"] 0 ⟨[], [("default", d)]⟩ = pure [none, some d] from by rfl) (wpAny_bind (wpAny_pure ?_)))
  refine wpAny_bind (iter_intList hl fun s2 e2 pl hfp ne => ?_)
  subst e2
  refine wpAny_bind (wpAny_newObj_type ?_)
  rw [mx_nm]
  have li : l < st.heap.objs.size := by obtain ⟨_, e, _⟩ := hl; exact Heap.lt_size e
  have sz : (intItems xs).size = xs.size := by simp [intItems]
  have old : ∀ b u, st.heap.get? b = some u → b ≠ st.heap.objs.size ∧ b ≠ st.heap.objs.size + 1 := fun b u e => ⟨Nat.ne_of_lt (Heap.lt_size e), Nat.ne_of_lt (Nat.lt_succ_of_lt (Heap.lt_size e))⟩
  have up : ∀ b u, st.heap.get? b = some u → ((st.heap.push { cls := .type "list_iterator", data := .fields #[.ref l, .int 0 0] }).push { cls := .type "list", data := .seq #[] 0 }).get? b = some u := fun b u e => Heap.get?_push_of_some _ (Heap.get?_push_of_some _ e)
  refine wpAny_pure ⟨plainId_quiet F.plain_max_loop _, ?_⟩
  have Wk := Walks.list (prog := pg) (w := w) (A := A.in1) hh st.heap.objs.size l ne (intItems xs)
  have hS := Heap.get?_push_size (st.heap.push { cls := .type "list_iterator", data := .fields #[.ref l, .int 0 0] }) (o := ⟨.type "list", none, .seq #[] 0, #[]⟩) rfl
  rw [Heap.size_push] at hS ⊢
  refine codeAny_builtin F.entry_max_loop ?_
  rw [Around.under_plainId F.plain_max_loop _]
  have pl2 := And.intro (pl.1.at fun u e => Heap.get?_push_of_some ⟨.type "list", none, .seq #[] 0, #[]⟩ e) (pl.2.at fun u e => Heap.get?_push_of_some ⟨.type "list", none, .seq #[] 0, #[]⟩ e)
  have nS : st.heap.objs.size + 1 ∉ [st.heap.objs.size] := fun z => by have := List.mem_singleton.mp z; omega
  by_cases zz : xs.size = 0
  · refine wpAny_bind (m := seqItems? (.ref (st.heap.objs.size + 1))) (wpAny_seqItems hS rfl (wpAny_bind (m := tryCatch (pyNext (.ref st.heap.objs.size)) _) (wpAny_tryCatch (Wk.done _ _ _ (by rw [sz, zz]; exact pl2) fun hp tk kp => ?_))))
    refine wpAny_bind (wpAny_rule ?_)
    show wpAny _ A.in1 (ret d) _ _ _
    exact wpAny_pure (none_ zz hp tk fun b u e => kp b u (fun z => (old b u e).1 (List.mem_singleton.mp z)) (up b u e))
  · refine wpAny_bind (m := seqItems? (.ref (st.heap.objs.size + 1))) (wpAny_seqItems hS rfl (wpAny_bind (m := tryCatch (pyNext (.ref st.heap.objs.size)) _) (wpAny_tryCatch (Wk.item 0 _ _ _ (by rw [sz]; omega) pl2 fun v hp tk hv hst kp => ?_))))
    have g4 := kp _ _ nS hS
    refine wpAny_bind (m := updateSeq (st.heap.objs.size + 1) fun _ => #[v, v]) (wpAny_updateSeq g4 rfl ?_)
    rw [mx_nm]
    have n1 : st.heap.objs.size + 1 ≠ st.heap.objs.size := by omega
    have n2 : st.heap.objs.size + 1 ≠ l := Nat.ne_of_gt (Nat.lt_succ_of_lt li)
    refine wpAny_pure ⟨plainId_quiet F.plain_max_loop _, mx_go hh ne n2 n1 (xs.size - 1) 0 _ v _ (by omega) (hst.1.at fun u e => (Heap.get?_update_other _ _ n1).trans e) (hst.2.at fun u e => (Heap.get?_update_other _ _ n2).trans e) hv (Heap.get?_update_self _ g4 rfl) fun v' hp' tk' hv' kp' => some_ v' hp' tk' (by omega) hv' fun b u e => ?_⟩
    have ob := old b u e
    exact kp' b u ob.1 ob.2 ((Heap.get?_update_other _ _ ob.2.symm).trans (kp b u (fun z => ob.1 (List.mem_singleton.mp z)) (up b u e)))
/-- max(l, default = d): d where nothing stands in l -/
theorem mx_call {E : Value → Shared → Prop} {st : Shared} {Q : Value → Shared → Prop} (hh : A.handled = none) (hl : st.heap.IsList l (intItems xs))
    (none_ : xs.size = 0 → ∀ hp tk, (∀ b u, st.heap.get? b = some u → hp.get? b = some u) → Q d { st with heap := hp, toks := tk })
    (some_ : ∀ v hp tk, 0 < xs.size → (intItems xs)[argBest (fun i j => decide (numAt xs i > numAt xs j)) (xs.size - 1)]? = some v → (∀ b u, st.heap.get? b = some u → hp.get? b = some u) → Q v { st with heap := hp, toks := tk }) :
    wpAny (model pg w) A (call (.builtin "max") [.ref l] [("default", d)]) Q E st := by
  refine wpAny_call (codeAny_call_builtin F.plain_max F.entry_max ?_)
  simp only [checkBuiltinCall, F.kind_max]
  have ok := mx_args (.ref l) d
  cases hs : Manifest.signature? "max" with
  | none =>
    simp only [argsOk, hs] at ok
    refine wpAny_pure ?_
    exact mx_body hh hl none_ some_
  | some sg =>
    simp only [argsOk, hs] at ok
    have ok : Bind.checkArgs "max" sg ⟨[.ref l], [("default", d)]⟩ = pure () := ok
    show wpAny _ _ (Bind.checkArgs "max" sg ⟨[.ref l], [("default", d)]⟩) _ _ _
    rw [ok]
    exact wpAny_pure (mx_body hh hl none_ some_)
end
/-- .. over the layer -/
theorem max_kw {X : Cx} (hc : X.calm = true) : CallRK X (.builtin "max") ["default"] (fun vs zs H k => ∃ a ns d, vs = [V.ref a] ∧ SqL X.K H a (ns.map V.int) ∧ zs = [d] ∧ (ns = [] → k d H) ∧ ∀ m, m ∈ ns → (∀ y, y ∈ ns → y ≤ m) → k (.int m) H) := by
  rintro pins st σ H vs zs us ws Q I rv rz ⟨a, ns, d, rfl, hs, rfl, q0, q1⟩
  obtain ⟨its, rl, hl, _⟩ := I.list hs
  rw [Vals.ref1 rv]
  cases rz with
  | cons rd tl =>
    cases tl
    have hi := rl.ints
    obtain ⟨xs, e⟩ := hi.allInts.items
    have hn : numsOf (intItems xs).toList = ns := by rw [← e]; exact hi.numsOf
    rw [nums_intItems] at hn
    subst hn
    rw [e] at hl
    refine mx_call (I.ok.hd hc) hl.isList (fun z hp tk kp => ⟨d, H, I.kept kp, rd, q0 ?_⟩) fun v hp tk z hv kp => ?_
    · have : xs.toList = [] := List.length_eq_zero_iff.mp (by simpa using z)
      rw [this]; rfl
    · obtain ⟨t, rfl⟩ := intItems_at hv
      obtain ⟨h1, h2⟩ := argBest_gt (numAt xs) (xs.size - 1)
      refine ⟨.int _, H, I.kept kp, ⟨_, rfl⟩, q1 _ ?_ fun y hy => ?_⟩
      · rw [numAt_eq]; exact PySem.getD_mem (by rw [List.length_map, Array.length_toList]; omega)
      · obtain ⟨j, hj, rfl⟩ := mem_getD hy
        rw [List.length_map, Array.length_toList] at hj
        rw [← numAt_eq]; exact h2 j (by omega)
/-- max(x, default = ..) -/
def tMaxD (t td : TX) : TX := fun ρ Q => t ρ fun r ρ1 => td ρ1 fun rd ρ2 => match rd, vw ρ2 r with
  | .im (.int d), some m => match m.lq? with
    | some ds => ∃ ns : List Int, ds = ns.map D.int ∧ (ns = [] → Q (.im (.int d)) ρ2) ∧ ∀ m, m ∈ ns → (∀ y, y ∈ ns → y ≤ m) → Q (.im (.int m)) ρ2
    | none => False
  | _, _ => False
section
variable {X : Cx} {c : Cc} {e b : Expr} {t td : TX} {pos p kpos : Pos}
theorem de_maxD (hc : X.calm = true) (hg : Gl X "max") (hm : X.mg "max" = none) (ha : DE X c e t) (hb : DE X c b td) (hs1 : starEach [e] X.env = [(false, eval e X.env)] := by rfl) (he : backTo pos (starEach [e] X.env) = (false, eval e X.env) :: backTo pos (starEach [] X.env) := by rfl) (hpl : (backTo pos (starEach [e] X.env)).any (·.1) = false := by rfl)
    (hall : (backToKw pos (keywordEach [⟨some "default", b, kpos⟩] X.env)).all (·.1.isSome) = true := by rfl) (hnone : (backToKw pos (keywordEach [⟨some "default", b, kpos⟩] X.env)).any (·.1.isNone) = false := by rfl) (hks : (backToKw pos (keywordEach [⟨some "default", b, kpos⟩] X.env)).filterMap (·.1) = [("default" : Str)] := by rfl) :
    DE X c (.Call (.Name "max" p) [e] [⟨some "default", b, kpos⟩] pos) (tMaxD t td) :=
  peImp (pe_callBK (max_kw hc) hg hm (by decide +kernel) (pa_cons ha pa_nil hs1) (pk_cons hb pk_nil) (by decide) (by decide) he hpl hall hnone hks) fun σ H k h => by
    obtain ⟨o, ρ, τ, Q, R0, h, q⟩ := h
    refine ⟨o, ρ, τ, _, R0, h, fun v1 H1 o1 r1 ρ1 τ1 L1 R1 z1 h1 => ?_⟩
    refine ⟨o1, ρ1, τ1, _, R1, h1, fun v2 H2 o2 r2 ρ2 τ2 L2 R2 z2 h2 => ?_⟩
    split at h2
    · rename_i d m hv
      obtain ⟨rfl, z⟩ := z2
      cases z
      split at h2
      · rename_i ds hl
        obtain ⟨ns, rfl, h3, h4⟩ := h2
        obtain ⟨a, xs, rfl, hs, dd⟩ := (R2.vw_ok (z1.mono L2) List.prefix_rfl hv).lq hl
        rw [ints_vals dd] at hs
        have R3 := R2.drop z1.pre
        have L3 : Le o2 H2 (dropT τ.length o2) H2 := dropT_le _
        exact ⟨a, ns, _, rfl, hs, rfl, fun z => q _ H2 _ (.im (.int d)) ρ2 τ (L1.trans (L2.trans L3)) R3 ⟨rfl, .int _⟩ (h3 z), fun m h5 h6 => q _ H2 _ (.im (.int m)) ρ2 τ (L1.trans (L2.trans L3)) R3 ⟨rfl, .int _⟩ (h4 m h5 h6)⟩
      · exact h2.elim
    · exact h2.elim
end
end Y
namespace Y
open PySem PySem.Spec L2
/-! ### classes and methods where the top has put them -/
structure ClsAt (K : PySem.W.Frag) (mg : Str → Option Value) (name : Str) where
  C : Addr
  mg : mg name = some (.ref C)
  cl : Cls K C
  mkI : PySem.W.makesIn K C = true
  kp : PySem.W.keepIn K (.ref C) = true
structure MethAt (K : PySem.W.Frag) (C : Addr) (m qual : Str) (st : Stmt) (ps : List Str) where
  f : Addr
  fd : FuncData
  fu : Fun K m qual st f fd
  at_ : Meth K C m f
  bd : Binds K fd ps []
def FnM (Pg : Program) (w : World) (K : PySem.W.Frag) (mg : Str → Option Value) (base : Heap) {C : Addr} {m qual : Str} {st : Stmt} {ps : List Str} (D : MethAt K C m qual st ps) (k : Nat) (F : TF) : Prop := FnOk Pg w K mg base CX0 k D.f D.fd ps (spD K F ps.length)
theorem FnM.mono {Pg : Program} {w : World} {K : PySem.W.Frag} {mg : Str → Option Value} {base : Heap} {C : Addr} {m qual : Str} {st : Stmt} {ps : List Str} {D : MethAt K C m qual st ps} {j k : Nat} {F : TF} (h : FnM Pg w K mg base D j F) (l : j ≤ k) : FnM Pg w K mg base D k F := FnOk.mono h l
theorem FnM.imp {Pg : Program} {w : World} {K : PySem.W.Frag} {mg : Str → Option Value} {base : Heap} {C : Addr} {m qual : Str} {st : Stmt} {ps : List Str} {D : MethAt K C m qual st ps} {k : Nat} {F F' : TF} (h : FnM Pg w K mg base D k F) (i : ∀ ms W G Gx, F' ms W G Gx → F ms W G Gx) : FnM Pg w K mg base D k F' :=
  FnOk.imp h fun vs H Q E ⟨o, ms, W, G, Gx, a, b, c, d⟩ => ⟨o, ms, W, G, Gx, a, b, i ms W G Gx c, d⟩
theorem fnM_never {Pg : Program} {w : World} {K : PySem.W.Frag} {mg : Str → Option Value} {base : Heap} {C : Addr} {m qual : Str} {st : Stmt} {ps : List Str} {Df : MethAt K C m qual st ps} {k : Nat} {F : TF} (h : ∀ ms W G Gx, ¬ F ms W G Gx) : FnM Pg w K mg base Df k F :=
  ⟨fun vs H Q E ⟨o, ms, W, G, Gx, hl, _⟩ => hl, fun A outer s H args us vs Q E _ _ _ _ ⟨o, ms, W, G, Gx, _, _, hf, _⟩ => (h ms W G Gx hf).elim⟩
theorem ClsAt.mk_ {K : PySem.W.Frag} {mg : Str → Option Value} {name qual : Str} {st : Stmt} {ps : List Str} (c : ClsAt K mg name) (M : MethAt K c.C "__init__" qual st ps) : Mk K c.C M.f := ⟨c.mkI, M.at_.at_, M.at_.fn, c.kp⟩
theorem fld_ok {K : PySem.W.Frag} {mg : Str → Option Value} {name f : Str} (c : ClsAt K mg name) (n : NoAttr K c.C f) : ∀ C, C = c.C → FldOk K C f := fun C e => by subst e; exact ⟨c.cl, n⟩
section
variable {K : PySem.W.Frag} {c : Cc} {o o' : Own} {σ σ' : St} {H H' : Hp} {ρ ρ' : Env} {τ τ' τ0 τ1 : List (V × M)} {X : Cx} {e a b : Expr} {es : List Expr} {pos p : Pos} {t u : TX} {P : EndP} {D' : Ends} {v : V} {m : M}
/-! ### e[k] = v, whoever holds what e is -/
def Ob.toM : Ob → Option M
  | .ls ds => some (.ls ds) | .dk kvs => some (.dk kvs) | .dt kvs => some (.dt kvs) | .ins _ _ => none
theorem setO_ok (R0 : Rep K c o σ H ρ τ) {n : Nat} {ob : Ob} {m : M} {v vk vx : V} {dk dx : D} {G : M → Prop} {Q : Hp → Prop} (e : ρ.st[n]? = some ob) (em : ob.toM = some m) (dv : Dat K o H v (.obj n)) (d1 : Dat K o H vk dk) (d2 : Dat K o H vx dx) (h : setM m dk dx G)
    (q : ∀ H' m' ob', m'.ob? = some ob' → Rep K c o σ H' (ρ.stSet n ob') τ → Le o H o H' → G m' → Q H') : rSetL v vk vx H Q ∨ rSetD v vk vx H Q := by
  obtain ⟨a, rfl, ho, z⟩ := R0.st.obj e dv
  unfold setM at h
  split at h
  · rename_i ds j
    split at h
    · rename_i i en
      cases ob with
      | ls ds' =>
        cases em
        obtain ⟨xs, hH, dd⟩ := z
        cases d1
        refine .inl ⟨a, xs, j, i, rfl, rfl, hH, by rw [dd.length]; exact en, ?_⟩
        obtain ⟨R1, L1⟩ := R0.stSet (u' := .ls (ds.set i dx)) (w := .lst (xs.set i vx)) e ho trivial ⟨_, upd_same, (dd.set d2 i).mono (le_kw ho rfl)⟩
        exact q _ (.ls (ds.set i dx)) _ rfl R1 L1 h
      | _ => cases em
    · exact h.elim
  · rename_i kvs
    split at h
    · rename_i ky ek
      cases ob with
      | dk ds' =>
        cases em
        obtain ⟨ks, hH, dd⟩ := z
        have ek' := d1.key ek
        subst ek'
        refine .inr ⟨a, _, rfl, DPut.k hH (by rw [dd.length]; exact h.1), ?_⟩
        obtain ⟨R1, L1⟩ := R0.stSet (u' := .dk (putD kvs ky dx)) (w := .dK (putK ks ky vx)) e ho trivial ⟨_, upd_same, Kvs.mono (le_kw ho rfl) (dd.put ky d2)⟩
        exact q _ (.dk _) _ rfl R1 L1 h.2
      | _ => cases em
    · exact h.elim
  · rename_i kvs ks'
    split at h
    · rename_i ky ek
      cases ob with
      | dt ds' =>
        cases em
        obtain ⟨ks, hH, dd⟩ := z
        cases d1 with
        | tup t r =>
          have ek' := r.keys ek
          subst ek'
          refine .inr ⟨a, _, rfl, DPut.t hH t.2 (by rw [dd.length]; exact h.1), ?_⟩
          obtain ⟨R1, L1⟩ := R0.stSet (u' := .dt (putD kvs ky dx)) (w := .dT (putK ks ky vx)) e ho trivial ⟨_, upd_same, Kvs.mono (le_kw ho rfl) (dd.put ky d2)⟩
          exact q _ (.dt _) _ rfl R1 L1 h.2
      | _ => cases em
    · exact h.elim
  · exact h.elim
/-- the value ahead of the object (which a slot owns, or the store), then the key -/
def sSetE (to tk tv : TX) : TSX := fun P ρ => tFrz (lCons tv lNil) (fun ds ρ1 => match ds with
  | [d] => to ρ1 fun r ρ2 => match r with
    | .sl i => hasM ρ2 i ∧ tk ρ2 fun rk ρ3 => match rk with
      | .im k => match ρ3.sl[i]? with
        | some s => match s.m! with
          | some m => setM m k d fun m' => P.nx (ρ3.set i (s.up m'))
          | none => False
        | none => False
      | _ => False
    | .im (.obj n) => tk ρ2 fun rk ρ3 => match rk with
      | .im k => match ρ3.st[n]? with
        | some ob => match ob.toM with
          | some m => setM m k d fun m' => match m'.ob? with
            | some ob' => P.nx (ρ3.stSet n ob')
            | none => False
          | none => False
        | none => False
      | _ => False
    | _ => False
  | _ => False) ρ
theorem setM_fn {m : M} {k d : D} {G G' : M → Prop} (h : setM m k d G) (i : ∀ m', G m' → G' m') : setM m k d G' := by
  unfold setM at h ⊢
  split at h
  · split at h
    · exact i _ h
    · exact h.elim
  · split at h
    · exact ⟨h.1, i _ h.2⟩
    · exact h.elim
  · split at h
    · exact ⟨h.1, i _ h.2⟩
    · exact h.elim
  · exact h.elim
theorem ds_setE {ppos : Pos} {tk tv : TX} (hu : X.A.units + 1 < cLine) (ho : DE X c b t) (hv : DE X c e tv) (hk : DE X c a tk)
    (hs : swapsWithSole [.Subscript b a ppos] e pos.line X.env = pure false := by rfl) (hw : swappedStores [.Subscript b a ppos] e X.env = pure none := by rfl)
    (h1 : (assignEach [.Subscript b a ppos] X.env).map (·.2) = [assign (.Subscript b a ppos) X.env] := by rfl)
    (hsub : ∀ v, assign (.Subscript b a ppos) X.env v = (do
      let ov ← holding [v] (eval b X.env)
      let iv ← holding [v, ov] (eval a X.env)
      standAt ppos
      holding [v, ov, iv] (setItem ov iv v)
      release [v, ov, iv] []) := by intro _; rfl) : DS X c (.Assign [.Subscript b a ppos] e pos) (sSetE t tk tv) :=
  psImp (ps_asg hv (pg_sub ho hk (PSet.or set_list (set_dict hu)) hsub) hs hw h1) fun D σ H h => by
    obtain ⟨o, ρ, P, R0, h, w⟩ := h
    refine frz1 R0 h fun v H1 o1 d ρ1 L1 R1 d1 h1 => ?_
    refine ⟨o1, ρ1, [], _, R1, h1, fun v3 H3 o3 r3 ρ3 τ3 L3 R3 z3 h3 => ?_⟩
    split at h3
    · rename_i i
      obtain ⟨rfl, z3⟩ := z3
      obtain ⟨h0, h3⟩ := h3
      refine ⟨o3, ρ3, [], _, R3, h3, fun v2 H2 o2 r2 ρ2 τ2 L2 R2 z2 h2 => ?_⟩
      split at h2
      · obtain ⟨rfl, z2⟩ := z2
        split at h2
        · rename_i s es
          split at h2
          · rename_i m em
            exact setM_ok (Q := fun H4 => D.nx σ H4) R2 es em z3 z2 (d1.mono (L3.trans L2)) h2 fun H4 m' R4 L4 hG => w.nx _ _ _ _ (L1.trans (L3.trans (L2.trans L4))) R4 hG
          · exact h2.elim
        · exact h2.elim
      · exact h2.elim
    · rename_i n
      obtain ⟨rfl, z3⟩ := z3
      refine ⟨o3, ρ3, [], _, R3, h3, fun v2 H2 o2 r2 ρ2 τ2 L2 R2 z2 h2 => ?_⟩
      split at h2
      · obtain ⟨rfl, z2⟩ := z2
        split at h2
        · rename_i ob es
          split at h2
          · rename_i m em
            refine setO_ok (Q := fun H4 => D.nx σ H4) R2 es em (z3.mono L2) z2 (d1.mono (L3.trans L2)) h2 fun H4 m' ob' eo R4 L4 hG => ?_
            rw [eo] at hG
            exact w.nx _ _ _ _ (L1.trans (L3.trans (L2.trans L4))) R4 hG
          · exact h2.elim
        · exact h2.elim
      · exact h2.elim
    · exact h3.elim
/-! ### int(x): of a text, too -/
def gIntS : GC := fun ms G => match ms with
  | [.im (.str x)] => ∃ n, PySem.intText? x = some n ∧ x.length ≤ 640 ∧ G (.im (.int n))
  | ms => gInt ms G
theorem intS_ok : CallG X (.type "int") gIntS := by
  refine callG (call_int_str.or (int_ok (X := X))) fun vs H k h => ?_
  obtain ⟨o, ms, G, mu, v1, h, q⟩ := h
  unfold gIntS at h
  split at h
  · obtain ⟨v, rfl, w1⟩ := pv1 v1
    obtain ⟨n, h1, h2, h3⟩ := h
    exact .inl ⟨_, n, by rw [w1.str], h1, h2, qim q (.int _) h3⟩
  · exact .inr ⟨o, ms, G, mu, v1, h, q⟩
end
end Y
namespace Y
open PySem PySem.Spec L2
/-! ### an exception's __init__ that begins with super().__init__(..) -/
section
variable {pg : Program} {w : World} {A : Around} {E : Value → Shared → Prop} {hp : Heap} {gs : Array GenState} {dr : Drawn} {tk : Nat} {os : OsState}
/-- the bound ValueError.__init__ is called -/
theorem mw_call {nm q : Str} {C N u e t0 : Addr} {bs bm : List Value} {hd : Bool} {sn : List Str} {sub : List Value} {ab : Bool} {col : Option Bool} {dd : Option Addr} {k0 k1 k2 k3 k5 : Option Value} {rest : List Value} {Q : Value → Shared → Prop}
    (cC : hp.get? C = some (excClassObj nm q C N bs bm hd sn sub ab col dd k0 k1 k2 k3 k5 "ValueError.__new__")) (ce : hp.get? e = some (HandSPX.excO C t0)) (cu : hp.get? u = some (W.kxs_mw "ValueError.__init__" e)) (few : rest.length ≤ sizeLine)
    (fin : ∀ hp' t1, (∀ b o, b ≠ e → hp.get? b = some o → hp'.get? b = some o) → hp'.get? e = some (HandSPX.excO C t1) → Q .none ⟨hp', gs, dr, tk, os⟩) : wpAny (model pg w) A (call (.ref u) rest) Q E ⟨hp, gs, dr, tk, os⟩ := by
  refine wpAny_call (codeAny_of_tree ?_)
  show wpAny _ A.in1 (callAny (.ref u) ⟨rest, []⟩) _ _ _
  unfold callAny
  refine wpAny_bind (wpAny_load cu ?_)
  simp only [W.kxs_mw, show (Value.type "method-wrapper" == Value.type "method" || Value.type "method-wrapper" == Value.type "builtin_function_or_method" || Value.type "method-wrapper" == Value.type "method-wrapper") = true by decide, if_true]
  refine W.KFB.if_so (by decide) (wpAny_bind (ESX.check_bound F.excBase_ValueError cC ce rfl (wpAny_bind (wpAny_pure (wpAny_pure ⟨Code.quiet_builtin _ (by decide +kernel), codeAny_builtin F.excBase_ValueError.initEntry ?_⟩)))))
  rw [Around.under_plainId F.excBase_ValueError.init.plain _]
  exact W.exc_init_tree ce few fun hp' k1 k2 _ => fin hp' _ k1 k2
end
/-- what the written part says of the class and of its __init__ -/
structure SupC (pg : Program) (K : PySem.W.Frag) (C f : Addr) (qual : Str) (params : Arguments) (body : List Stmt) (scope : Scope) where
  cc : Addr
  cda : Addr
  fd : FuncData
  fdE : ∃ (kV doc pm ct : Value) (an : Option Addr), fd = PySem.W.fnX "__init__" qual params body scope [("__class__", cc)] .none kV doc pm an (.ref cda) ct
  lk : ∃ (oc : Value) (od : Option Addr) (osl : Array (Option Value)), K.lookup f = some ⟨oc, od, .func fd, osl⟩
  cd : PySem.W.codeIn K (.ref cda) qual = true
  fl : ∃ (ccl : Value) (cdd : Option Addr) (vs : Array Value) (ccs : Array (Option Value)) (file : Str) (tf : Tok), K.lookup cda = some ⟨ccl, cdd, .fields vs, ccs⟩ ∧ vs[2]? = some (.str file tf) ∧ ((pg.main.file : Str) == file) = true
  cell : ∃ (cl : Value) (cld : Option Addr) (csl : Array (Option Value)), K.lookup cc = some ⟨cl, cld, .cell (some (.ref C)), csl⟩
  oex : OexC K C
  sup : PySem.W.nsIn K mainGlobals "super" = some none
  sin : PySem.W.ks_superIn K C C "__init__" = some (some (.builtin "ValueError.__init__"))
  sub : PySem.W.mroIn K C (.ref C) = some true
  subB : PySem.W.subIn K (.ref C) (.type "ValueError") = some true
  opq : PySem.W.nsIn K cStatics "thirdparty.any" = some none
  top : (pg.main.scope.names.lookup ("super" : Str)).isSome = false
def SupC.nf {pg : Program} {K : PySem.W.Frag} {C f : Addr} {qual : Str} {params : Arguments} {body : List Stmt} {scope : Scope} (S : SupC pg K C f qual params body scope) : NdefX.NF := ⟨"__init__", qual, params, body, scope, [("__class__", S.cc)], S.cda⟩
/-- the promise: the object is one in the making; then what the rest of the body says -/
def spI (K : PySem.W.Frag) (C : Addr) (N ps : List Str) (ta : TA) (t : TS) : Sp := fun vs H Q _ => vs.length = ps.length ∧ ∃ a, vs[0]? = some (.ref a) ∧ H a = some (exo a C none) ∧
  ta (NdefX.startF N vs [none]) H fun ws H1 => ws.length ≤ 1000 ∧ H1 a = some (exo a C none) ∧ t { nx := fun _ H' => Q .non H', rt := Q } (NdefX.startF N vs [none]) H1
section
variable {pg : Program} {w : World} {K : PySem.W.Frag} {mg : Str → Option Value} {base : Heap} {C f : Addr} {qual : Str} {params : Arguments} {scope : Scope} {N ps : List Str} {k : Nat} {e : Expr} {es : List Expr} {rest : List Stmt} {p0 p1 p2 p3 p4 : Pos} {ta : TA} {t : TS} {pl : PySem.Env → Sem Bool}
theorem init_fn (S : SupC pg K C f qual params (.Expr (.Call (.Attribute (.Call (.Name "super" p0) [] [] p1) "__init__" p2) (e :: es) [] p3) p4 :: rest) scope) (Sc : NdefX.NScope N ps ["__class__"] scope) (hself : ∃ ar, (params.posonlyargs ++ params.args).head? = some ar ∧ ps[0]? = some ar.arg)
    (ks : scope.names.lookup ("super" : Str) = some .globalImplicit) (hn0 : mg "super" = none)
    (hargs : ∀ (A : Around) (outer : List PySem.Env) (s : Shared) (H : Hp) (E : XK), PA (NdefX.ncx CX0 pg w K mg base N S.nf f A outer s H E) (e :: es) ta)
    (hrest : ∀ (A : Around) (outer : List PySem.Env) (s : Shared) (H : Hp) (E : XK), PSs (NdefX.ncx CX0 pg w K mg base N S.nf f A outer s H E) rest t)
    (hst : ∀ env, starEach (e :: es) env = (false, eval e env) :: starEach es env := by intro _; rfl) (hpl : ∀ env, (backTo p3 (starEach es env)).any (·.1) = false := by intro _; rfl)
    (hsw : ∀ env, swapsWith (.Call (.Attribute (.Call (.Name "super" p0) [] [] p1) "__init__" p2) (e :: es) [] p3) none p4.line env = pure false := by intro _; rfl)
    (hcall : ∀ env, eval (.Call (.Attribute (.Call (.Name "super" p0) [] [] p1) "__init__" p2) (e :: es) [] p3) env = (do
      let ov ← attributeBase (.Call (.Name "super" p0) [] [] p1) "__init__" env (eval (.Call (.Name "super" p0) [] [] p1) env)
      standAt p2.atName
      let (f, first) ← holding [ov] (getMethod ov "__init__" (pl env))
      callWith p3 f first (backTo p3 (starEach (e :: es) env)) []) := by intro _; rfl) :
    FnOk pg w K mg base CX0 (k + 1) f S.fd ps (spI K C N ps ta t) := by
  obtain ⟨cc, cda, fd, ⟨kV, doc, pm, ct, an, rfl⟩, ⟨oc, od, osl, lk⟩, cd, ⟨ccl, cdd, vs2, ccs, file, tf, lkc, v2, hfile⟩, ⟨cl, cld, csl, lkcell⟩, oex, sup, sin, sub, subB, opq, top⟩ := S
  obtain ⟨ar, hp1, hp2⟩ := hself
  refine ⟨fun vs H Q E h => h.1, fun A outer s H args us vs Q E hr e0 hb rel ⟨hl, a, ha, he, hsp⟩ => ?_⟩
  have kin : K.In s.heap := e0.mod.kin.keeps fun b o z => (e0.bs b o z).1
  have lim : s.heap.NoLimit := e0.mod.nolimit.keeps fun b o z => (e0.bs b o z).1
  have kfree : ∀ {b : Addr} {o : Obj}, K.lookup b = some o → H b = none := fun {b o} z => (e0.bs b o (e0.mod.kin _ _ z)).2
  have L1 : (us.length = ps.length) := by rw [← rel.length]; exact hl
  refine PySem.codeAny_call_function hr.depth (kin _ _ lk) rfl Sc.co Sc.gen rfl (PySem.W.codeRec_of kin cd) (hb _ _ _ _ ?_)
  refine wpAny_newFunctionEnv Sc.nocell (fun ⟨n, _⟩ hy => Sc.par n (List.of_mem_zip hy).1) (fun h1 hns hsb => ⟨lim.fresh _ hsb, ks_codeAny_funcAt ?_⟩) Sc.kind
  have kp : ∀ b o, s.heap.get? b = some o → h1.get? b = some o := fun b o z => hsb.extBut b o (Nat.ne_of_lt (Heap.lt_size z)) (Heap.get?_push_of_some _ z)
  let F : NdefX.NF := ⟨"__init__", qual, params, (.Expr (.Call (.Attribute (.Call (.Name "super" p0) [] [] p1) "__init__" p2) (e :: es) [] p3) p4 :: rest), scope, [("__class__", cc)], cda⟩
  have cells : NdefX.CellsAt F.cl ["__class__"] [none] s.heap H := by
    have one : ∀ {y : Str} {c : Addr}, F.cl.lookup y = some c → y = "__class__" ∧ c = cc := fun {y c} z => by
      have z : (if y == ("__class__" : Str) then some cc else none) = some c := by
        have q := z
        simp only [F, List.lookup_cons, List.lookup_nil] at q
        revert q
        cases y == ("__class__" : Str) <;> exact id
      by_cases q : (y == ("__class__" : Str)) = true
      · rw [if_pos q] at z; cases z; exact ⟨beq_iff_eq.mp q, rfl⟩
      · rw [if_neg q] at z; cases z
    refine ⟨rfl, fun y c z => ?_, fun x y c z1 z2 => ?_, fun i y z => ?_⟩
    · obtain ⟨_, rfl⟩ := one z
      exact ⟨kfree lkcell, _, _, kin _ _ lkcell, rfl⟩
    · rw [(one z1).1, (one z2).1]
    · cases i with
      | zero => cases z; exact ⟨cc, by simp [F], fun v z => by simp at z⟩
      | succ i => simp at z
  have I : Inv (NdefX.ncx CX0 pg w K mg base N F f A outer s H E) [] (NdefX.startF N vs [none]) H { s with heap := h1, toks := s.toks + (ps.zip us).length } := NdefX.inv_startN Sc hr.hd e0 hl rel cells hns kp
  generalize hs2 : ({ s with heap := h1, toks := s.toks + (ps.zip us).length } : Shared) = s2 at I
  show PySem.wpAt (model pg w) (A.deeper (NdefX.envF F f s.heap.objs.size)) (.func F.body (NdefX.envF F f s.heap.objs.size)) (execs (.Expr (.Call (.Attribute (.Call (.Name "super" p0) [] [] p1) "__init__" p2) (e :: es) [] p3) p4 :: rest) (NdefX.envF F f s.heap.objs.size)) _ _ s2
  refine ks_wpAt_execs_cons (ks_wpAt_Expr_any (ks_wpAt_MethodCall ?_ (hcall _)) I.quiet (hsw _))
  have hkc : scope.names.lookup ("__class__" : Str) = some .free := Sc.frk _ (List.mem_singleton.mpr rfl)
  have kin2 := I.kIn
  refine ks_wpAt_super_base (env := NdefX.envF F f s.heap.objs.size) ks hkc (by decide) rfl (kin2 _ _ lk) rfl hp1 rfl (kin2 _ _ lkc) rfl v2 hfile top ?_
  obtain ⟨nm, qn, Nn, bs, bm, sn, sub', ab, col, dd, k0, k1, k2, k3, k5, hC, hbm⟩ := oex.cls
  have hcl : PySem.W.clsIn K C = some { name := nm, bases := bs, mro := .ref C :: bm, ns := Nn, qualname := qn, hasDict := true, slotNames := sn, subclasses := sub', abstract := ab, collection := col, hasDel := false } := by unfold PySem.W.clsIn; rw [hC] <;> rfl
  obtain ⟨t1, ho⟩ := exo_at I.hok he
  obtain ⟨mb, b1, b2⟩ := I.mod.blt
  refine PySem.W.ks_loadName_global Sc.kind ks (Calls.loadGlobal_builtin (env := NdefX.envF F f s.heap.objs.size) (show s2.heap.Ns mainGlobals mg from I.mod.glob.keeps I.bk) hn0 (show s2.heap.Ns builtinsNs mb from b1.keeps I.bk) ((b2 "super" (by decide)).trans (show bootBuiltins "super" = some (.type "super") from by decide +kernel)) ⟨rfl, ?_⟩)
  refine wpAny_loadName_free Sc.kind hkc rfl ⟨_, kin2 _ _ lkcell, rfl⟩ ?_
  obtain ⟨m, hnm, hlm⟩ := I.loc
  have hN0 : N[0]? = some ar.arg := by
    have q := Sc.pre
    have q2 : (N.take (ps.length + [("__class__" : Str)].length))[0]? = some ar.arg := by
      rw [q, List.getElem?_append_left (by have := (List.getElem?_eq_some_iff.mp hp2).1; omega)]; exact hp2
    rw [List.getElem?_take_of_lt (by simp)] at q2
    exact q2
  have hσ0 : (NdefX.startF N vs [none])[0]? = some (some (.ref a)) := by
    unfold NdefX.startF
    rw [List.getElem?_append_left (by rw [List.length_map]; exact (List.getElem?_eq_some_iff.mp ha).1), List.getElem?_map, ha]; rfl
  have hloc : scope.names.lookup ar.arg = some .local := Sc.par _ (List.mem_of_getElem? hp2)
  obtain ⟨u, ru, lk2⟩ := hlm 0 ar.arg (.ref a) hN0 hσ0 (.inl hloc)
  obtain rfl : u = Value.ref a := ru
  have hma : m ar.arg = some (.ref a) := by
    rcases lk2 with ⟨_, z⟩ | ⟨z | z, _⟩
    · exact z
    · have z : scope.names.lookup ar.arg = some .cell := z
      rw [hloc] at z; cases z
    · have z : scope.names.lookup ar.arg = some .free := z
      rw [hloc] at z; cases z
  refine wpAny_loadName_local Sc.kind hloc hnm hma ?_
  refine ks_wpAny_isType_cls (kin2 _ _ hC) rfl ⟨rfl, ?_⟩
  have ia : PySem.W.InstAt s2.heap a { cls := .ref C, dict := none, data := .fields #[.ref t1, .none, .none, .none, .bool false, .none] } C none := ⟨ho, rfl, rfl, trivial⟩
  obtain ⟨hp_, gs, dr, tk, os⟩ := s2
  refine ks_wpAny_call_super (kin2 _ _ hC) rfl ho rfl (fun c z => by cases z) (PySem.W.looks_mroIn kin2 sub) fun hp3 hso kp3 => ?_
  have I3 : Inv (NdefX.ncx CX0 pg w K mg base N F f A outer s H E) [] (NdefX.startF N vs [none]) H ⟨hp3, gs, dr, tk, os⟩ := I.kept (t' := tk) kp3
  have kin3 := I3.kIn
  have ia3 : PySem.W.InstAt hp3 a { cls := .ref C, dict := none, data := .fields #[.ref t1, .none, .none, .none, .bool false, .none] } C none := ⟨kp3 _ _ ho, rfl, rfl, trivial⟩
  have sin' : PySem.W.alongIn K "__init__" (((Value.ref C :: bm).dropWhile (· != .ref C)).drop 1) = some (some (.builtin "ValueError.__init__")) := by
    have q := sin
    unfold PySem.W.ks_superIn at q
    rw [hcl] at q
    exact q
  refine PySem.W.kxs_getMethod PySem.W.kxs_ValueError hso (PySem.W.looks_opaque kin3 opq) (l₀ := .ref C :: bm) (fun A Q E s k q => wpAny_bind ((PySem.W.looks_clsIn kin3 hcl) A _ E s k (wpAny_pure q))) rfl kin3 sin' (ia3.type.andThen (PySem.W.looks_subIn kin3 subB)) (PySem.W.ks_ne kin3 ia3 hcl) (by decide) ?_
  have hq4 := Heap.get?_push_size hp3 (o := PySem.W.kxs_mw "ValueError.__init__" a) rfl
  have I4 : Inv (NdefX.ncx CX0 pg w K mg base N F f A outer s H E) [(hp3.objs.size, PySem.W.kxs_mw "ValueError.__init__" a)] (NdefX.startF N vs [none]) H ⟨hp3.push (PySem.W.kxs_mw "ValueError.__init__" a), gs, dr, tk + 1, os⟩ := by
    have J := I3.kept (t' := tk + 1) (h' := hp3.push (PySem.W.kxs_mw "ValueError.__init__" a)) fun b o z => Heap.get?_push_of_some _ z
    refine J.pins_of fun p hp => ?_
    obtain rfl := List.mem_singleton.mp hp
    exact ⟨hq4, I3.hok.fresh (Nat.le_refl _), Nat.ne_of_gt I3.lt, I3.nofs (Nat.le_refl _), fun v z => by cases z⟩
  refine PySem.W.kxs_callWith (i := "ValueError.__init__") (x := a) (by rw [hst]; show (false || (backTo p3 (starEach es _)).any (·.1)) = false; rw [hpl]; rfl) ?_
  have hA : wpAny (model pg w) (A.deeper (NdefX.envF F f s.heap.objs.size)) (spliced (backTo p3 (starEach (e :: es) (NdefX.envF F f s.heap.objs.size)))) (AP (NdefX.ncx CX0 pg w K mg base N F f A outer s H E) [(hp3.objs.size, PySem.W.kxs_mw "ValueError.__init__" a)] (NdefX.startF N vs [none]) _) (NdefX.ncx CX0 pg w K mg base N F f A outer s H E).xe _ := (hargs A outer s H E).run p3 _ _ _ _ _ I4 hsp
  rw [show starEach (e :: es) (NdefX.envF F f s.heap.objs.size) = _ from hst _]
  rw [show starEach (e :: es) (NdefX.envF F f s.heap.objs.size) = _ from hst _] at hA
  refine Calls.evalArgs_plain (wpAny_mono hA (fun us5 s5 ⟨ws, H1, I5, rws, hl5, he5, hq5⟩ => ?_) fun _ _ z => z)
  have hu5 := (I5.pin _ (List.mem_append_right _ (List.mem_singleton.mpr rfl))).1
  refine ⟨hu5, ?_⟩
  have I6 : Inv (NdefX.ncx CX0 pg w K mg base N F f A outer s H E) [] (NdefX.startF N vs [none]) H1 s5 := I5.pins_of fun p hp => by cases hp
  obtain ⟨t5, ho5⟩ := exo_at I6.hok he5
  have few : us5.length ≤ sizeLine := by rw [← rws.length, sizeLine_eq]; omega
  obtain ⟨hp5, gs5, dr5, tk5, os5⟩ := s5
  refine mw_call (I6.kIn _ _ hC) ho5 hu5 few fun hp6 t6 kp6 hx6 => ?_
  have J := I6.write (t' := tk5) (x := a) (e := a) (o := exo a C none) (by rw [he5]; exact True.intro) (.inl rfl) kp6 ⟨_, hx6⟩ (exo_ok hx6)
  have same : upd H1 a (exo a C none) = H1 := by
    funext b
    by_cases z : b = a
    · rw [z, upd_same, he5]
    · rw [upd_ne z]
  rw [same] at J
  refine wpAt_of_wpAny (wpAny_mono ((hrest A outer s H E).run [] _ _ H1 _ J hq5) (fun fl s7 hs => ?_) fun _ _ z => z)
  have done : ∀ {σ' : L2.St} {H' : Hp} {v : V} {u : Value}, Inv (NdefX.ncx CX0 pg w K mg base N F f A outer s H E) [] σ' H' s7 → L2.RelV v u → Q v H' → CE outer pg w H s Q u s7 :=
    fun {σ' H' v u} J rv q => ⟨v, H', J.os, J.bare, J.base, J.hok, rv, q⟩
  cases fl with
  | ret u =>
    obtain ⟨v, σ', H', J', rv, q⟩ := hs
    exact done J' rv q
  | next =>
    obtain ⟨σ', H', J', q⟩ := hs
    exact done (v := V.non) (u := Value.none) J' rfl q
  | brk =>
    obtain ⟨_, _, _, q⟩ := hs
    exact False.elim q
  | cont =>
    obtain ⟨_, _, _, q⟩ := hs
    exact False.elim q
end
end Y
namespace Y
open PySem PySem.Spec L2
/-! ### bodies that may raise -/
/-- what the body lets out is what is wished for -/
def TieC (K : PySem.W.Frag) (c : Cc) (ex : EX) (W : WX) : Prop := ∀ (x : Xc) d σ H o ρ, Rep K c o σ H ρ [] → IsXd K o H d x.2 → ex x ρ → W x.1 d σ H
def Exs (X : Cx) (c : Cc) (ex : EX) : Prop := ∃ W : WX, Takes X W ∧ TieC X.K c ex W
theorem exs0 {X : Cx} {c : Cc} : Exs X c ex0 := ⟨fun _ _ _ _ => False, fun u s' x => by
  obtain ⟨_, _, _, _, _, _, _, _, _, _, _, _, _, _, _, _, z⟩ := x
  exact z.elim, fun _ _ _ _ _ _ _ _ z => z.elim⟩
section
variable {K : PySem.W.Frag} {c c2 : Cc} {o o' : Own} {σ σ' : St} {H H' : Hp} {ρ ρ' : Env} {τ τ' τ0 τ1 : List (V × M)} {X : Cx} {e a b : Expr} {es : List Expr} {pos p : Pos} {t u : TX} {P : EndP} {D' : Ends} {v : V} {m : M}
theorem IsXd.mono (L : Le o H o' H') : ∀ {d : Option Addr} {fs : List (Str × D)}, IsXd K o H d fs → IsXd K o' H' d fs
  | none, _, h => h
  | some d, _, ⟨h1, vs, h2, h3⟩ => ⟨(L.keep _ _ h1 h2).1, vs, (L.keep _ _ h1 h2).2, Kvs.mono L h3⟩
theorem SlOk.recc {i : Nat} (hp : c2.pv = c.pv) : ∀ {s : Sl}, SlOk K c o σ H i s → SlOk K c2 o σ H i s
  | .no, h => h
  | .lo _, h => h
  | .pa _, ⟨v, h1, h2, h3⟩ => ⟨v, h1, by rw [hp]; exact h2, h3⟩
  | .hd _ _ _, ⟨h1, h2, h3⟩ => ⟨h1, fun z => by rw [hp]; exact h2 z, h3⟩
/-- another beginning -/
theorem Rep.recc (R0 : Rep K c o σ H ρ τ) (hp : c2.pv = c.pv) (L : Le c2.o0 c2.H0 o H) : Rep K c2 o σ H ρ τ := ⟨fun i s e => (R0.sl i s e).recc hp, R0.tm, R0.mu, L, R0.ln, R0.st⟩
/-- a slot is emptied -/
theorem Rep.unset (R0 : Rep K c o σ H ρ τ) (i : Nat) : Rep K c o (σ.set i none) H (ρ.set i .no) τ := by
  refine ⟨fun j s e => ?_, R0.tm, R0.mu, R0.le, by rw [List.length_set, List.length_set]; exact R0.ln, R0.st⟩
  by_cases hj : i = j
  · subst hj
    by_cases hl : i < ρ.sl.length
    · rw [List.getElem?_set_self hl] at e; cases e; exact trivial
    · rw [List.getElem?_eq_none (by simpa using hl)] at e; cases e
  · rw [List.getElem?_set_ne hj] at e
    exact (R0.sl j s e).st (List.getElem?_set_ne hj)
end
/-! ### defs that may raise -/
def FnDX (Pg : Program) (w : World) (K : PySem.W.Frag) (mg : Str → Option Value) (base : Heap) {name : Str} {st : Stmt} {ps : List Str} (D : DefAt K mg name st ps) (k : Nat) (F : TF) : Prop := FnOk Pg w K mg base (L2.CX Pg w) k D.f D.fd ps (spD K F ps.length)
def FnMX (Pg : Program) (w : World) (K : PySem.W.Frag) (mg : Str → Option Value) (base : Heap) {C : Addr} {m qual : Str} {st : Stmt} {ps : List Str} (D : MethAt K C m qual st ps) (k : Nat) (F : TF) : Prop := FnOk Pg w K mg base (L2.CX Pg w) k D.f D.fd ps (spD K F ps.length)
def TF.calm (F : TF) : TF := fun ms W G _ => F ms W G gx0
section
variable {Pg : Program} {w : World} {K : PySem.W.Frag} {mg : Str → Option Value} {base : Heap} {f : Addr} {fd : FuncData} {ps : List Str} {j k n : Nat} {F F' : TF} {name m qual : Str} {st : Stmt} {C : Addr}
/-- what raises nothing -/
theorem fnok_calm (h : FnOk Pg w K mg base (L2.CX Pg w) k f fd ps (spD K F n)) : FnOk Pg w K mg base CX0 k f fd ps (spD K F.calm n) := by
  have up : ∀ {vs H Q E}, spD K F.calm n vs H Q E → spD K F n vs H Q E0 := fun {vs H Q E} ⟨o, ms, W, G, Gx, a, b, c, d, e⟩ => ⟨o, ms, W, G, gx0, a, b, c, d, fun _ _ _ _ _ _ _ _ z => z.elim⟩
  refine ⟨fun vs H Q E q => h.len _ _ _ _ (up q), fun A outer s H args us vs Q E hr e0 hb rel q => codeAny_mono (h.run A outer s H args us vs Q E0 hr e0 hb rel (up q)) fun r s' hq => ?_⟩
  cases r with
  | error e =>
    obtain ⟨_, _, _, _, _, _, _, _, _, _, _, _, z⟩ := hq
    exact z.elim
  | ok fl => cases fl <;> exact hq
theorem FnDX.calm {D : DefAt K mg name st ps} (h : FnDX Pg w K mg base D k F) : FnD Pg w K mg base D k F.calm := fnok_calm h
theorem FnMX.calm {D : MethAt K C m qual st ps} (h : FnMX Pg w K mg base D k F) : FnM Pg w K mg base D k F.calm := fnok_calm h
theorem FnDX.mono {D : DefAt K mg name st ps} (h : FnDX Pg w K mg base D j F) (l : j ≤ k) : FnDX Pg w K mg base D k F := FnOk.mono h l
theorem FnMX.mono {D : MethAt K C m qual st ps} (h : FnMX Pg w K mg base D j F) (l : j ≤ k) : FnMX Pg w K mg base D k F := FnOk.mono h l
theorem FnDX.imp {D : DefAt K mg name st ps} (h : FnDX Pg w K mg base D k F) (i : ∀ ms W G Gx, F' ms W G Gx → F ms W G Gx) : FnDX Pg w K mg base D k F' :=
  FnOk.imp h fun vs H Q E ⟨o, ms, W, G, Gx, a, b, c, d⟩ => ⟨o, ms, W, G, Gx, a, b, i ms W G Gx c, d⟩
theorem FnMX.imp {D : MethAt K C m qual st ps} (h : FnMX Pg w K mg base D k F) (i : ∀ ms W G Gx, F' ms W G Gx → F ms W G Gx) : FnMX Pg w K mg base D k F' :=
  FnOk.imp h fun vs H Q E ⟨o, ms, W, G, Gx, a, b, c, d⟩ => ⟨o, ms, W, G, Gx, a, b, i ms W G Gx c, d⟩
theorem fnDX_never {D : DefAt K mg name st ps} (h : ∀ ms W G Gx, ¬ F ms W G Gx) : FnDX Pg w K mg base D k F :=
  ⟨fun vs H Q E ⟨o, ms, W, G, Gx, hl, _⟩ => hl, fun A outer s H args us vs Q E _ _ _ _ ⟨o, ms, W, G, Gx, _, _, hf, _⟩ => (h ms W G Gx hf).elim⟩
theorem fnMX_never {D : MethAt K C m qual st ps} (h : ∀ ms W G Gx, ¬ F ms W G Gx) : FnMX Pg w K mg base D k F :=
  ⟨fun vs H Q E ⟨o, ms, W, G, Gx, hl, _⟩ => hl, fun A outer s H args us vs Q E _ _ _ _ ⟨o, ms, W, G, Gx, _, _, hf, _⟩ => (h ms W G Gx hf).elim⟩
/-- a def that may raise, by its body -/
theorem fn_okX {x : Str} {N : List Str} {T : EX → TSX} (Fu : Fun K x qual st f fd) (S : FnScope N ps (defScope st)) (hB : Body F N.length ps.length T)
    (hbody : ∀ (cdv : Value) (A : Around) (outer : List PySem.Env) (s : Shared) (H : Hp) (E : XK) (c : Cc) (ex : EX), Room k (A.deeper (PyProof.Rows.envOfC qual (defScope st) s.heap.objs.size f cdv)) → Exs (cxOf (L2.CX Pg w) Pg w K mg base N qual (defScope st) f cdv A outer s H E) c ex →
      PassesOwn (model Pg w) (A.deeper (PyProof.Rows.envOfC qual (defScope st) s.heap.objs.size f cdv)) (PyProof.Rows.envOfC qual (defScope st) s.heap.objs.size f cdv) (cxOf (L2.CX Pg w) Pg w K mg base N qual (defScope st) f cdv A outer s H E).xe → DSs (cxOf (L2.CX Pg w) Pg w K mg base N qual (defScope st) f cdv A outer s H E) c (defBody st) (T ex)) :
    FnOk Pg w K mg base (L2.CX Pg w) (k + 1) f fd ps (spD K F ps.length) := by
  refine Fu.okX S (fun vs H Q E h => h.choose_spec.choose_spec.choose_spec.choose_spec.choose_spec.1) fun cdv A outer s H vs Q E hr h => ?_
  obtain ⟨o, ms, W, G, Gx, hl, ha, hF, q, qx⟩ := h
  have R0 : Rep K ⟨o, H, vs⟩ o (L2.start N vs) H (envOf N.length ps.length ms W) [] := by have := rep_start (N := N) ha; rw [hl] at this; exact this
  exact ⟨_, hbody cdv A outer s H E ⟨o, H, vs⟩ (exB Gx) hr ⟨fun cls d _ H => E cls d H, takes_of rfl rfl rfl rfl, fun x d σ' H' o' ρ' R' hx hG => qx x d H' o' ρ'.st R'.le ⟨R'.mu, R'.st⟩ hx hG⟩ (passes_of rfl),
    o, _, _, R0, hB ms W G Gx (by rw [← ha.len]; exact hl) hF, body_ways q⟩
end
/-! ### calls that may raise -/
section
variable {K : PySem.W.Frag} {c : Cc} {o o' : Own} {σ σ' : St} {H H' : Hp} {ρ ρ' : Env} {τ τ' τ0 τ1 : List (V × M)} {X : Cx} {e a b : Expr} {es : List Expr} {pos p apos : Pos} {t u to : TX} {ta : TL} {P : EndP} {v : V} {ex : EX} {F : TF} {n k : Nat} {C f : Addr} {fd : FuncData} {ps : List Str} {x m : Str}
theorem tieE {W : WX} (tie : TieC K c ex W) : ∀ (x : Xc) d H' o' ρ', Rep K c o' σ H' ρ' [] → IsXd K o' H' d x.2 → ex x ρ' → WE W σ x.1 d H' := fun x d H' o' ρ' R hx he => tie x d σ H' o' ρ' R hx he
theorem de_callX (xs : Exs X c ex) (G : FnOk X.prog X.w X.K X.mg X.base (L2.CX X.prog X.w) k f fd ps (spD X.K F n)) (hr : Room k X.A) (hg : Gl X x) (hm : X.mg x = some (.ref f)) (hk : PySem.W.keepIn X.K (.ref f) = true) (hb : Binds X.K fd ps [])
    (ha : DA X c (e :: es) ta) (hdb : (x == ("__debug__" : Str)) = false := by decide) (he : starEach (e :: es) X.env = (false, eval e X.env) :: starEach es X.env := by rfl) (hpl : (backTo pos (starEach es X.env)).any (·.1) = false := by rfl) :
    DE X c (.Call (.Name x p) (e :: es) [] pos) (tCall ex F n ta) := by
  obtain ⟨W, tk, tie⟩ := xs
  refine peImp (pe_callS (E := WE W) G hr hg hm hk hb (fun σ => passAt tk σ) ha hdb he hpl) fun σ H kk h => ?_
  obtain ⟨o, ρ, τ, Q, R0, h, q⟩ := h
  exact ⟨o, ρ, τ, _, R0, h, fun vs H1 o1 rs ρ1 τ1 L1 R1 z1 h1 => callF_ok (E := WE W σ) (tieE tie) R1 z1 (show callF ex F n rs ρ1 Q from h1) fun v H' o' r ρ' τ' L R' z' hq => q v H' o' r ρ' τ' (L1.trans L) R' z' hq⟩
/-- a method's call, what is raised wished for at the slots -/
theorem pe_methW {pl : Sem Bool} {sp : Sp} {E : St → XK} {te : TE} {tt : TA} (ho : PE X a te) (cl : Cls X.K C) (hm : Meth X.K C m f) (G : FnOk X.prog X.w X.K X.mg X.base (L2.CX X.prog X.w) k f fd ps sp) (hr : Room k X.A) (hb : Binds X.K fd ps []) (hx : ∀ σ, PassesAt (L2.CX X.prog X.w) X σ (E σ)) (ha : PA X (e :: es) tt)
    (hst : starEach (e :: es) X.env = (false, eval e X.env) :: starEach es X.env := by rfl) (hpl : (backTo pos (starEach es X.env)).any (·.1) = false := by rfl)
    (ht : eval (.Call (.Attribute a m apos) (e :: es) [] pos) X.env = (do
      let ov ← eval a X.env
      standAt apos.atName
      let (f, first) ← holding [ov] (getMethod ov m pl)
      callWith pos f first (backTo pos (starEach (e :: es) X.env)) (backToKw pos (keywordEach [] X.env))) := by rfl) :
    PE X (.Call (.Attribute a m apos) (e :: es) [] pos) (fun σ H Q => L2.tMeth C m sp [] (E σ) te tt σ H Q) := by
  refine ⟨fun pins st σ H Q I h => PySem.W.methodCall_KW (pl := pl) (thn (ho.run pins st σ H _ I h) fun u s1 ⟨x, H1, I1, rx, b, dx, fs, ex, eb, l, q⟩ => ?_) ht⟩
  subst ex
  obtain rfl : u = Value.ref b := rx
  refine getmeth_ok I1 eb cl hm l (PySem.W.callWith_K (first := [.ref b]) (h₀ := X.base) I.ok.mod.kin hm.kp (thn (ha.run pos pins s1 σ H1 _ I1 q) fun us s2 ⟨vs, H2, I2, r, q2⟩ => ⟨I2.kIn, ?_⟩) hst hpl)
  exact run_fnSD (us := .ref b :: us) (vs := .ref b :: vs) G hr hb .nil (hx σ) I2 (.cons rfl r) q2
theorem pe_methW0 {pl : Sem Bool} {sp : Sp} {E : St → XK} {te : TE} (ho : PE X a te) (cl : Cls X.K C) (hm : Meth X.K C m f) (G : FnOk X.prog X.w X.K X.mg X.base (L2.CX X.prog X.w) k f fd ps sp) (hr : Room k X.A) (hb : Binds X.K fd ps []) (hx : ∀ σ, PassesAt (L2.CX X.prog X.w) X σ (E σ))
    (ht : eval (.Call (.Attribute a m apos) [] [] pos) X.env = (do
      let ov ← eval a X.env
      standAt apos.atName
      let (f, first) ← holding [ov] (getMethod ov m pl)
      callWith pos f first (backTo pos (starEach [] X.env)) (backToKw pos (keywordEach [] X.env))) := by rfl) :
    PE X (.Call (.Attribute a m apos) [] [] pos) (fun σ H Q => L2.tMeth C m sp [] (E σ) te tNil σ H Q) := by
  refine ⟨fun pins st σ H Q I h => PySem.W.methodCall_KW (pl := pl) (thn (ho.run pins st σ H _ I h) fun u s1 ⟨x, H1, I1, rx, b, dx, fs, ex, eb, l, q⟩ => ?_) ht⟩
  subst ex
  obtain rfl : u = Value.ref b := rx
  exact getmeth_ok I1 eb cl hm l (PySem.W.callWith_K0 (first := [.ref b]) I1.kIn hm.kp (run_fnSD (us := [.ref b]) (vs := [.ref b]) G hr hb .nil (hx σ) I1 (.cons rfl .nil) q))
theorem de_methX {pl : Sem Bool} (xs : Exs X c ex) (ho : DE X c a to) (cl : Cls X.K C) (hm : Meth X.K C m f) (G : FnOk X.prog X.w X.K X.mg X.base (L2.CX X.prog X.w) k f fd ps (spD X.K F n)) (hr : Room k X.A) (hb : Binds X.K fd ps []) (ha : DA X c (e :: es) ta)
    (hst : starEach (e :: es) X.env = (false, eval e X.env) :: starEach es X.env := by rfl) (hpl : (backTo pos (starEach es X.env)).any (·.1) = false := by rfl)
    (ht : eval (.Call (.Attribute a m apos) (e :: es) [] pos) X.env = (do
      let ov ← eval a X.env
      standAt apos.atName
      let (f, first) ← holding [ov] (getMethod ov m pl)
      callWith pos f first (backTo pos (starEach (e :: es) X.env)) (backToKw pos (keywordEach [] X.env))) := by rfl) :
    DE X c (.Call (.Attribute a m apos) (e :: es) [] pos) (tMethY ex C m F n to ta) := by
  obtain ⟨W, tk, tie⟩ := xs
  exact peImp (pe_methW (E := WE W) ho cl hm G hr hb (fun σ => passAt tk σ) ha hst hpl ht) fun σ H kk h => meth_of (tieE tie) h
theorem de_methX0 {pl : Sem Bool} (xs : Exs X c ex) (ho : DE X c a to) (cl : Cls X.K C) (hm : Meth X.K C m f) (G : FnOk X.prog X.w X.K X.mg X.base (L2.CX X.prog X.w) k f fd ps (spD X.K F n)) (hr : Room k X.A) (hb : Binds X.K fd ps [])
    (ht : eval (.Call (.Attribute a m apos) [] [] pos) X.env = (do
      let ov ← eval a X.env
      standAt apos.atName
      let (f, first) ← holding [ov] (getMethod ov m pl)
      callWith pos f first (backTo pos (starEach [] X.env)) (backToKw pos (keywordEach [] X.env))) := by rfl) :
    DE X c (.Call (.Attribute a m apos) [] [] pos) (tMethY ex C m F n to lNil) := by
  obtain ⟨W, tk, tie⟩ := xs
  refine peImp (pe_methW0 (E := WE W) ho cl hm G hr hb (fun σ => passAt tk σ) ht) fun σ H kk h => ?_
  obtain ⟨o, ρ, τ, Q, R0, h, q⟩ := meth_of (tieE tie) h
  refine ⟨o, ρ, τ, Q, R0, h, fun v1 H1 o1 r1 ρ1 τ1 L1 R1 z1 h1 => ?_⟩
  obtain ⟨a, dx, fs, e1, e2, e3, o2, ρ2, τ2, Q2, R2, h2, q2⟩ := q v1 H1 o1 r1 ρ1 τ1 L1 R1 z1 h1
  exact ⟨a, dx, fs, e1, e2, e3, q2 [] H1 o2 [] ρ2 τ2 .refl R2 .nil h2⟩
/-- C(..) whose __init__ may raise -/
theorem run_makeW {sp : Sp} {E : XK} {pins : List (Addr × Obj)} {s : Shared} {Q : VK} {us : List Value} {vs : List V} (Mk : Mk X.K C f) (G : FnOk X.prog X.w X.K X.mg X.base (L2.CX X.prog X.w) k f fd ps sp) (hr : Room (k + 1) X.A) (hb : Binds X.K fd ps []) (hx : PassesAt (L2.CX X.prog X.w) X σ E) (I : Inv X pins σ H s) (r : Vals vs us)
    (h : ∀ x dx, H x = none → H dx = none → dx ≠ x → sp (.ref x :: (vs ++ [])) (upd (upd H dx (.own x)) x (.ins C dx [])) (fun v H2 => v = .non ∧ Q (.ref x) H2) E) : wpAny (model X.prog X.w) X.A (call (.ref C) us) (EP X pins σ Q) X.xe s := by
  have new := h (s.heap.objs.size + 1) s.heap.objs.size (I.hok.fresh (Nat.le_succ _)) (I.hok.fresh (Nat.le_refl _)) (Nat.ne_of_lt (Nat.lt_succ_self _))
  have J := Inv.made (C := C) I
  have rel : Vals (V.ref (s.heap.objs.size + 1) :: (vs ++ [])) (Value.ref (s.heap.objs.size + 1) :: (us ++ [])) := .cons rfl (r.append .nil)
  have len : (Value.ref (s.heap.objs.size + 1) :: us ++ []).length = ps.length := (show (Value.ref (s.heap.objs.size + 1) :: (us ++ [])).length = _ from rel.length.symm.trans (G.len _ _ _ _ new))
  refine wpAny_call (make_map (f := f) I.kIn Mk.makes Mk.init (beq_iff_eq.mp Mk.fn) (codeAny_mono (G.run _ X.stack _ _ ⟨Value.ref (s.heap.objs.size + 1) :: us, []⟩ _ _ _ E (hr.make C us []) (J.env0.make C us []) (hb _ (Value.ref (s.heap.objs.size + 1) :: us) J.kIn len) rel new) fun res s' done => ?_))
  cases res with
  | error e => exact hx pins _ _ e s' J done
  | ok fl =>
    cases fl with
    | ret u =>
      obtain ⟨v, H', J', rv, ev, q⟩ := J.after done
      subst ev
      exact ⟨rv, V.ref (s.heap.objs.size + 1), H', J', rfl, q⟩
    | next => exact False.elim done
    | brk => exact False.elim done
    | cont => exact False.elim done
theorem de_makeX (xs : Exs X c ex) (Mk : Mk X.K C f) (G : FnOk X.prog X.w X.K X.mg X.base (L2.CX X.prog X.w) k f fd ps (spD X.K F n)) (hr : Room (k + 1) X.A) (hg : Gl X x) (hm : X.mg x = some (.ref C)) (hb : Binds X.K fd ps []) (ha : DA X c (e :: es) ta) (hdb : (x == ("__debug__" : Str)) = false := by decide)
    (he : starEach (e :: es) X.env = (false, eval e X.env) :: starEach es X.env := by rfl) (hpl : (backTo pos (starEach es X.env)).any (·.1) = false := by rfl) :
    DE X c (.Call (.Name x p) (e :: es) [] pos) (tMakeY ex C F n ta) := by
  obtain ⟨W, tk, tie⟩ := xs
  refine ⟨fun pins s σ H Q I h => ?_⟩
  refine wpAny_Call_Name_kw (ld_glob I hg hm ?_ hdb)
  refine PySem.W.callWith_K (h₀ := X.base) I.ok.mod.kin Mk.kp (thn (ha.run pos pins s σ H _ I (make_of (tieE tie) h)) fun us s1 ⟨vs, H1, I1, r, q⟩ => ⟨I1.kIn, ?_⟩) he hpl
  exact run_makeW (E := WE W σ) Mk G hr hb (passAt tk σ) I1 r q
/-! ### raise C(..) -/
/-- C's instance is made and raised: its fields, the last one first -/
def sRaise (ex : EX) (C : Addr) (fs : List Str) (ta : TL) : TSX := fun _ ρ => tFrz ta (fun ds ρ1 => ds.length = fs.length ∧ ex (.ref C, (fs.zip ds).reverse) ρ1) ρ
/-- what the made exception's dict is -/
def mkT (C : Addr) (fs : List Str) (ta : TA) : St → Hp → XK → Prop := fun σ H Q => ta σ H fun vs H1 => vs.length = fs.length ∧ ∀ d H', H1 d = none → Grow H1 H' → H' d = some (.xd (fs.zip vs).reverse) → Q (.ref C) (some d) H'
theorem ds_raise {fs : List Str} {es : List Expr} {ta : TL} (xs : Exs X c ex) (hc : X.calm = true) (mk : PMk X (.Call (.Name x p) es [] apos) (mkT C fs (TAo X.K c ta))) : DS X c (.Raise (some (.Call (.Name x p) es [] apos)) none pos) (sRaise ex C fs ta) := by
  obtain ⟨W, tk, tie⟩ := xs
  refine psImp (ps_raise hc tk mk) fun Dn σ H h => ?_
  obtain ⟨o, ρ, P, R0, h, w⟩ := h
  refine tFrz_of R0 h fun vs H1 o1 ds ρ1 L1 R1 dd h1 => ?_
  refine ⟨by rw [dd.length]; exact h1.1, fun d H' hd g he => ?_⟩
  have R2 := R1.grow g
  refine tie _ (some d) σ H' o1 ρ1 R2 ?_ h1.2
  refine ⟨?_, _, he, ?_⟩
  · exact R1.fresh hd
  · have gL : Le o1 H1 o1 H' := g.le R1.mu
    have z : ∀ {fs : List Str} {vs : List V} {ds : List D}, Dats X.K o1 H1 vs ds → Kvs X.K o1 H' (fs.zip vs) (fs.zip ds) := by
      intro fs
      induction fs with
      | nil => intro vs ds _; exact .nil
      | cons f fs ih =>
        intro vs ds h
        cases h with
        | nil => exact .nil
        | cons a t => exact .cons ⟨rfl, a.mono gL⟩ (ih t)
    have rv : ∀ {as : List (Str × V)} {bs : List (Str × D)}, Kvs X.K o1 H' as bs → Kvs X.K o1 H' as.reverse bs.reverse := by
      intro as
      induction as with
      | nil => intro bs h; cases h; exact .nil
      | cons a as ih =>
        intro bs h
        cases h with
        | cons q t => rw [List.reverse_cons, List.reverse_cons]; exact (ih t).append (.cons q .nil)
    exact rv (z dd)
end
end Y
namespace Y
open PySem PySem.Spec L2
/-! ### an exception of the program: made by its class, which keeps what it is handed -/
structure ExcAt (pg : Program) (K : PySem.W.Frag) (mg : Str → Option Value) (name qual : Str) (st : Stmt) (ps fs : List Str) where
  C : Addr
  f : Addr
  mg : mg name = some (.ref C)
  sup : SupC pg K C f qual (defArgs st) (defBody st) (defScope st)
  iC : PySem.W.findIn K (.ref C) "__init__" = some (some (.ref f))
  tI : PySem.W.typeIn K (.ref f) = some (.type "function")
  no : ∀ g ∈ fs, PySem.W.findIn K (.ref C) g = some none
  xf : XfC K C
  bd : Binds K sup.fd ps []
theorem grow_mk {H1 H2 : Hp} {a d : Addr} {u : HO} (ha : H1 a = none) (hd : H1 d = none) (h : ∀ b, b ≠ a → b ≠ d → H2 b = H1 b) : Grow H1 (upd (del H2 a) d u) := fun b w e => by
  have n1 : b ≠ a := fun z => by subst z; rw [ha] at e; cases e
  have n2 : b ≠ d := fun z => by subst z; rw [hd] at e; cases e
  rw [upd_ne n2, del_ne n1, h b n1 n2]; exact e
section
variable {pg : Program} {w : World} {K : PySem.W.Frag} {mg : Str → Option Value} {base : Heap} {C f : Addr} {name qual : Str} {params : Arguments} {scope : Scope} {N ps : List Str} {k : Nat} {p0 p1 p2 p3 p4 q1 q2 q3 q4 q5 q6 q7 q8 q9 : Pos} {a0 a1 a2 f1 f2 x : Str} {X : Cx} {c : Cc} {e : Expr} {es : List Expr} {ta : TL} {p pos : Pos} {pl : PySem.Env → Sem Bool}
theorem mk_of_sp {sp : Sp} {fs : List Str} {tas : TL} (hsp : ∀ (a : Addr) (vs : List V) (H1 : Hp) (Q : XK), H1 a = none → vs.length = fs.length → (∀ d H', H1 d = none → Grow H1 H' → H' d = some (.xd (fs.zip vs).reverse) → Q (.ref C) (some d) H') →
      sp (.ref a :: (vs ++ [])) (upd H1 a (exo a C none)) (fun v H2 => v = .non ∧ ∃ (d : Addr) (gs : List (Str × V)), H2 a = some (exo a C (some d)) ∧ H2 d = some (exd d gs) ∧ H1 d = none ∧ Q (.ref C) (some d) (upd (del H2 a) d (.xd gs))) fun _ _ _ => False)
    (hl : fs.length ≤ 1000) {σ : L2.St} {H : Hp} {Q : XK} (h : mkT C fs (TAo K c tas) σ H Q) : tMkO C sp [] (TAo K c tas) σ H Q := by
  obtain ⟨o, ρ, τ, Q1, R0, h, q⟩ := h
  refine ⟨o, ρ, τ, Q1, R0, h, fun vs H1 o1 rs ρ1 τ1 L R z hq => ?_⟩
  obtain ⟨l, r⟩ := q vs H1 o1 rs ρ1 τ1 L R z hq
  exact ⟨by omega, fun a ha => hsp a vs H1 Q ha l r⟩
theorem nsN {N ps fr : List Str} {sc : Scope} (Sc : NdefX.NScope N ps fr sc) : ∀ (i : Nat) (y : Str), ps[i]? = some y → N[i]? = some y := fun i y h => by
  have hi : i < ps.length := (List.getElem?_eq_some_iff.mp h).1
  have q : (N.take (ps.length + fr.length))[i]? = (ps ++ fr)[i]? := by rw [Sc.pre]
  rw [List.getElem?_take_of_lt (by omega), List.getElem?_append_left hi] at q
  exact q.trans h
theorem init1 (S : SupC pg K C f qual params [.Expr (.Call (.Attribute (.Call (.Name "super" p0) [] [] p1) "__init__" p2) [.Name a1 q1] [] p3) p4, .Assign [.Attribute (.Name a0 q2) f1 q3] (.Name a1 q4) q5] scope) (Sc : NdefX.NScope N ps ["__class__"] scope) (hps : ps = [a0, a1])
    (hself : ∃ ar, (params.posonlyargs ++ params.args).head? = some ar ∧ ps[0]? = some ar.arg) (ks : scope.names.lookup ("super" : Str) = some .globalImplicit) (hn0 : mg "super" = none) 
    (d0 : (a0 == ("__debug__" : Str)) = false := by decide) (d1 : (a1 == ("__debug__" : Str)) = false := by decide) (c0 : (a0 == ("__classdict__" : Str)) = false := by decide) (c1 : (a1 == ("__classdict__" : Str)) = false := by decide)
    (hsw : ∀ env, swapsWith (.Name a1 q4) (some (.Attribute (.Name a0 q2) f1 q3)) q5.line env = pure false := by intro _; rfl)
    (hcall : ∀ env, eval (.Call (.Attribute (.Call (.Name "super" p0) [] [] p1) "__init__" p2) [.Name a1 q1] [] p3) env = (do
      let ov ← attributeBase (.Call (.Name "super" p0) [] [] p1) "__init__" env (eval (.Call (.Name "super" p0) [] [] p1) env)
      standAt p2.atName
      let (f, first) ← holding [ov] (getMethod ov "__init__" (pl env))
      callWith p3 f first (backTo p3 (starEach [.Name a1 q1] env)) []) := by intro _; rfl) :
    FnOk pg w K mg base CX0 (k + 1) f S.fd ps (spI K C N ps (tCons (tVar 1) tNil) (tOst K f1 (tVar 0) (tVar 1))) := by
  have hN := @nsN _ _ _ _ Sc
  have hv : ∀ y ∈ ps, Vis scope y := fun y hy => .inl (Sc.par y hy)
  have v0 : ∀ (A : Around) (outer : List PySem.Env) (s : Shared) (H : Hp) (E : XK) (q : Pos), PE (NdefX.ncx CX0 pg w K mg base N S.nf f A outer s H E) (.Name a0 q) (tVar 0) := fun A outer s H E q => pe_var (i := 0) (hN 0 a0 (by rw [hps]; rfl)) (hv a0 (by rw [hps]; simp)) d0 c0
  have v1 : ∀ (A : Around) (outer : List PySem.Env) (s : Shared) (H : Hp) (E : XK) (q : Pos), PE (NdefX.ncx CX0 pg w K mg base N S.nf f A outer s H E) (.Name a1 q) (tVar 1) := fun A outer s H E q => pe_var (i := 1) (hN 1 a1 (by rw [hps]; rfl)) (hv a1 (by rw [hps]; simp)) d1 c1
  exact init_fn S Sc hself ks hn0 (fun A outer s H E => pa_cons (v1 A outer s H E q1) pa_nil) (fun A outer s H E => pss_one (ps_ost (v0 A outer s H E q2) (v1 A outer s H E q4) (hsw _))) (hcall := hcall)
theorem init2 (S : SupC pg K C f qual params [.Expr (.Call (.Attribute (.Call (.Name "super" p0) [] [] p1) "__init__" p2) [.Name a1 q1, .Name a2 q6] [] p3) p4, .Assign [.Attribute (.Name a0 q2) f1 q3] (.Name a1 q4) q5, .Assign [.Attribute (.Name a0 q7) f2 q8] (.Name a2 q9) p] scope) (Sc : NdefX.NScope N ps ["__class__"] scope) (hps : ps = [a0, a1, a2])
    (hself : ∃ ar, (params.posonlyargs ++ params.args).head? = some ar ∧ ps[0]? = some ar.arg) (ks : scope.names.lookup ("super" : Str) = some .globalImplicit) (hn0 : mg "super" = none)
    (d0 : (a0 == ("__debug__" : Str)) = false := by decide) (d1 : (a1 == ("__debug__" : Str)) = false := by decide) (c0 : (a0 == ("__classdict__" : Str)) = false := by decide) (c1 : (a1 == ("__classdict__" : Str)) = false := by decide) (d2 : (a2 == ("__debug__" : Str)) = false := by decide) (c2 : (a2 == ("__classdict__" : Str)) = false := by decide)
    (hsw : ∀ env, swapsWith (.Name a1 q4) (some (.Attribute (.Name a0 q2) f1 q3)) q5.line env = pure false := by intro _; rfl) (hsw2 : ∀ env, swapsWith (.Name a2 q9) (some (.Attribute (.Name a0 q7) f2 q8)) p.line env = pure false := by intro _; rfl)
    (hcall : ∀ env, eval (.Call (.Attribute (.Call (.Name "super" p0) [] [] p1) "__init__" p2) [.Name a1 q1, .Name a2 q6] [] p3) env = (do
      let ov ← attributeBase (.Call (.Name "super" p0) [] [] p1) "__init__" env (eval (.Call (.Name "super" p0) [] [] p1) env)
      standAt p2.atName
      let (f, first) ← holding [ov] (getMethod ov "__init__" (pl env))
      callWith p3 f first (backTo p3 (starEach [.Name a1 q1, .Name a2 q6] env)) []) := by intro _; rfl) :
    FnOk pg w K mg base CX0 (k + 1) f S.fd ps (spI K C N ps (tCons (tVar 1) (tCons (tVar 2) tNil)) (tSeq (tOst K f1 (tVar 0) (tVar 1)) (tOst K f2 (tVar 0) (tVar 2)))) := by
  have hN := @nsN _ _ _ _ Sc
  have hv : ∀ y ∈ ps, Vis scope y := fun y hy => .inl (Sc.par y hy)
  have v0 : ∀ (A : Around) (outer : List PySem.Env) (s : Shared) (H : Hp) (E : XK) (q : Pos), PE (NdefX.ncx CX0 pg w K mg base N S.nf f A outer s H E) (.Name a0 q) (tVar 0) := fun A outer s H E q => pe_var (i := 0) (hN 0 a0 (by rw [hps]; rfl)) (hv a0 (by rw [hps]; simp)) d0 c0
  have v1 : ∀ (A : Around) (outer : List PySem.Env) (s : Shared) (H : Hp) (E : XK) (q : Pos), PE (NdefX.ncx CX0 pg w K mg base N S.nf f A outer s H E) (.Name a1 q) (tVar 1) := fun A outer s H E q => pe_var (i := 1) (hN 1 a1 (by rw [hps]; rfl)) (hv a1 (by rw [hps]; simp)) d1 c1
  have v2 : ∀ (A : Around) (outer : List PySem.Env) (s : Shared) (H : Hp) (E : XK) (q : Pos), PE (NdefX.ncx CX0 pg w K mg base N S.nf f A outer s H E) (.Name a2 q) (tVar 2) := fun A outer s H E q => pe_var (i := 2) (hN 2 a2 (by rw [hps]; rfl)) (hv a2 (by rw [hps]; simp)) d2 c2
  exact init_fn S Sc hself ks hn0 (fun A outer s H E => pa_cons (v1 A outer s H E q1) (pa_cons (v2 A outer s H E q6) pa_nil)) (fun A outer s H E => pss_cons (ps_ost (v0 A outer s H E q2) (v1 A outer s H E q4) (hsw _)) (pss_one (ps_ost (v0 A outer s H E q7) (v2 A outer s H E q9) (hsw2 _)))) (hcall := hcall)
/-- the promise of init1, init2 is what is wished for -/
theorem sp1 (T : OexC K C) (hno : PySem.W.findIn K (.ref C) f1 = some none) (hps : ps.length = 2) (a : Addr) (vs : List V) (H1 : Hp) (Q : XK) (ha : H1 a = none) (hl : vs.length = [f1].length) (r : ∀ d H', H1 d = none → Grow H1 H' → H' d = some (.xd ([f1].zip vs).reverse) → Q (.ref C) (some d) H') :
    spI K C N ps (tCons (tVar 1) tNil) (tOst K f1 (tVar 0) (tVar 1)) (.ref a :: (vs ++ [])) (upd H1 a (exo a C none)) (fun v H2 => v = .non ∧ ∃ (d : Addr) (gs : List (Str × V)), H2 a = some (exo a C (some d)) ∧ H2 d = some (exd d gs) ∧ H1 d = none ∧ Q (.ref C) (some d) (upd (del H2 a) d (.xd gs))) fun _ _ _ => False := by
  match vs, hl with
  | [v], _ =>
    refine ⟨by rw [hps]; rfl, a, rfl, upd_same, v, rfl, by show (1 : Nat) ≤ 1000; omega, upd_same, v, rfl, .ref a, rfl, a, C, rfl, T, hno, .inl ⟨upd_same, fun dx hd ne => ⟨rfl, dx, [(f1, v)], upd_same, ?_, ?_, ?_⟩⟩⟩
    · rw [upd_ne ne, upd_same]
    · rwa [upd_ne ne] at hd
    · rw [upd_ne ne] at hd
      refine r dx _ hd (grow_mk ha hd fun b n1 n2 => ?_) upd_same
      rw [upd_ne n1, upd_ne n2, upd_ne n1]
theorem sp2 (T : OexC K C) (hno : PySem.W.findIn K (.ref C) f1 = some none) (hno2 : PySem.W.findIn K (.ref C) f2 = some none) (hps : ps.length = 3) (a : Addr) (vs : List V) (H1 : Hp) (Q : XK) (ha : H1 a = none) (hl : vs.length = [f1, f2].length) (r : ∀ d H', H1 d = none → Grow H1 H' → H' d = some (.xd ([f1, f2].zip vs).reverse) → Q (.ref C) (some d) H') :
    spI K C N ps (tCons (tVar 1) (tCons (tVar 2) tNil)) (tSeq (tOst K f1 (tVar 0) (tVar 1)) (tOst K f2 (tVar 0) (tVar 2))) (.ref a :: (vs ++ [])) (upd H1 a (exo a C none)) (fun v H2 => v = .non ∧ ∃ (d : Addr) (gs : List (Str × V)), H2 a = some (exo a C (some d)) ∧ H2 d = some (exd d gs) ∧ H1 d = none ∧ Q (.ref C) (some d) (upd (del H2 a) d (.xd gs))) fun _ _ _ => False := by
  match vs, hl with
  | [v, u], _ =>
    refine ⟨by rw [hps]; rfl, a, rfl, upd_same, v, rfl, u, rfl, by show (2 : Nat) ≤ 1000; omega, upd_same, v, rfl, .ref a, rfl, a, C, rfl, T, hno, .inl ⟨upd_same, fun dx hd ne => ⟨u, rfl, .ref a, rfl, a, C, rfl, T, hno2, .inr ⟨dx, [(f1, v)], upd_same, ?_, by show (1 : Nat) ≤ 900; omega, rfl, dx, [(f2, u), (f1, v)], ?_, upd_same, ?_, ?_⟩⟩⟩⟩
    · rw [upd_ne ne, upd_same]
    · rw [upd_ne (Ne.symm ne), upd_same]
    · rwa [upd_ne ne] at hd
    · rw [upd_ne ne] at hd
      refine r dx _ hd (grow_mk ha hd fun b n1 n2 => ?_) upd_same
      rw [upd_ne n2, upd_ne n1, upd_ne n2, upd_ne n1]

end
abbrev D_ := Y.D
section
variable {X : Cx} {c : Cc} {ex : EX} {qual x f1 f2 : Str} {st : Stmt} {ps N : List Str} {e e2 : Expr} {p pos apos : Pos} {ta : TL}
theorem passes_F : Passes CX0 X (fun _ _ _ => False) := fun _ _ _ _ _ _ _ z => False.elim z
/-- raise C(e) -/
theorem ds_raise1 (xs : Exs X c ex) (hc : X.calm = true) (Ex : ExcAt X.prog X.K X.mg x qual st ps [f1]) (F1 : FnOk X.prog X.w X.K X.mg X.base CX0 1 Ex.f Ex.sup.fd ps (spI X.K Ex.C N ps (tCons (tVar 1) tNil) (tOst X.K f1 (tVar 0) (tVar 1)))) (hps : ps.length = 2) {k : Nat} (hr : Room k X.A) (hk : 2 ≤ k) (hg : Gl X x)
    (ha : DA X c [e] ta) (hdb : (x == ("__debug__" : Str)) = false := by decide) (he : starEach [e] X.env = (false, eval e X.env) :: starEach [] X.env := by rfl) (hpl : (backTo apos (starEach [] X.env)).any (·.1) = false := by rfl) :
    DS X c (.Raise (some (.Call (.Name x p) [e] [] apos)) none pos) (sRaise ex Ex.C [f1] ta) :=
  ds_raise xs hc fun pins s σ H Q I h => pmk_oex Ex.sup.oex Ex.iC Ex.tI F1 (hr.mono hk) Ex.bd .nil passes_F hg Ex.mg ha hdb he hpl pins s σ H Q I
    (mk_of_sp (sp := spI X.K Ex.C N ps (tCons (tVar 1) tNil) (tOst X.K f1 (tVar 0) (tVar 1))) (fun a vs H1 Q ha hl r => sp1 Ex.sup.oex (Ex.no f1 (List.mem_singleton.mpr rfl)) hps a vs H1 Q ha hl r) (by simp) h)
theorem ds_raise2 (xs : Exs X c ex) (hc : X.calm = true) (Ex : ExcAt X.prog X.K X.mg x qual st ps [f1, f2]) (F1 : FnOk X.prog X.w X.K X.mg X.base CX0 1 Ex.f Ex.sup.fd ps (spI X.K Ex.C N ps (tCons (tVar 1) (tCons (tVar 2) tNil)) (tSeq (tOst X.K f1 (tVar 0) (tVar 1)) (tOst X.K f2 (tVar 0) (tVar 2))))) (hps : ps.length = 3) {k : Nat} (hr : Room k X.A) (hk : 2 ≤ k) (hg : Gl X x)
    (ha : DA X c [e, e2] ta) (hdb : (x == ("__debug__" : Str)) = false := by decide) (he : starEach [e, e2] X.env = (false, eval e X.env) :: starEach [e2] X.env := by rfl) (hpl : (backTo apos (starEach [e2] X.env)).any (·.1) = false := by rfl) :
    DS X c (.Raise (some (.Call (.Name x p) [e, e2] [] apos)) none pos) (sRaise ex Ex.C [f1, f2] ta) :=
  ds_raise xs hc fun pins s σ H Q I h => pmk_oex Ex.sup.oex Ex.iC Ex.tI F1 (hr.mono hk) Ex.bd .nil passes_F hg Ex.mg ha hdb he hpl pins s σ H Q I
    (mk_of_sp (sp := spI X.K Ex.C N ps (tCons (tVar 1) (tCons (tVar 2) tNil)) (tSeq (tOst X.K f1 (tVar 0) (tVar 1)) (tOst X.K f2 (tVar 0) (tVar 2)))) (fun a vs H1 Q ha hl r => sp2 Ex.sup.oex (Ex.no f1 (by simp)) (Ex.no f2 (by simp)) hps a vs H1 Q ha hl r) (by simp) h)
/-! ### try .. except -/
theorem Ways.recc {K : PySem.W.Frag} {c c2 : Cc} {o : Own} {H : Hp} {P : EndP} {D' : Ends} (w : Ways K c o H P D') (hp : c.pv = c2.pv) (L0 : Le c.o0 c.H0 o H) : Ways K c2 o H P D' :=
  ⟨fun σ' H' o' ρ' L R q => w.nx σ' H' o' ρ' L (R.recc hp (L0.trans L)) q, fun v σ' H' o' ρ' m L R i q => w.rt v σ' H' o' ρ' m L (R.recc hp (L0.trans L)) i q, fun σ' H' o' ρ' L R q => w.bk σ' H' o' ρ' L (R.recc hp (L0.trans L)) q, fun σ' H' o' ρ' L R q => w.ct σ' H' o' ρ' L (R.recc hp (L0.trans L)) q⟩
/-- the class of what is raised: is it one of those that are caught? -/
def ExcM (K : PySem.W.Frag) (cls : Value) (mt : Value → Option Bool) : Prop := ∀ v b, mt v = some b → PySem.W.exmOne K v cls = some b
def endN (i : Nat) (P : EndP) : EndP := { nx := fun ρ => P.nx (ρ.set i .no), rt := P.rt, bk := fun ρ => P.bk (ρ.set i .no), ct := fun ρ => P.ct (ρ.set i .no) }
def sTryAs (mt : Value → Option Bool) (i : Nat) (tb : EX → TSX) (ts : Addr → Xc → TSX) (ex : EX) : TSX := fun P ρ =>
  tb (fun x ρ1 => match mt x.1 with
    | some true => ∀ a, ts a x (endN i P) (ρ1.set i (.lo (.im (.raw (.ref a)))))
    | some false => ex x ρ1
    | none => False) P ρ
def sTry (mt : Value → Option Bool) (tb : EX → TSX) (ts : Addr → Xc → TSX) (ex : EX) : TSX := fun P ρ =>
  tb (fun x ρ1 => match mt x.1 with
    | some true => ∀ a, ts a x P ρ1
    | some false => ex x ρ1
    | none => False) P ρ
/-- the body's reading, whatever begins there -/
def bodyT (K : PySem.W.Frag) (c : Cc) (tb : EX → TSX) (W : WX) : TS := fun D σ H => ∃ (c2 : Cc) (e2 : EX), c2.pv = c.pv ∧ TieC K c2 e2 W ∧ TSo K c2 (tb e2) D σ H
/-- the suite's -/
def suiteT (K : PySem.W.Frag) (c : Cc) (ts : Addr → Xc → TSX) (a : Addr) (cls : Value) (d : Option Addr) : TS := fun D σ H => ∃ (c2 : Cc) (fs : List (Str × D_)), c2.pv = c.pv ∧ IsXd K c2.o0 c2.H0 d fs ∧ TSo K c2 (ts a (cls, fs)) D σ H
theorem ds_try_as {n y : Str} {cls : Value} {i : Nat} {mt : Value → Option Bool} {body suite : List Stmt} {b₀ : Stmt} {np pos' : Pos} {tb : EX → TSX} {ts : Addr → Xc → TSX} (xs : Exs X c ex) (hs : X.stack = X.env :: X.outer) (hf : X.env.frame = some X.env.locals) (hN : X.N.Nodup) (hi : X.N[i]? = some n) (hln : X.env.kindOf n = some .local) (hc : Names X y cls) (hm : ExcM X.K cls mt)
    (hb : ∀ (pn : List (Addr × Obj)) (xe : Value → Shared → Prop) (c2 : Cc) (e2 : EX), c2.pv = c.pv → Exs (X.tr pn xe) c2 e2 → PassesOwn (model X.prog X.w) X.A X.env xe → DSs (X.tr pn xe) c2 body (tb e2))
    (hsu : ∀ (a : Addr) (oe : Obj) (cls : Value) (d : Option Addr) (pn : List (Addr × Obj)) (fs : List (Str × D_)) (c2 : Cc), c2.pv = c.pv → IsXd X.K c2.o0 c2.H0 d fs → Zc cls d oe → (∃ vs, oe.data = .fields vs) → DSs (X.suite a ((a, oe) :: pn)) c2 (b₀ :: suite) (ts a (cls, fs))) :
    DS X c (.Try body [.ExceptHandler (some (.Name y np)) (some n) (b₀ :: suite) pos'] [] [] pos) (sTryAs mt i tb ts ex) := by
  obtain ⟨Wo, tk, tie⟩ := xs
  refine psImp (ps_try_as (tb := bodyT X.K c tb) (ts := suiteT X.K c ts) hs hf hN hi hln hc tk (fun W pn xe tkW po => ⟨fun pins s σ H Dn I ⟨c2, e2, hp, tie2, q⟩ => (hb pn xe c2 e2 hp ⟨W, tkW, tie2⟩ po).run pins s σ H Dn I q⟩)
    fun a oe cls d pn hz hd => ⟨fun pins s σ H Dn I ⟨c2, fs, hp, hx, q⟩ => (hsu a oe cls d pn fs c2 hp hx hz hd).run pins s σ H Dn I q⟩) fun Dn σ H h => ?_
  obtain ⟨o, ρ, P, R0, h, w⟩ := h
  refine ⟨⟨o, H, c.pv⟩, _, rfl, fun x d σ' H' o' ρ' R' hx hq => ?_, o, ρ, P, R0.recc rfl .refl, h, w.recc rfl R0.le⟩
  have RL : Le o H o' H' := R'.le
  have R2 : Rep X.K c o' σ' H' ρ' [] := R'.recc rfl (R0.le.trans RL)
  cases e : mt x.1 with
  | none => rw [e] at hq; exact hq.elim
  | some b =>
    rw [e] at hq
    refine ⟨b, hm _ _ e, fun hb a na => ?_, fun hb => ?_⟩
    · subst hb
      have hq := hq a
      have R3 : Rep X.K ⟨o', H', c.pv⟩ o' (σ'.set i (some (.ref a))) H' (ρ'.set i (.lo (.im (.raw (.ref a))))) [] := (R2.recc (c2 := ⟨o', H', c.pv⟩) rfl .refl).asg (m := .im (.raw (.ref a))) (.raw _)
      refine ⟨⟨o', H', c.pv⟩, x.2, rfl, hx, o', _, _, R3, hq, ?_⟩
      have w2 : Ways X.K c o' H' P Dn := w.le RL
      exact ⟨fun σ2 H2 o2 ρ2 L R q => w2.nx _ H2 o2 _ L ((R.recc (c2 := c) rfl (R2.le.trans L)).unset i) q, fun v σ2 H2 o2 ρ2 m L R im q => w2.rt v σ2 H2 o2 ρ2 m L (R.recc rfl (R2.le.trans L)) im q,
        fun σ2 H2 o2 ρ2 L R q => w2.bk _ H2 o2 _ L ((R.recc (c2 := c) rfl (R2.le.trans L)).unset i) q, fun σ2 H2 o2 ρ2 L R q => w2.ct _ H2 o2 _ L ((R.recc (c2 := c) rfl (R2.le.trans L)).unset i) q⟩
    · subst hb
      exact tie x d σ' H' o' ρ' R2 hx hq
theorem ds_try {y : Str} {cls : Value} {mt : Value → Option Bool} {body suite : List Stmt} {b₀ : Stmt} {np pos' : Pos} {tb : EX → TSX} {ts : Addr → Xc → TSX} (xs : Exs X c ex) (hs : X.stack = X.env :: X.outer) (hf : X.env.frame = some X.env.locals) (hc : Names X y cls) (hm : ExcM X.K cls mt)
    (hb : ∀ (pn : List (Addr × Obj)) (xe : Value → Shared → Prop) (c2 : Cc) (e2 : EX), c2.pv = c.pv → Exs (X.tr pn xe) c2 e2 → PassesOwn (model X.prog X.w) X.A X.env xe → DSs (X.tr pn xe) c2 body (tb e2))
    (hsu : ∀ (a : Addr) (oe : Obj) (cls : Value) (d : Option Addr) (pn : List (Addr × Obj)) (fs : List (Str × D_)) (c2 : Cc), c2.pv = c.pv → IsXd X.K c2.o0 c2.H0 d fs → Zc cls d oe → (∃ vs, oe.data = .fields vs) → DSs (X.suite a ((a, oe) :: pn)) c2 (b₀ :: suite) (ts a (cls, fs))) :
    DS X c (.Try body [.ExceptHandler (some (.Name y np)) none (b₀ :: suite) pos'] [] [] pos) (sTry mt tb ts ex) := by
  obtain ⟨Wo, tk, tie⟩ := xs
  refine psImp (ps_try_only (tb := bodyT X.K c tb) (ts := suiteT X.K c ts) hs hf hc tk (fun W pn xe tkW po => ⟨fun pins s σ H Dn I ⟨c2, e2, hp, tie2, q⟩ => (hb pn xe c2 e2 hp ⟨W, tkW, tie2⟩ po).run pins s σ H Dn I q⟩)
    fun a oe cls d pn hz hd => ⟨fun pins s σ H Dn I ⟨c2, fs, hp, hx, q⟩ => (hsu a oe cls d pn fs c2 hp hx hz hd).run pins s σ H Dn I q⟩) fun Dn σ H h => ?_
  obtain ⟨o, ρ, P, R0, h, w⟩ := h
  refine ⟨⟨o, H, c.pv⟩, _, rfl, fun x d σ' H' o' ρ' R' hx hq => ?_, o, ρ, P, R0.recc rfl .refl, h, w.recc rfl R0.le⟩
  have RL : Le o H o' H' := R'.le
  have R2 : Rep X.K c o' σ' H' ρ' [] := R'.recc rfl (R0.le.trans RL)
  cases e : mt x.1 with
  | none => rw [e] at hq; exact hq.elim
  | some b =>
    rw [e] at hq
    refine ⟨b, hm _ _ e, fun hb a na => ?_, fun hb => ?_⟩
    · subst hb
      exact ⟨⟨o', H', c.pv⟩, x.2, rfl, hx, o', ρ', P, R2.recc rfl .refl, hq a, (w.le RL).recc rfl R2.le⟩
    · subst hb
      exact tie x d σ' H' o' ρ' R2 hx hq
/-! ### e.f in a suite: e is what was caught -/
def tXfY (a : Addr) (x : Xc) (C : Addr) (f : Str) (t : TX) : TX := fun ρ Q => t ρ fun r ρ1 => match r with
  | .im (.raw v) => v = .ref a ∧ x.1 = .ref C ∧ match x.2.lookup f with
    | some d => Q (.im d) ρ1
    | none => False
  | _ => False
theorem kvs_lookup {K : PySem.W.Frag} {o : Own} {H : Hp} {f : Str} : ∀ {vs : List (Str × V)} {fs : List (Str × D_)} {d : D_}, Kvs K o H vs fs → fs.lookup f = some d → ∃ v, vs.lookup f = some v ∧ Dat K o H v d
  | _, _, d, .nil, e => by simp at e
  | _, _, d, @Paired.cons _ _ _ (y, v) (z, w) vs fs h t, e => by
    obtain ⟨h1, h2⟩ := h
    have h1 : y = z := h1
    subst h1
    rw [List.lookup_cons] at e ⊢
    by_cases q : (f == y) = true
    · rw [q] at e ⊢; cases e; exact ⟨v, rfl, h2⟩
    · rw [Bool.not_eq_true] at q
      rw [q] at e ⊢; exact kvs_lookup t e
theorem de_xf {a C : Addr} {oe : Obj} {cls : Value} {d : Option Addr} {pn : List (Addr × Obj)} {fs : List (Str × D_)} {n : Str} {t : TX} (T : XfC X.K C) (hno : PySem.W.findIn X.K (.ref C) n = some none) (hx : IsXd X.K c.o0 c.H0 d fs) (hz : Zc cls d oe) (hf : ∃ vs, oe.data = .fields vs)
    (he : DE (X.suite a ((a, oe) :: pn)) c e t) (hb : attributeBase e n X.env (eval e X.env) = eval e X.env := by rfl) : DE (X.suite a ((a, oe) :: pn)) c (.Attribute e n pos) (tXfY a (cls, fs) C n t) := by
  refine peImp (pe_xf T hno hz hf he hb) fun σ H kk h => ?_
  obtain ⟨o, ρ, τ, Q, R0, h, q⟩ := h
  refine ⟨o, ρ, τ, _, R0, h, fun v1 H1 o1 r1 ρ1 τ1 L1 R1 z1 h1 => ?_⟩
  split at h1
  · rename_i v
    obtain ⟨ea, ec, h1⟩ := h1
    split at h1
    · rename_i dd e1
      obtain ⟨rfl, z⟩ := z1
      obtain rfl : v1 = v := by cases z; rfl
      have hx1 : IsXd X.K o1 H1 d fs := hx.mono R1.le
      cases d with
      | none =>
        have hx1 : fs = [] := hx1
        subst hx1
        simp at e1
      | some dx =>
        obtain ⟨_, vs, e2, kv⟩ := hx1
        obtain ⟨v, e3, hd⟩ := kvs_lookup kv e1
        exact ⟨ea, ec, dx, vs, v, rfl, e2, e3, q v H1 o1 (.im dd) ρ1 _ L1 R1 ⟨rfl, hd⟩ h1⟩
    · exact h1.elim
  · exact h1.elim
end
end Y
namespace Y
open PySem PySem.Spec L2
open Classical in
/-- one class alone is raised, and caught -/
noncomputable def mtOne (C : Addr) : Value → Option Bool := fun v => if v = .ref C then some true else none
theorem mtOne_self (C : Addr) : mtOne C (.ref C) = some true := if_pos rfl
theorem excM_one {K : PySem.W.Frag} {C : Addr} (h : PySem.W.exmOne K (.ref C) (.ref C) = some true) : ExcM K (.ref C) (mtOne C) := fun v b e => by
  unfold mtOne at e
  split at e
  · rename_i q; subst q; cases e; exact h
  · cases e
/-- the law's walk, with room for deep recursion -/
theorem walkZ {l : PySem.W.OpenLaw} {q : Program} {loose : List Str} {XP : (Str → Option Value) → Heap → Prop} {YP : World → Heap → Prop} {d : DefRec} {K : Params → PySem.W.Frag} {F : TF} (hn : l.most = some 63) (hdf : d.params.defaults = [])
    (hF : LawF F)
    (hY : ∀ (w : World) (h : Heap), YP w h → (K w.params).In h)
    (Fk : ∀ (w : World) (mg : Str → Option Value) (fa : Addr) (h : Heap), (K w.params).In h → h.Ns mainGlobals mg → mg d.name = some (.ref fa) →
      ∃ fd : FuncData, (∀ (s : Shared) (u : Value), BindsTo s fd ⟨[u], []⟩ [("script", u)]) ∧ ∀ base : Heap, (K w.params).In base → base.Ns mainGlobals mg → FnOk l.prog w (K w.params) mg base CX0 230 fa fd ["script"] (spD (K w.params) F 1)) :
    PySem.W.WalkO q loose XP YP l.row.toRowW d [] (fun f vs => PySem.call f vs) :=
  L2.walk_of (n := 63) (k := 230) (x := "script") (CX := fun _ => CX0) (sp := fun w => spD (K w.params) F 1) hn (by decide) hdf ⟨rfl, by decide, by decide⟩ hY Fk (fun w H a ns h1 h2 h3 => hsp_of hF (K w.params) H a ns h1 h2 h3) fun _ _ _ _ _ z => z
/-! in a suite -/
theorem hs1 {k : Nat} {A : Around} {h : Option Value} (r : Room k A) : (A.mark h).units + 1 < cLine := by have := r.un; show A.units + 1 < _; omega
theorem hs64 {k : Nat} {A : Around} {h : Option Value} (r : Room k A) : (A.mark h).units + 64 < cLine := by have := r.un; show A.units + 64 < _; omega
theorem hs65 {k : Nat} {A : Around} {h : Option Value} (r : Room k A) : (A.mark h).units + 65 < cLine := by have := r.un; show A.units + 65 < _; omega
/-! s.startswith(t) -/
def gStarts (a : Str) : GC := fun ms G => match ms with
  | [.im (.str b)] => G (.im (.bl (Txt.startswith a b)))
  | _ => False
theorem startswith_ok {X : Cx} : MtT X "str.startswith" gStarts := fun pins s σ H x xs v us Q I rx rs h => mt_startswith pins s σ H x xs v us Q I rx rs (by
  obtain ⟨a, rfl, h⟩ := h
  obtain ⟨o, ms, G, mu, v1, h, q⟩ := h
  unfold gStarts at h
  split at h
  · obtain ⟨v, rfl, w1⟩ := pv1 v1
    exact ⟨a, _, rfl, by rw [w1.str], qim q (.bl _) h⟩
  · exact h.elim)
end Y
namespace Y
open PySem PySem.Spec L2 SX
/-! ### texts as lists of code points -/
abbrev Tx := List Nat
theorem cps_S (l : Tx) : (S l).cps.toList = l := rfl
theorem S_at (l : Tx) (i : Int) : atI (S l).cps.toList i = atI l i := rfl
theorem S_eq {a b : Tx} : (S a = S b) ↔ a = b := ⟨S_inj, fun h => by rw [h]⟩
theorem S_eqD {a b : Tx} : decide (S a = S b) = decide (a = b) := by
  by_cases h : a = b
  · rw [h]; simp
  · rw [decide_eq_false h, decide_eq_false fun z => h (S_inj z)]
theorem slice_mid {a : Tx} {i j : Int} (h : 0 ≤ i) (hj : i ≤ j) (hl : j ≤ a.length) : Txt.slice (S a) (some i) (some j) = S ((a.drop i.toNat).take (j - i).toNat) :=
  beq_iff_eq.mp (PyProof.Rows.slice_closesL (x := S a) h hj (by rw [S_len]; exact hl))
theorem slice_midN {a : Tx} {i j : Nat} (hj : i ≤ j) (hl : j ≤ a.length) : Txt.slice (S a) (some (i : Int)) (some (j : Int)) = S ((a.drop i).take (j - i)) := by
  rw [slice_mid (by omega) (by omega) (by omega)]
  congr 2
  omega
/-- an end beyond the text -/
theorem slice_hi {a : Tx} {i : Option Int} {j : Int} (h : (a.length : Int) ≤ j) : Txt.slice (S a) i (some j) = Txt.slice (S a) i (some (a.length : Int)) := by
  unfold Txt.slice
  rw [S_len, idx_hi h]
/-- one sign, told by its place -/
theorem slice_one {a : Tx} {i : Nat} (h : i ≤ a.length) : Txt.slice (S a) (some (i : Int)) (some ((i : Int) + 1)) = S ((a.drop i).take 1) := by
  by_cases hl : i + 1 ≤ a.length
  · rw [slice_mid (by omega) (by omega) (by omega)]
    congr 2
    omega
  · rw [slice_hi (by omega), slice_mid (by omega) (by omega) (by omega)]
    have e : a.drop i = [] := List.drop_eq_nil_of_le (by omega)
    rw [show ((i : Int)).toNat = i by omega, e]
    simp
/-- the first place of a sign, in the window -/
theorem occ_head_in (x y : Str) (lo hi limit : Nat) (hl : 1 ≤ limit) :
    (Builtin.Str.occurrences x y lo hi limit = [] ∧ ∀ i, lo ≤ i → ¬ StrLaws.At x y hi i) ∨
    ∃ i r, Builtin.Str.occurrences x y lo hi limit = i :: r ∧ lo ≤ i ∧ StrLaws.At x y hi i ∧ ∀ k, lo ≤ k → k < i → ¬ StrLaws.At x y hi k := by
  rw [StrLaws.occ_eq]
  rcases StrLaws.occ_first x y hi limit hl (List.range' lo (hi + 1 - lo)) lo (fun i hi => by have := List.mem_range'_1.mp hi; omega) with ⟨h0, hn⟩ | ⟨pre, a, post, e, h0, ha, hn⟩
  · refine .inl ⟨by rw [h0], fun i hlo hi => ?_⟩
    exact hn i (by have := hi.1; rw [List.mem_range'_1]; omega) hi
  · have hs := StrLaws.range'_split_from e
    refine .inr ⟨a, ((forIn (List.range' lo (hi + 1 - lo)) ((#[] : Array Nat), lo) (StrLaws.occBody x y hi limit)).run.fst.toList).tail, ?_, hs.1, ha, fun k hk0 hk => hn k (hs.2 k hk0 hk)⟩
    generalize (forIn (List.range' lo (hi + 1 - lo)) ((#[] : Array Nat), lo) (StrLaws.occBody x y hi limit)).run.fst = arr at h0
    have h1 : arr.toList[0]? = some a := by simpa using h0
    cases hL : arr.toList with
    | nil => rw [hL] at h1; cases h1
    | cons b t => rw [hL] at h1; simp at h1; rw [h1]; rfl
/-- how far it is to a sign -/
def till (c : Nat) (s : Tx) : Nat := (s.takeWhile (· != c)).length
theorem till_le (c : Nat) (s : Tx) : till c s ≤ s.length := (List.takeWhile_sublist _).length_le
theorem till_mem {c : Nat} : ∀ {s : Tx}, c ∈ s → s[till c s]? = some c
  | [], h => by cases h
  | x :: s, h => by
    unfold till
    rw [List.takeWhile_cons]
    by_cases e : x = c
    · subst e; simp
    · have e2 : (x != c) = true := by simpa using e
      rw [if_pos e2]
      rw [List.length_cons, List.getElem?_cons_succ]
      exact till_mem ((List.mem_cons.mp h).resolve_left fun z => e z.symm)
theorem till_lt {c : Nat} : ∀ {s : Tx} {k : Nat}, k < till c s → ∃ d, s[k]? = some d ∧ d ≠ c
  | [], k, h => by simp [till] at h
  | x :: s, k, h => by
    unfold till at h
    rw [List.takeWhile_cons] at h
    by_cases e : x = c
    · subst e; simp at h
    · have e2 : (x != c) = true := by simpa using e
      rw [if_pos e2, List.length_cons] at h
      cases k with
      | zero => exact ⟨x, rfl, e⟩
      | succ k => exact till_lt (s := s) (k := k) (by unfold till; omega)
theorem till_non {c : Nat} {s : Tx} (h : c ∉ s) : till c s = s.length := by
  induction s with
  | nil => rfl
  | cons x s ih =>
    have e : (x != c) = true := by simpa using fun z => h (by rw [z]; exact List.mem_cons_self)
    unfold till at ih ⊢
    rw [List.takeWhile_cons, if_pos e, List.length_cons, List.length_cons, ih fun z => h (List.mem_cons_of_mem _ z)]
theorem till_eq {c : Nat} {s : Tx} {k : Nat} (h1 : s[k]? = some c) (h2 : ∀ v, v < k → s[v]? ≠ some c) : till c s = k := by
  have hm : c ∈ s := List.mem_of_getElem? h1
  have e := till_mem hm
  rcases Nat.lt_trichotomy (till c s) k with h | h | h
  · exact absurd e (h2 _ h)
  · exact h
  · obtain ⟨d, hd, ne⟩ := till_lt h
    rw [hd] at h1; cases h1; exact absurd rfl ne
theorem at_one (x : Str) (c hi v : Nat) (hh : hi ≤ x.length) : StrLaws.At x ⟨#[c]⟩ hi v ↔ v < hi ∧ x.cps.toList[v]? = some c := by
  have e : (⟨#[c]⟩ : Str).length = 1 := rfl
  constructor
  · intro h
    have h1 : v + 1 ≤ hi := by have := h.1; rw [e] at this; exact this
    have h2 : StrLaws.At x ⟨#[c]⟩ x.length v := ⟨by rw [e]; omega, h.2⟩
    exact ⟨by omega, (StrLaws.subAt_one x c v).mp h2⟩
  · intro ⟨h1, h2⟩
    have h3 := (StrLaws.subAt_one x c v).mpr h2
    exact ⟨by rw [e]; omega, h3.2⟩
theorem fromI (n i : Nat) (h : i ≤ n) : fromIndex n (i : Int) = i := by
  unfold fromIndex
  rw [if_neg (by omega)]
  omega
theorem toI (n i : Nat) (h : i ≤ n) : toIndexW n (i : Int) = i := by
  unfold toIndexW
  rw [if_neg (by omega)]
  omega
theorem occ_win (l : Tx) (c lo hi : Nat) (h1 : lo ≤ hi) (h2 : hi ≤ l.length) :
    (match Builtin.Str.occurrences (S l) (S [c]) lo hi 1 with
      | k :: _ => (k : Int)
      | [] => -1) = if c ∈ (l.drop lo).take (hi - lo) then ((lo + till c (l.drop lo) : Nat) : Int) else -1 := by
  have gw : ∀ v, v < hi - lo → ((l.drop lo).take (hi - lo))[v]? = l[lo + v]? := fun v hv => by
    rw [List.getElem?_take_of_lt hv, List.getElem?_drop]
  rcases occ_head_in (S l) (S [c]) lo hi 1 (Nat.le_refl 1) with ⟨e, hn⟩ | ⟨i, r, e, h3, h4, hn⟩
  · rw [e, if_neg]
    intro hm
    obtain ⟨v, hv⟩ := List.mem_iff_getElem?.mp hm
    have hlt : v < hi - lo := by
      rcases Nat.lt_or_ge v (hi - lo) with h | h
      · exact h
      · rw [List.getElem?_eq_none (by rw [List.length_take]; omega)] at hv; cases hv
    rw [gw v hlt] at hv
    exact hn (lo + v) (by omega) ((at_one (S l) c hi (lo + v) (by rw [S_len]; exact h2)).mpr ⟨by omega, hv⟩)
  · rw [e]
    obtain ⟨h5, h6⟩ := (at_one (S l) c hi i (by rw [S_len]; exact h2)).mp h4
    have h6 : l[i]? = some c := h6
    have hd : (l.drop lo)[i - lo]? = some c := by rw [List.getElem?_drop, show lo + (i - lo) = i by omega]; exact h6
    have ht : till c (l.drop lo) = i - lo := till_eq hd fun v hv z => by
      rw [List.getElem?_drop] at z
      exact hn (lo + v) (by omega) (by omega) ((at_one (S l) c hi (lo + v) (by rw [S_len]; exact h2)).mpr ⟨by omega, z⟩)
    rw [if_pos, ht]
    · show ((i : Nat) : Int) = _; omega
    · exact List.mem_of_getElem? (i := i - lo) (by rw [gw _ (by omega), show lo + (i - lo) = i by omega]; exact h6)
theorem find3_S (l : Tx) (c i : Nat) (h : i ≤ l.length) : Txt.find3 (S l) (S [c]) (i : Int) = if c ∈ l.drop i then ((i + till c (l.drop i) : Nat) : Int) else -1 := by
  unfold Txt.find3
  rw [S_len, fromI _ _ h]
  refine (occ_win l c i l.length h (Nat.le_refl _)).trans ?_
  rw [List.take_of_length_le (by rw [List.length_drop]; omega)]
theorem findIn_S (l : Tx) (c i j : Nat) (h : i ≤ j) (hj : j ≤ l.length) : Txt.findIn (S l) (S [c]) (i : Int) (j : Int) = if c ∈ (l.drop i).take (j - i) then ((i + till c (l.drop i) : Nat) : Int) else -1 := by
  unfold Txt.findIn
  rw [S_len, fromI _ _ (by omega), toI _ _ hj]
  exact occ_win l c i j h hj
theorem in_S (l : Tx) (c : Nat) : (!(Builtin.Str.occurrences (S l) ⟨#[c]⟩ 0 (S l).length 1).isEmpty) = decide (c ∈ l) := in_one l c
end Y
namespace Y
open PySem PySem.Spec L2 SX
/-! ### what the program's reader finds in a text: its tokens -/
def Lfig : Tx := [48, 49, 50, 51, 52, 53, 54, 55, 56, 57]
def Lname : Tx := [97, 98, 99, 100, 101, 102, 103, 104, 105, 106, 107, 108, 109, 110, 111, 112, 113, 114, 115, 116, 117, 118, 119, 120, 121, 122, 48, 49, 50, 51, 52, 53, 54, 55, 56, 57, 33, 42, 43, 45, 46, 47, 58, 60, 61, 62, 63, 95]
def Lend : Tx := [32, 10, 40, 41, 39, 34, 59]
theorem lit_fig : ("0123456789" : Str) = S Lfig := by decide +kernel
theorem lit_name : ("abcdefghijklmnopqrstuvwxyz0123456789!*+-./:<=>?_" : Str) = S Lname := by decide +kernel
theorem lit_end : (" \n()'\";" : Str) = S Lend := by decide +kernel
def allFig (w : Tx) : Bool := w.all fun c => decide (c ∈ Lfig)
/-- a number without its sign -/
def bodyOf (w : Tx) : Tx := if w.take 1 = [45] then w.drop 1 else w
def isNum (w : Tx) : Bool := if (bodyOf w = [] ∨ allFig (bodyOf w) = false) ∨ 30 < (bodyOf w).length then false else decide (w = [48]) || decide ((bodyOf w).head? ≠ some 48)
def firstOf (w : Tx) : Tx := if w.head? = some 45 then (w.drop 1).take 1 else w.take 1
def isNm (w : Tx) : Bool := if ¬ (1 ≤ w.length ∧ w.length ≤ 20) ∨ w = [46, 46, 46] ∨ w = [95] then false else if (w.all fun c => decide (c ∈ Lname)) = false then false else decide (firstOf w = []) || decide (∀ c, (firstOf w).head? = some c → c ∉ Lfig)
def sortOf (w : Tx) : Str := if isNum w = true then "number" else if w = [35, 116] ∨ w = [35, 102] then "flag" else if w = [46, 46, 46] then "dots" else if w = [95] then "wild" else if isNm w = true then "name" else "wrong"
/-- the end of the line -/
def line (s : Tx) : Nat := till 10 s
/-- a word's length -/
def wordN (s : Tx) : Nat := (s.takeWhile fun c => !decide (c ∈ Lend)).length
/-- a string's token: its sort, its length -/
def strTok (s : Tx) : Str × Nat := if 34 ∈ (s.take (line s)).drop 1 then (if till 34 (s.drop 1) ≤ 100 then "string" else "wrong", till 34 (s.drop 1) + 2) else ("wrong", line s)
def wordTok (s : Tx) : Str × Nat := if s.take (wordN s) = [35] ∧ s[wordN s]? = some 39 then ("sign", wordN s + 1) else (sortOf (s.take (wordN s)), wordN s)
def tokOf : Tx → Str × Nat
  | [] => ("wrong", 0)
  | c :: r => if c = 40 ∨ c = 41 ∨ c = 39 then ("sign", 1) else if c = 34 then strTok (c :: r) else wordTok (c :: r)
theorem tokOf_cons (c : Nat) (r : Tx) : tokOf (c :: r) = if c = 40 ∨ c = 41 ∨ c = 39 then (("sign" : Str), 1) else if c = 34 then strTok (c :: r) else wordTok (c :: r) := rfl
abbrev Tok3 := Str × Nat × Nat
def lex : Nat → Nat → Tx → List Tok3
  | 0, _, _ => []
  | _ + 1, _, [] => []
  | f + 1, p, c :: r => if c = 32 ∨ c = 10 then lex f (p + 1) r else if c = 59 then lex f (p + line (c :: r)) ((c :: r).drop (line (c :: r)))
    else ((tokOf (c :: r)).1, p, p + (tokOf (c :: r)).2) :: lex f (p + (tokOf (c :: r)).2) ((c :: r).drop (tokOf (c :: r)).2)
theorem wordN_pos {c : Nat} {r : Tx} (h : c ∉ Lend) : 0 < wordN (c :: r) := by
  unfold wordN
  rw [List.takeWhile_cons, if_pos (by simp [h])]
  simp
theorem wordN_le (s : Tx) : wordN s ≤ s.length := (List.takeWhile_sublist _).length_le
theorem line_pos {c : Nat} {r : Tx} (h : c ≠ 10) : 0 < line (c :: r) := by
  unfold line till
  rw [List.takeWhile_cons, if_pos (by simpa using h)]
  simp
theorem line_le (s : Tx) : line s ≤ s.length := till_le 10 s
theorem strTok_pos {r : Tx} : 0 < (strTok (34 :: r)).2 := by
  unfold strTok
  split
  · show 0 < _ + 2; omega
  · exact line_pos (by decide)
theorem till_lt_mem {c : Nat} {s : Tx} (h : c ∈ s) : till c s < s.length := by
  have e := till_mem h
  rcases Nat.lt_or_ge (till c s) s.length with z | z
  · exact z
  · rw [List.getElem?_eq_none z] at e; cases e
theorem strTok_le {r : Tx} : (strTok (34 :: r)).2 ≤ (34 :: r).length := by
  unfold strTok
  split
  · rename_i h
    have h2 : 34 ∈ r := by
      have := List.mem_of_mem_drop h
      have q : ((34 :: r).take (line (34 :: r))).drop 1 = r.take (line (34 :: r) - 1) := by
        rw [List.drop_take]; simp
      rw [q] at h
      exact List.mem_of_mem_take h
    have := till_lt_mem h2
    show till 34 r + 2 ≤ r.length + 1
    omega
  · exact line_le _
theorem tok_pos {c : Nat} {r : Tx} (h1 : c ≠ 32) (h2 : c ≠ 10) (h3 : c ≠ 59) : 0 < (tokOf (c :: r)).2 := by
  rw [tokOf_cons]
  split
  · show 0 < 1; omega
  · rename_i h
    split
    · rename_i h4; subst h4; exact strTok_pos
    · rename_i h4
      have : c ∉ Lend := by simp [Lend]; omega
      have := wordN_pos (r := r) this
      unfold wordTok
      split
      · show 0 < _ + 1; omega
      · exact this
theorem tok_le {c : Nat} {r : Tx} (h1 : c ≠ 32) (h2 : c ≠ 10) (h3 : c ≠ 59) : (tokOf (c :: r)).2 ≤ (c :: r).length := by
  rw [tokOf_cons]
  split
  · simp
  · split
    · rename_i h4; subst h4; exact strTok_le
    · unfold wordTok
      split
      · rename_i h
        have e := h.2
        rcases Nat.lt_or_ge (wordN (c :: r)) (c :: r).length with z | z
        · exact z
        · rw [List.getElem?_eq_none z] at e; cases e
      · exact wordN_le _
/-- more fuel than signs changes nothing -/
theorem lex_fuel : ∀ (f g p : Nat) (s : Tx), s.length < f → s.length < g → lex f p s = lex g p s
  | 0, _, _, _, h, _ => absurd h (by omega)
  | _ + 1, 0, _, _, _, h => absurd h (by omega)
  | f + 1, g + 1, p, [], _, _ => rfl
  | f + 1, g + 1, p, c :: r, hf, hg => by
    rw [List.length_cons] at hf hg
    unfold lex
    by_cases h1 : c = 32 ∨ c = 10
    · rw [if_pos h1, if_pos h1]; exact lex_fuel f g _ _ (by omega) (by omega)
    · rw [if_neg h1, if_neg h1]
      by_cases h2 : c = 59
      · rw [if_pos h2, if_pos h2]
        have := line_pos (c := c) (r := r) (by omega)
        exact lex_fuel f g _ _ (by rw [List.length_drop, List.length_cons]; omega) (by rw [List.length_drop, List.length_cons]; omega)
      · rw [if_neg h2, if_neg h2]
        have := tok_pos (c := c) (r := r) (by omega) (by omega) h2
        rw [lex_fuel f g _ _ (by rw [List.length_drop, List.length_cons]; omega) (by rw [List.length_drop, List.length_cons]; omega)]
def toksOf (l : Tx) : List Tok3 := lex (l.length + 1) 0 l
theorem lex_len : ∀ (f p : Nat) (s : Tx), (lex f p s).length ≤ s.length
  | 0, _, _ => Nat.zero_le _
  | _ + 1, _, [] => Nat.zero_le _
  | f + 1, p, c :: r => by
    unfold lex
    by_cases h1 : c = 32 ∨ c = 10
    · rw [if_pos h1]; have := lex_len f (p + 1) r; rw [List.length_cons]; omega
    · rw [if_neg h1]
      by_cases h2 : c = 59
      · rw [if_pos h2]; have := lex_len f (p + line (c :: r)) ((c :: r).drop (line (c :: r))); rw [List.length_drop] at this; omega
      · rw [if_neg h2, List.length_cons]
        have := lex_len f (p + (tokOf (c :: r)).2) ((c :: r).drop (tokOf (c :: r)).2)
        have := tok_pos (c := c) (r := r) (by omega) (by omega) h2
        rw [List.length_drop, List.length_cons] at *
        omega
/-! ### .. and its data -/
structure Fr where
  sgn : Bool
  pl : Nat
  parts : List D
structure RS where
  forms : List D
  pend : List Fr
  starts : List Nat
def lsD (ds : List D) (pl : Nat) : D := .tup [.str "list", .tup ds, .int pl]
/-- a datum is put where it belongs -/
def finF : List D → List Fr → D → List D × List Fr
  | fs, [], d => (fs ++ [d], [])
  | fs, f :: r, d => if f.sgn = true then finF fs r (lsD (f.parts ++ [d]) f.pl) else (fs, { f with parts := f.parts ++ [d] } :: r)
def RS.fin (s : RS) (d : D) : RS := { s with forms := (finF s.forms s.pend d).1, pend := (finF s.forms s.pend d).2 }
def RS.place (s : RS) (st : Nat) : RS := { s with starts := s.starts ++ [st] }
def RS.open_ (s : RS) (sg : Bool) (st : Nat) : Except Nat RS := if s.pend.length = 60 then .error st else .ok { s with starts := s.starts ++ [st], pend := ⟨sg, s.starts.length, []⟩ :: s.pend }
/-- a part more for the list that is not ended -/
def RS.part (s : RS) (d : D) : RS := match s.pend with
  | [] => s
  | f :: r => { s with pend := { f with parts := f.parts ++ [d] } :: r }
def signF (s : RS) (w : Tx) (st : Nat) : Except Nat RS := if w = [40] then s.open_ false st else if w = [41] then
    match s.pend with
    | [] => .error st
    | f :: r => if f.sgn = true then .error st else .ok (RS.fin { s with pend := r } (lsD f.parts f.pl))
  else match s.open_ true st with
    | .error e => .error e
    | .ok s1 => .ok ((s1.place st).part (.tup [.str "name", .str (if w = [39] then "quote" else "syntax"), .int s1.starts.length]))
/-- the int of a number's word -/
def numV (w : Tx) : Int := if w.take 1 = [45] then -((NumText.digitsVal (w.drop 1) : Nat) : Int) else ((NumText.digitsVal w : Nat) : Int)
def valF (sort : Str) (w : Tx) : Str × D := if sort = "string" then ("text", .str (S ((w.drop 1).take (w.length - 2)))) else if sort = "number" then ("number", .int (numV w)) else if sort = "flag" then ("flag", .bl (decide (w = [35, 116]))) else if sort = "name" then ("name", .str (S w)) else (sort, .non)
def takeF (l : Tx) (s : RS) (t : Tok3) : Except Nat RS := if t.1 = "wrong" then .error t.2.1 else if t.1 = "sign" then signF s ((l.drop t.2.1).take (t.2.2 - t.2.1)) t.2.1 else
  .ok ((s.place t.2.1).fin (.tup [.str (valF t.1 ((l.drop t.2.1).take (t.2.2 - t.2.1))).1, (valF t.1 ((l.drop t.2.1).take (t.2.2 - t.2.1))).2, .int s.starts.length]))
def takeAll (l : Tx) : List Tok3 → RS → Except Nat RS
  | [], s => .ok s
  | t :: r, s => match takeF l s t with
    | .error e => .error e
    | .ok s1 => takeAll l r s1
def readM (l : Tx) : Except Nat RS := if 6000 < l.length then .error 6000 else match takeAll l (toksOf l) ⟨[], [], []⟩ with
  | .error e => .error e
  | .ok s => if s.pend = [] then .ok s else .error l.length
end Y
namespace Y
open PySem PySem.Spec L2 SX
/-! ### list(a text) -/
section
variable {X : Cx}
theorem call_list_signs (hc : X.calm = true) : CallR X (.type "list") (fun xs H Q => ∃ z : Str, xs = [.str z] ∧ z.length ≤ sizeLine ∧ ∀ l, H l = none → Q (.ref l) (upd H l (.lst (z.cps.toList.map fun c => V.str ⟨#[c]⟩)))) := by
  intro pins s σ H xs us Q I r h
  obtain ⟨z, rfl, hz, q⟩ := h
  obtain ⟨u, rfl, t, rfl⟩ := vals1 r
  refine call_list_str (I.ok.hd hc) z t (fun h' tk acc' c' kp e hacc => ?_) hz
  have hv : Vals (z.cps.toList.map fun c => V.str ⟨#[c]⟩) acc'.toList := by
    have len : acc'.toList.length = z.cps.toList.length := by rw [Array.length_toList, hacc.1, Array.length_toList]
    have all : ∀ (i : Nat) (v : Value), acc'.toList[i]? = some v → ∃ c u, z.cps.toList[i]? = some c ∧ v = .str ⟨#[c]⟩ u := fun i v hv => by
      obtain ⟨c, u, h1, h2⟩ := hacc.2 i v (by simpa using hv)
      exact ⟨c, u, by simpa using h1, h2⟩
    generalize acc'.toList = vs at len all
    generalize z.cps.toList = cs at len all
    induction cs generalizing vs with
    | nil => cases vs with
      | nil => exact .nil
      | cons => simp at len
    | cons c cs ih => cases vs with
      | nil => simp at len
      | cons v vs =>
        obtain ⟨d, u, h1, rfl⟩ := all 0 v rfl
        cases h1
        exact .cons ⟨u, rfl⟩ (ih vs (by simpa using len) fun i w hw => all (i + 1) w hw)
  have hl : (z.cps.toList.map fun c => V.str ⟨#[c]⟩).length ≤ sizeLine := by rw [List.length_map, Array.length_toList]; exact hz
  exact ⟨.ref s.heap.objs.size, _, I.laid (t' := tk) kp (Nat.le_refl _) (show ObjOk X.prog X.w _ h' _ (.lst _) from ⟨hl, acc'.toList, c', hv, by simpa using e⟩), rfl, q _ (I.hok.fresh (Nat.le_refl _))⟩
def gListS : GC := fun ms G => match ms with
  | [.im (.str x)] => x.length ≤ sizeLine ∧ G (.ls (x.cps.toList.map fun c => .str ⟨#[c]⟩))
  | _ => False
theorem listS_ok (hc : X.calm = true) : CallG X (.type "list") gListS := by
  refine callG (call_list_signs hc) fun vs H k h => ?_
  obtain ⟨o, ms, G, mu, v1, h, q⟩ := h
  unfold gListS at h
  split at h
  · rename_i x
    obtain ⟨v, rfl, w1⟩ := pv1 v1
    refine ⟨x, by rw [w1.str], h.1, fun l hl => q _ _ (.ls (x.cps.toList.map fun c => .str ⟨#[c]⟩)) (.new hl) ⟨l, _, rfl, hl, rfl, ?_⟩ h.2⟩
    induction x.cps.toList with
    | nil => exact .nil
    | cons c r ih => exact .cons (.str _) ih
  · exact h.elim
end
end Y
namespace Y
open PySem PySem.Spec L2 SX
/-! ### a text or a list times an int -/
def repL {α : Type} (t : List α) (n : Int) : List α := (List.replicate n.toNat t).flatten
theorem repL_len {α : Type} (t : List α) (n : Int) : (repL t n).length = t.length * n.toNat := by
  unfold repL
  induction n.toNat with
  | zero => simp
  | succ k ih => rw [List.replicate_succ, List.flatten_cons, List.length_append, ih, Nat.mul_succ]; omega
theorem foldl_app (a : Array Nat) : ∀ (k : Nat) (acc : Array Nat), ((List.replicate k a).foldl (· ++ ·) acc).toList = acc.toList ++ (List.replicate k a.toList).flatten
  | 0, acc => by simp
  | k + 1, acc => by
    rw [List.replicate_succ, List.foldl_cons, foldl_app a k]
    simp [List.replicate_succ]
theorem mul_S (t : Tx) (n : Int) : Txt.mul (S t) n = S (repL t n) := by
  have h : ∀ x y : Str, x.cps.toList = y.cps.toList → x = y := fun x y e => by
    obtain ⟨⟨x⟩⟩ := x; obtain ⟨⟨y⟩⟩ := y
    exact congrArg (fun z => (⟨⟨z⟩⟩ : Str)) e
  refine h _ _ ?_
  rw [cps_S]
  unfold Txt.mul repL
  by_cases h1 : n < 1
  · rw [if_pos h1, show n.toNat = 0 by omega]; rfl
  · rw [if_neg h1]
    split
    · rename_i hc
      rw [Bool.or_eq_true, beq_iff_eq, beq_iff_eq] at hc
      rw [cps_S]
      rcases hc with e | e
      · subst e; simp
      · have e : t = [] := List.eq_nil_of_length_eq_zero (by rw [S_len] at e; exact e)
        subst e
        induction n.toNat with
        | zero => rfl
        | succ k ih => rw [List.replicate_succ, List.flatten_cons, List.nil_append]; exact ih
    · rw [foldl_app]; rfl
section
variable {X : Cx}
theorem op_mulStr : OpR X (binaryOp .Mult) (fun x y H Q => ∃ (t : Str) (n : Int), x = .str t ∧ y = .int n ∧ t.length * n.toNat ≤ sizeLine ∧ -1000000 ≤ n ∧ n ≤ 1000000 ∧ Q (.str (Txt.mul t n)) H) := by
  intro pins s σ H x y v u Q I rx ry h
  obtain ⟨i, n, rfl, rfl, hz, lo, hi, q⟩ := h
  obtain ⟨t, rfl⟩ := rx
  obtain ⟨t', rfl⟩ := ry
  rw [sizeLine_eq] at hz
  exact SB.mul (PyProof.Rows.mulOk_of i.length n.toNat (Nat.le_refl _) (by omega) (by omega) (by omega) hz) fun t' k => ⟨.str _, H, I.tok _, ⟨_, rfl⟩, q⟩
def gMulS : G2 := fun m n G => match m, n with
  | .im (.str x), .im (.int n) => x.length * n.toNat ≤ sizeLine ∧ -1000000 ≤ n ∧ n ≤ 1000000 ∧ G (.im (.str (Txt.mul x n)))
  | .im (.int i), .im (.int j) => CMulW i j ∧ G (.im (.int (i * j)))
  | m, .im (.int n) => match m.lst? with
    | some a => a.length * n.toNat ≤ sizeLine ∧ -1000000 ≤ n ∧ n ≤ 1000000 ∧ G (.ls (repL a n))
    | _ => False
  | _, _ => False
theorem Dats.rep {K : PySem.W.Frag} {o : Own} {H : Hp} {xs : List V} {ds : List D} (h : Dats K o H xs ds) (n : Int) : Dats K o H (repL xs n) (repL ds n) := by
  unfold repL
  induction n.toNat with
  | zero => exact .nil
  | succ k ih => rw [List.replicate_succ, List.replicate_succ, List.flatten_cons, List.flatten_cons]; exact h.append ih
theorem mulS_ok : OpG X (binaryOp .Mult) gMulS := by
  refine opG ((op_mulStr.or op_mulW).or op_rep) fun x y H k h => ?_
  obtain ⟨o, m1, m2, G, mu, v1, v2, h, q⟩ := h
  unfold gMulS at h
  split at h
  · rename_i x n
    exact .inl (.inl ⟨x, n, v1.str, v2.int, h.1, h.2.1, h.2.2.1, qim q (.str _) h.2.2.2⟩)
  · rename_i i j
    exact .inl (.inr ⟨i, j, v1.int, v2.int, h.1, qim q (.int _) h.2⟩)
  · rename_i n _ _
    split at h
    · rename_i as e1
      obtain ⟨a, xs, rfl, ta, da⟩ := v1.lst e1
      refine .inr ⟨a, n, xs, rfl, v2.int, ta, by omega, by omega, by rw [da.length]; exact h.1, fun p hp => ?_⟩
      exact q (.ref p) _ (.ls (repL as n)) (.new hp) ⟨p, _, rfl, hp, rfl, da.rep n⟩ h.2.2.2
    · exact h.elim
  · exact h.elim
end
end Y
namespace Y
open PySem PySem.Spec L2
section
variable {Pg : Program} {w : World} {K : PySem.W.Frag} {mg : Str → Option Value} {base : Heap}
/-! printed by gen.py -/
abbrev pr : Program := PySem.Challenge.pw_wherewritten_k04_bounds_of_texts
def topS (i : Nat) : Stmt := pr.main.body.getD i (.Pass ⟨0, 0, 0, 0⟩)
def tab_FLAGS : List (Str × D) := [("#t", .bl true), ("#f", .bl false)]
def tup_SPECIAL_NAMES : List D := [.str "...", .str "_"]
abbrev st_ReadError___init__ : Stmt := inClass (topS 2) 0
theorem in_ReadError {k : Nat} (Ex : ExcAt Pg K mg "ReadError" "ReadError.__init__" st_ReadError___init__ ["self", "at"] ["at"]) (z_super : mg "super" = none) : FnOk Pg w K mg base CX0 (k + 1) Ex.f Ex.sup.fd ["self", "at"] (spI K Ex.C ["self", "at", "__class__"] ["self", "at"] (tCons (tVar 1) tNil) (tOst K "at" (tVar 0) (tVar 1))) :=
  init1 (N := ["self", "at", "__class__"]) Ex.sup (NdefX.nscope_by (by decide +kernel)) rfl ⟨_, rfl, rfl⟩ rfl z_super

/-! ### are_figures -/
abbrev st_are_figures : Stmt := topS 14
theorem sc_are_figures : FnScope ["text", "sign"] ["text"] (defScope st_are_figures) := ⟨rfl, rfl, rfl, by decide +kernel, rfl, by decide +kernel, by decide +kernel⟩
def t_are_figures : TSX :=
    sRet (tAndX (tBin (gEqs true) (tNm 0) (tIm (.str ""))) (tCl (gAll fun bs => bs.all id) (lCons (tLcX (iSeq (tNm 0)) (.one 1) (qYes) (tBin (gIns false) (tNm 1) (tIm (.str "0123456789"))) [1]) (lNil))))
theorem ok_are_figures {k : Nat} {F : TF} (Ds : DefAt K mg "are_figures" st_are_figures ["text"]) (z_all : mg "all" = none) {gt_FIGURES : Tok} (g_FIGURES : mg "FIGURES" = some (.str "0123456789" gt_FIGURES))
    (hB : Body F 2 1 fun _ => t_are_figures) : FnD Pg w K mg base Ds (k + 1) F := by
  refine fn_ok Ds.fu sc_are_figures hB fun cdv A outer s H E c hr => ?_
  have nd := sc_are_figures.nd
  exact ds_one (ds_ret (de_and (de_cmp (ne_ok (hu64 hr)) (de_var 0) (de_str)) (de_one (de_callB (all_ok rfl) (by rfl) z_all (by decide +kernel) (da_cons (de_lc (own := [("sign", 1)]) (bd := .one 1) rfl nd (di_seq (de_var 0)) (by kernel_rfl) (fun _ _ _ _ _ => pg_name (i := 1) nd rfl (by first | exact Or.inl rfl | exact Or.inr rfl)) (fun _ _ _ _ _ => dq_nil) (fun _ _ _ _ _ => de_cmp (in_ok (hu65 hr)) (de_var 1) (de_glob (v := .str "0123456789") (by rfl) g_FIGURES ⟨_, rfl⟩ (fun _ _ => .str _)))) (da_nil))))))

/-! ### is_number_word -/
abbrev st_is_number_word : Stmt := topS 15
theorem sc_is_number_word : FnScope ["word", "figures"] ["word"] (defScope st_is_number_word) := ⟨rfl, rfl, rfl, by decide +kernel, rfl, by decide +kernel, by decide +kernel⟩
def t_is_number_word (F_are_figures : TF) : TSX :=
    sSeq (sAsg 1 (tIfX (tTst (tBin (gEqs2 false) (tSlc (tNm 0) (pNo) (pSo (tIm (.int 1)))) (tIm (.str "-")))) (tSlc (tNm 0) (pSo (tIm (.int 1))) (pNo)) (tNm 0)))
    (sSeq (sIf (tOrQ (tNotQ (tTru (tCall ex0 F_are_figures 1 (lCons (tNm 1) (lNil))))) (tTst (tBin (gGt) (tCl (gLen) (lCons (tNm 1) (lNil))) (tIm (.int 30))))) (sRet (tIm (.bl false))) (sNil))
    (sRet (tOrX (tBin (gEqs2 false) (tNm 0) (tIm (.str "0"))) (tBin (gEqs true) (tBin gIx (tNm 1) (tIm (.int 0))) (tIm (.str "0"))))))
theorem ok_is_number_word {k : Nat} {F : TF} (Ds : DefAt K mg "is_number_word" st_is_number_word ["word"]) (z_len : mg "len" = none) {gt_MOST_FIGURES : Tok} (g_MOST_FIGURES : mg "MOST_FIGURES" = some (.int 30 gt_MOST_FIGURES)) {F_are_figures : TF} {k_are_figures : Nat} (D_are_figures : DefAt K mg "are_figures" st_are_figures ["text"]) (G_are_figures : FnD Pg w K mg base D_are_figures k_are_figures F_are_figures) (h_are_figures : k_are_figures ≤ k)
    (hB : Body F 2 1 fun _ => t_is_number_word F_are_figures) : FnD Pg w K mg base Ds (k + 1) F := by
  refine fn_ok Ds.fu sc_is_number_word hB fun cdv A outer s H E c hr => ?_
  have nd := sc_is_number_word.nd
  exact ds_cons (ds_set (i := 1) nd (de_if (dt_cmp (eq2_ok (hu64 hr)) (de_slice (de_var 0) (do_no) (do_so (de_int))) (de_str)) (de_slice (de_var 0) (do_so (de_int)) (do_no)) (de_var 0)))
    (ds_cons (ds_if (dw_pt (dw_or (dt_not (dt_tru (de_call G_are_figures (hr.mono h_are_figures) (by rfl) D_are_figures.mg D_are_figures.fu.kp D_are_figures.bd (da_cons (de_var 1) (da_nil))))) (dw_or1 (dt_cmp (gt_ok) (de_callB (len_ok) (by rfl) z_len (by decide +kernel) (da_cons (de_var 1) (da_nil))) (de_glob (v := .int 30) (by rfl) g_MOST_FIGURES ⟨_, rfl⟩ (fun _ _ => .int _)))))) (ds_one (ds_ret (de_bl))) (ds_nil))
    (ds_one (ds_ret (de_or (de_cmp (eq2_ok (hu64 hr)) (de_var 0) (de_str)) (de_one (de_cmp (ne_ok (hu64 hr)) (de_ix (hu1 hr) (de_var 1) (de_int)) (de_str)))))))

/-! ### is_name -/
abbrev st_is_name : Stmt := topS 16
theorem sc_is_name : FnScope ["text", "sign", "first"] ["text"] (defScope st_is_name) := ⟨rfl, rfl, rfl, by decide +kernel, rfl, by decide +kernel, by decide +kernel⟩
def t_is_name : TSX :=
    sSeq (sIf (tOrQ (tNotQ (tTst (tChn (gLe) (gLe) (tIm (.int 1)) (tCl (gLen) (lCons (tNm 0) (lNil))) (tIm (.int 20))))) (tTst (tOn (fInT false tup_SPECIAL_NAMES) (tNm 0)))) (sRet (tIm (.bl false))) (sNil))
    (sSeq (sIf (tNotQ (tTru (tCl (gAll fun bs => bs.all id) (lCons (tLcX (iSeq (tNm 0)) (.one 1) (qYes) (tBin (gIns false) (tNm 1) (tIm (.str "abcdefghijklmnopqrstuvwxyz0123456789!*+-./:<=>?_"))) [1]) (lNil))))) (sRet (tIm (.bl false))) (sNil))
    (sSeq (sAsg 2 (tIfX (tTst (tBin (gEqs2 false) (tBin gIx (tNm 0) (tIm (.int 0))) (tIm (.str "-")))) (tSlc (tNm 0) (pSo (tIm (.int 1))) (pSo (tIm (.int 2)))) (tBin gIx (tNm 0) (tIm (.int 0)))))
    (sRet (tOrX (tBin (gIns true) (tNm 2) (tIm (.str "0123456789"))) (tBin (gEqs2 false) (tNm 2) (tIm (.str "")))))))
theorem ok_is_name {k : Nat} {F : TF} (Ds : DefAt K mg "is_name" st_is_name ["text"]) (z_len : mg "len" = none) (z_all : mg "all" = none) {gt_LONGEST_NAME : Tok} (g_LONGEST_NAME : mg "LONGEST_NAME" = some (.int 20 gt_LONGEST_NAME)) {gt_NAME_SIGNS : Tok} (g_NAME_SIGNS : mg "NAME_SIGNS" = some (.str "abcdefghijklmnopqrstuvwxyz0123456789!*+-./:<=>?_" gt_NAME_SIGNS)) {gt_FIGURES : Tok} (g_FIGURES : mg "FIGURES" = some (.str "0123456789" gt_FIGURES)) (g_SPECIAL_NAMES : GTup K mg "SPECIAL_NAMES" tup_SPECIAL_NAMES)
    (hB : Body F 3 1 fun _ => t_is_name) : FnD Pg w K mg base Ds (k + 1) F := by
  refine fn_ok Ds.fu sc_is_name hB fun cdv A outer s H E c hr => ?_
  have nd := sc_is_name.nd
  exact ds_cons (ds_if (dw_pt (dw_or (dt_not (dt_chn (le_ok) (le_ok) (de_int) (de_callB (len_ok) (by rfl) z_len (by decide +kernel) (da_cons (de_var 0) (da_nil))) (de_glob (v := .int 20) (by rfl) g_LONGEST_NAME ⟨_, rfl⟩ (fun _ _ => .int _)))) (dw_or1 (dt_inT (hu65 hr) (by rfl) g_SPECIAL_NAMES (de_var 0) (by decide +kernel))))) (ds_one (ds_ret (de_bl))) (ds_nil))
    (ds_cons (ds_if (dt_not (dt_tru (de_callB (all_ok rfl) (by rfl) z_all (by decide +kernel) (da_cons (de_lc (own := [("sign", 1)]) (bd := .one 1) rfl nd (di_seq (de_var 0)) (by kernel_rfl) (fun _ _ _ _ _ => pg_name (i := 1) nd rfl (by first | exact Or.inl rfl | exact Or.inr rfl)) (fun _ _ _ _ _ => dq_nil) (fun _ _ _ _ _ => de_cmp (in_ok (hu65 hr)) (de_var 1) (de_glob (v := .str "abcdefghijklmnopqrstuvwxyz0123456789!*+-./:<=>?_") (by rfl) g_NAME_SIGNS ⟨_, rfl⟩ (fun _ _ => .str _)))) (da_nil))))) (ds_one (ds_ret (de_bl))) (ds_nil))
    (ds_cons (ds_set (i := 2) nd (de_if (dt_cmp (eq2_ok (hu64 hr)) (de_ix (hu1 hr) (de_var 0) (de_int)) (de_str)) (de_slice (de_var 0) (do_so (de_int)) (do_so (de_int))) (de_ix (hu1 hr) (de_var 0) (de_int))))
    (ds_one (ds_ret (de_or (de_cmp (notin_ok (hu65 hr)) (de_var 2) (de_glob (v := .str "0123456789") (by rfl) g_FIGURES ⟨_, rfl⟩ (fun _ _ => .str _))) (de_one (de_cmp (eq2_ok (hu64 hr)) (de_var 2) (de_str))))))))

/-! ### sort_of -/
abbrev st_sort_of : Stmt := topS 17
theorem sc_sort_of : FnScope ["word"] ["word"] (defScope st_sort_of) := ⟨rfl, rfl, rfl, by decide +kernel, rfl, by decide +kernel, by decide +kernel⟩
def t_sort_of (F_is_number_word : TF) (F_is_name : TF) : TSX :=
    sSeq (sIf (tTru (tCall ex0 F_is_number_word 1 (lCons (tNm 0) (lNil)))) (sRet (tIm (.str "number"))) (sNil))
    (sSeq (sIf (tTst (tOn (fInD false tab_FLAGS) (tNm 0))) (sRet (tIm (.str "flag"))) (sNil))
    (sSeq (sIf (tTst (tBin (gEqs2 false) (tNm 0) (tIm (.str "...")))) (sRet (tIm (.str "dots"))) (sNil))
    (sSeq (sIf (tTst (tBin (gEqs2 false) (tNm 0) (tIm (.str "_")))) (sRet (tIm (.str "wild"))) (sNil))
    (sRet (tIfX (tTru (tCall ex0 F_is_name 1 (lCons (tNm 0) (lNil)))) (tIm (.str "name")) (tIm (.str "wrong")))))))
theorem ok_sort_of {k : Nat} {F : TF} (Ds : DefAt K mg "sort_of" st_sort_of ["word"]) (g_FLAGS : GTab K w mg "FLAGS" tab_FLAGS) {F_is_number_word : TF} {k_is_number_word : Nat} (D_is_number_word : DefAt K mg "is_number_word" st_is_number_word ["word"]) (G_is_number_word : FnD Pg w K mg base D_is_number_word k_is_number_word F_is_number_word) (h_is_number_word : k_is_number_word ≤ k) {F_is_name : TF} {k_is_name : Nat} (D_is_name : DefAt K mg "is_name" st_is_name ["text"]) (G_is_name : FnD Pg w K mg base D_is_name k_is_name F_is_name) (h_is_name : k_is_name ≤ k)
    (hB : Body F 1 1 fun _ => t_sort_of F_is_number_word F_is_name) : FnD Pg w K mg base Ds (k + 1) F := by
  refine fn_ok Ds.fu sc_sort_of hB fun cdv A outer s H E c hr => ?_
  have nd := sc_sort_of.nd
  exact ds_cons (ds_if (dt_tru (de_call G_is_number_word (hr.mono h_is_number_word) (by rfl) D_is_number_word.mg D_is_number_word.fu.kp D_is_number_word.bd (da_cons (de_var 0) (da_nil)))) (ds_one (ds_ret (de_str))) (ds_nil))
    (ds_cons (ds_if (dt_inG (by rfl) g_FLAGS (de_var 0)) (ds_one (ds_ret (de_str))) (ds_nil))
    (ds_cons (ds_if (dt_cmp (eq2_ok (hu64 hr)) (de_var 0) (de_str)) (ds_one (ds_ret (de_str))) (ds_nil))
    (ds_cons (ds_if (dt_cmp (eq2_ok (hu64 hr)) (de_var 0) (de_str)) (ds_one (ds_ret (de_str))) (ds_nil))
    (ds_one (ds_ret (de_if (dt_tru (de_call G_is_name (hr.mono h_is_name) (by rfl) D_is_name.mg D_is_name.fu.kp D_is_name.bd (da_cons (de_var 0) (da_nil)))) (de_str) (de_str)))))))

/-! ### end_of_line -/
abbrev st_end_of_line : Stmt := topS 18
theorem sc_end_of_line : FnScope ["text", "start", "end"] ["text", "start"] (defScope st_end_of_line) := ⟨rfl, rfl, rfl, by decide +kernel, rfl, by decide +kernel, by decide +kernel⟩
def t_end_of_line : TSX :=
    sSeq (sAsg 2 (tSm gFind (tNm 0) (lCons (tIm (.str "\n")) (lCons (tNm 1) (lNil)))))
    (sRet (tIfX (tTst (tBin (gLt) (tNm 2) (tIm (.int 0)))) (tCl (gLen) (lCons (tNm 0) (lNil))) (tNm 2)))
theorem ok_end_of_line {k : Nat} {F : TF} (Ds : DefAt K mg "end_of_line" st_end_of_line ["text", "start"]) (z_len : mg "len" = none)
    (hB : Body F 3 2 fun _ => t_end_of_line) : FnD Pg w K mg base Ds (k + 1) F := by
  refine fn_ok Ds.fu sc_end_of_line hB fun cdv A outer s H E c hr => ?_
  have nd := sc_end_of_line.nd
  exact ds_cons (ds_set (i := 2) nd (de_sm PySem.F.slot_str_find PySem.F.type_str_find find_ok (de_var 0) (da_cons (de_str) (da_cons (de_var 1) (da_nil)))))
    (ds_one (ds_ret (de_if (dt_cmp (lt_ok) (de_var 2) (de_int)) (de_callB (len_ok) (by rfl) z_len (by decide +kernel) (da_cons (de_var 0) (da_nil))) (de_var 2))))

/-! ### string_token -/
abbrev st_string_token : Stmt := topS 19
theorem sc_string_token : FnScope ["text", "start", "line_end", "end"] ["text", "start"] (defScope st_string_token) := ⟨rfl, rfl, rfl, by decide +kernel, rfl, by decide +kernel, by decide +kernel⟩
def t_string_token (F_end_of_line : TF) : TSX :=
    sSeq (sAsg 2 (tCall ex0 F_end_of_line 2 (lCons (tNm 0) (lCons (tNm 1) (lNil)))))
    (sSeq (sAsg 3 (tSm gFind (tNm 0) (lCons (tIm (.str "\"")) (lCons (tBin gAdd (tNm 1) (tIm (.int 1))) (lCons (tNm 2) (lNil))))))
    (sSeq (sIf (tTst (tBin (gLt) (tNm 3) (tIm (.int 0)))) (sRet (tTp (lCons (tIm (.str "wrong")) (lCons (tNm 1) (lCons (tNm 2) (lNil)))))) (sNil))
    (sRet (tTp (lCons (tIfX (tTst (tBin (gLe) (tBin gSub (tBin gSub (tNm 3) (tNm 1)) (tIm (.int 1))) (tIm (.int 100)))) (tIm (.str "string")) (tIm (.str "wrong"))) (lCons (tNm 1) (lCons (tBin gAdd (tNm 3) (tIm (.int 1))) (lNil))))))))
theorem ok_string_token {k : Nat} {F : TF} (Ds : DefAt K mg "string_token" st_string_token ["text", "start"]) {gt_LONGEST_STRING : Tok} (g_LONGEST_STRING : mg "LONGEST_STRING" = some (.int 100 gt_LONGEST_STRING)) {F_end_of_line : TF} {k_end_of_line : Nat} (D_end_of_line : DefAt K mg "end_of_line" st_end_of_line ["text", "start"]) (G_end_of_line : FnD Pg w K mg base D_end_of_line k_end_of_line F_end_of_line) (h_end_of_line : k_end_of_line ≤ k)
    (hB : Body F 4 2 fun _ => t_string_token F_end_of_line) : FnD Pg w K mg base Ds (k + 1) F := by
  refine fn_ok Ds.fu sc_string_token hB fun cdv A outer s H E c hr => ?_
  have nd := sc_string_token.nd
  exact ds_cons (ds_set (i := 2) nd (de_call G_end_of_line (hr.mono h_end_of_line) (by rfl) D_end_of_line.mg D_end_of_line.fu.kp D_end_of_line.bd (da_cons (de_var 0) (da_cons (de_var 1) (da_nil)))))
    (ds_cons (ds_set (i := 3) nd (de_sm PySem.F.slot_str_find PySem.F.type_str_find find_ok (de_var 0) (da_cons (de_str) (da_cons (de_op add_ok (de_var 1) (de_int)) (da_cons (de_var 2) (da_nil))))))
    (ds_cons (ds_if (dt_cmp (lt_ok) (de_var 3) (de_int)) (ds_one (ds_ret (de_tup (da_cons (de_str) (da_cons (de_var 1) (da_cons (de_var 2) (da_nil))))))) (ds_nil))
    (ds_one (ds_ret (de_tup (da_cons (de_if (dt_cmp (le_ok) (de_op sub_ok (de_op sub_ok (de_var 3) (de_var 1)) (de_int)) (de_glob (v := .int 100) (by rfl) g_LONGEST_STRING ⟨_, rfl⟩ (fun _ _ => .int _))) (de_str) (de_str)) (da_cons (de_var 1) (da_cons (de_op add_ok (de_var 3) (de_int)) (da_nil)))))))))

/-! ### word_token -/
abbrev st_word_token : Stmt := topS 20
theorem sc_word_token : FnScope ["text", "start", "end"] ["text", "start"] (defScope st_word_token) := ⟨rfl, rfl, rfl, by decide +kernel, rfl, by decide +kernel, by decide +kernel⟩
def b_word_token_1 (F_sort_of : TF) : TSX :=
    sAsg 2 (tBin gAdd (tNm 2) (tIm (.int 1)))
def t_word_token (F_sort_of : TF) : TSX :=
    sSeq (sAsg 2 (tNm 1))
    (sSeq (sWhile (tAndQ (tTst (tBin (gLt) (tNm 2) (tCl (gLen) (lCons (tNm 0) (lNil))))) (tTst (tBin (gIns true) (tBin gIx (tNm 0) (tNm 2)) (tIm (.str " \n()'\";"))))) (b_word_token_1 F_sort_of))
    (sSeq (sIf (tAndQ (tTst (tBin (gEqs2 false) (tSlc (tNm 0) (pSo (tNm 1)) (pSo (tNm 2))) (tIm (.str "#")))) (tTst (tBin (gEqs2 false) (tSlc (tNm 0) (pSo (tNm 2)) (pSo (tBin gAdd (tNm 2) (tIm (.int 1))))) (tIm (.str "'"))))) (sRet (tTp (lCons (tIm (.str "sign")) (lCons (tNm 1) (lCons (tBin gAdd (tNm 2) (tIm (.int 1))) (lNil)))))) (sNil))
    (sRet (tTp (lCons (tCall ex0 F_sort_of 1 (lCons (tSlc (tNm 0) (pSo (tNm 1)) (pSo (tNm 2))) (lNil))) (lCons (tNm 1) (lCons (tNm 2) (lNil))))))))
theorem ok_word_token {k : Nat} {F : TF} (Ds : DefAt K mg "word_token" st_word_token ["text", "start"]) (z_len : mg "len" = none) {gt_ENDS_OF_WORDS : Tok} (g_ENDS_OF_WORDS : mg "ENDS_OF_WORDS" = some (.str " \n()'\";" gt_ENDS_OF_WORDS)) {F_sort_of : TF} {k_sort_of : Nat} (D_sort_of : DefAt K mg "sort_of" st_sort_of ["word"]) (G_sort_of : FnD Pg w K mg base D_sort_of k_sort_of F_sort_of) (h_sort_of : k_sort_of ≤ k)
    (hB : Body F 3 2 fun _ => t_word_token F_sort_of) : FnD Pg w K mg base Ds (k + 1) F := by
  refine fn_ok Ds.fu sc_word_token hB fun cdv A outer s H E c hr => ?_
  have nd := sc_word_token.nd
  exact ds_cons (ds_set (i := 2) nd (de_var 1))
    (ds_cons (ds_while PassesOwn.never (dw_pt (dw_and (dt_cmp (lt_ok) (de_var 2) (de_callB (len_ok) (by rfl) z_len (by decide +kernel) (da_cons (de_var 0) (da_nil)))) (dw_and1 (dt_cmp (notin_ok (hu65 hr)) (de_ix (hu1 hr) (de_var 0) (de_var 2)) (de_glob (v := .str " \n()'\";") (by rfl) g_ENDS_OF_WORDS ⟨_, rfl⟩ (fun _ _ => .str _)))))) (ds_one (ds_set (i := 2) nd (de_op add_ok (de_var 2) (de_int)))))
    (ds_cons (ds_if (dw_pt (dw_and (dt_cmp (eq2_ok (hu64 hr)) (de_slice (de_var 0) (do_so (de_var 1)) (do_so (de_var 2))) (de_str)) (dw_and1 (dt_cmp (eq2_ok (hu64 hr)) (de_slice (de_var 0) (do_so (de_var 2)) (do_so (de_op add_ok (de_var 2) (de_int)))) (de_str))))) (ds_one (ds_ret (de_tup (da_cons (de_str) (da_cons (de_var 1) (da_cons (de_op add_ok (de_var 2) (de_int)) (da_nil))))))) (ds_nil))
    (ds_one (ds_ret (de_tup (da_cons (de_call G_sort_of (hr.mono h_sort_of) (by rfl) D_sort_of.mg D_sort_of.fu.kp D_sort_of.bd (da_cons (de_slice (de_var 0) (do_so (de_var 1)) (do_so (de_var 2))) (da_nil))) (da_cons (de_var 1) (da_cons (de_var 2) (da_nil)))))))))

/-! ### tokens -/
abbrev st_tokens : Stmt := topS 21
theorem sc_tokens : FnScope ["text", "found", "at", "sign", "token"] ["text"] (defScope st_tokens) := ⟨rfl, rfl, rfl, by decide +kernel, rfl, by decide +kernel, by decide +kernel⟩
def b_tokens_1 (F_end_of_line : TF) (F_string_token : TF) (F_word_token : TF) : TSX :=
    sSeq (sAsg 3 (tBin gIx (tNm 0) (tNm 2)))
    (sIf (tTst (tBin (gIns false) (tNm 3) (tIm (.str " \n")))) (sAsg 2 (tBin gAdd (tNm 2) (tIm (.int 1)))) (sIf (tTst (tBin (gEqs2 false) (tNm 3) (tIm (.str ";")))) (sAsg 2 (tCall ex0 F_end_of_line 2 (lCons (tNm 0) (lCons (tNm 2) (lNil))))) (sSeq (sIf (tTst (tBin (gIns false) (tNm 3) (tIm (.str "()'")))) (sAsg 4 (tTp (lCons (tIm (.str "sign")) (lCons (tNm 2) (lCons (tBin gAdd (tNm 2) (tIm (.int 1))) (lNil)))))) (sIf (tTst (tBin (gEqs2 false) (tNm 3) (tIm (.str "\"")))) (sAsg 4 (tCall ex0 F_string_token 2 (lCons (tNm 0) (lCons (tNm 2) (lNil))))) (sAsg 4 (tCall ex0 F_word_token 2 (lCons (tNm 0) (lCons (tNm 2) (lNil)))))))
    (sSeq (sDrop (tMtE gApp (tNm 1) (lCons (tNm 4) (lNil))))
    (sAsg 2 (tBin gIx (tNm 4) (tIm (.int 2))))))))
def t_tokens (F_end_of_line : TF) (F_string_token : TF) (F_word_token : TF) : TSX :=
    sSeq (sAsg 1 (tLs (lNil)))
    (sSeq (sAsg 2 (tIm (.int 0)))
    (sSeq (sWhile (tTst (tBin (gLt) (tNm 2) (tCl (gLen) (lCons (tNm 0) (lNil))))) (b_tokens_1 F_end_of_line F_string_token F_word_token))
    (sRet (tNm 1))))
theorem ok_tokens {k : Nat} {F : TF} (Ds : DefAt K mg "tokens" st_tokens ["text"]) (z_len : mg "len" = none) {F_end_of_line : TF} {k_end_of_line : Nat} (D_end_of_line : DefAt K mg "end_of_line" st_end_of_line ["text", "start"]) (G_end_of_line : FnD Pg w K mg base D_end_of_line k_end_of_line F_end_of_line) (h_end_of_line : k_end_of_line ≤ k) {F_string_token : TF} {k_string_token : Nat} (D_string_token : DefAt K mg "string_token" st_string_token ["text", "start"]) (G_string_token : FnD Pg w K mg base D_string_token k_string_token F_string_token) (h_string_token : k_string_token ≤ k) {F_word_token : TF} {k_word_token : Nat} (D_word_token : DefAt K mg "word_token" st_word_token ["text", "start"]) (G_word_token : FnD Pg w K mg base D_word_token k_word_token F_word_token) (h_word_token : k_word_token ≤ k)
    (hB : Body F 5 1 fun _ => t_tokens F_end_of_line F_string_token F_word_token) : FnD Pg w K mg base Ds (k + 1) F := by
  refine fn_ok Ds.fu sc_tokens hB fun cdv A outer s H E c hr => ?_
  have nd := sc_tokens.nd
  exact ds_cons (ds_set (i := 1) nd (de_lst (da_nil)))
    (ds_cons (ds_set (i := 2) nd (de_int))
    (ds_cons (ds_while PassesOwn.never (dt_cmp (lt_ok) (de_var 2) (de_callB (len_ok) (by rfl) z_len (by decide +kernel) (da_cons (de_var 0) (da_nil)))) (ds_cons (ds_set (i := 3) nd (de_ix (hu1 hr) (de_var 0) (de_var 2)))
    (ds_one (ds_if (dt_cmp (in_ok (hu65 hr)) (de_var 3) (de_str)) (ds_one (ds_set (i := 2) nd (de_op add_ok (de_var 2) (de_int)))) (ds_one (ds_if (dt_cmp (eq2_ok (hu64 hr)) (de_var 3) (de_str)) (ds_one (ds_set (i := 2) nd (de_call G_end_of_line (hr.mono h_end_of_line) (by rfl) D_end_of_line.mg D_end_of_line.fu.kp D_end_of_line.bd (da_cons (de_var 0) (da_cons (de_var 2) (da_nil)))))) (ds_cons (ds_if (dt_cmp (in_ok (hu65 hr)) (de_var 3) (de_str)) (ds_one (ds_set (i := 4) nd (de_tup (da_cons (de_str) (da_cons (de_var 2) (da_cons (de_op add_ok (de_var 2) (de_int)) (da_nil))))))) (ds_one (ds_if (dt_cmp (eq2_ok (hu64 hr)) (de_var 3) (de_str)) (ds_one (ds_set (i := 4) nd (de_call G_string_token (hr.mono h_string_token) (by rfl) D_string_token.mg D_string_token.fu.kp D_string_token.bd (da_cons (de_var 0) (da_cons (de_var 2) (da_nil)))))) (ds_one (ds_set (i := 4) nd (de_call G_word_token (hr.mono h_word_token) (by rfl) D_word_token.mg D_word_token.fu.kp D_word_token.bd (da_cons (de_var 0) (da_cons (de_var 2) (da_nil)))))))))
    (ds_cons (ds_expr (de_mtE PySem.F.plainAttrs_list PySem.F.slot_list_append PySem.F.type_list_append app_ok (de_var 1) (da_cons (de_var 4) (da_nil))))
    (ds_one (ds_set (i := 2) nd (de_ix (hu1 hr) (de_var 4) (de_int))))))))))))
    (ds_one (ds_ret (de_var 1)))))

/-! ### Frame___init__ -/
abbrev st_Frame___init__ : Stmt := inClass (topS 22) 0
theorem sc_Frame___init__ : FnScope ["self", "is_sign", "place"] ["self", "is_sign", "place"] (defScope st_Frame___init__) := ⟨rfl, rfl, rfl, by decide +kernel, rfl, by decide +kernel, by decide +kernel⟩
def t_Frame___init__ (c_Frame : Addr) : TSX :=
    sSeq (sFldY (fun C => C = c_Frame) "is_sign" (tNm 0) (tNm 1))
    (sSeq (sFldY (fun C => C = c_Frame) "place" (tNm 0) (tNm 2))
    (sFldY (fun C => C = c_Frame) "parts" (tNm 0) (tLs (lNil))))
theorem ok_Frame___init__ {k : Nat} {F : TF} (K_Frame : ClsAt K mg "Frame") (Ms : MethAt K K_Frame.C "__init__" "Frame.__init__" st_Frame___init__ ["self", "is_sign", "place"]) (n_Frame_is_sign : NoAttr K K_Frame.C "is_sign") (n_Frame_place : NoAttr K K_Frame.C "place") (n_Frame_parts : NoAttr K K_Frame.C "parts")
    (hB : Body F 3 3 fun _ => t_Frame___init__ K_Frame.C) : FnM Pg w K mg base Ms (k + 1) F := by
  refine fn_ok Ms.fu sc_Frame___init__ hB fun cdv A outer s H E c hr => ?_
  have nd := sc_Frame___init__.nd
  exact ds_cons (ds_fld (Pc := fun C => C = K_Frame.C) (de_var 0) (de_var 1) (fld_ok K_Frame n_Frame_is_sign))
    (ds_cons (ds_fld (Pc := fun C => C = K_Frame.C) (de_var 0) (de_var 2) (fld_ok K_Frame n_Frame_place))
    (ds_one (ds_fld (Pc := fun C => C = K_Frame.C) (de_var 0) (de_lst (da_nil)) (fld_ok K_Frame n_Frame_parts))))

/-! ### FormReader___init__ -/
abbrev st_FormReader___init__ : Stmt := inClass (topS 23) 0
theorem sc_FormReader___init__ : FnScope ["self"] ["self"] (defScope st_FormReader___init__) := ⟨rfl, rfl, rfl, by decide +kernel, rfl, by decide +kernel, by decide +kernel⟩
def t_FormReader___init__ (c_FormReader : Addr) : TSX :=
    sSeq (sFldY (fun C => C = c_FormReader) "forms" (tNm 0) (tLs (lNil)))
    (sSeq (sFldY (fun C => C = c_FormReader) "pending" (tNm 0) (tLs (lNil)))
    (sFldY (fun C => C = c_FormReader) "starts" (tNm 0) (tLs (lNil))))
theorem ok_FormReader___init__ {k : Nat} {F : TF} (K_FormReader : ClsAt K mg "FormReader") (Ms : MethAt K K_FormReader.C "__init__" "FormReader.__init__" st_FormReader___init__ ["self"]) (n_FormReader_forms : NoAttr K K_FormReader.C "forms") (n_FormReader_pending : NoAttr K K_FormReader.C "pending") (n_FormReader_starts : NoAttr K K_FormReader.C "starts")
    (hB : Body F 1 1 fun _ => t_FormReader___init__ K_FormReader.C) : FnM Pg w K mg base Ms (k + 1) F := by
  refine fn_ok Ms.fu sc_FormReader___init__ hB fun cdv A outer s H E c hr => ?_
  have nd := sc_FormReader___init__.nd
  exact ds_cons (ds_fld (Pc := fun C => C = K_FormReader.C) (de_var 0) (de_lst (da_nil)) (fld_ok K_FormReader n_FormReader_forms))
    (ds_cons (ds_fld (Pc := fun C => C = K_FormReader.C) (de_var 0) (de_lst (da_nil)) (fld_ok K_FormReader n_FormReader_pending))
    (ds_one (ds_fld (Pc := fun C => C = K_FormReader.C) (de_var 0) (de_lst (da_nil)) (fld_ok K_FormReader n_FormReader_starts))))

/-! ### FormReader_new_place -/
abbrev st_FormReader_new_place : Stmt := inClass (topS 23) 1
theorem sc_FormReader_new_place : FnScope ["self", "start"] ["self", "start"] (defScope st_FormReader_new_place) := ⟨rfl, rfl, rfl, by decide +kernel, rfl, by decide +kernel, by decide +kernel⟩
def t_FormReader_new_place (c_FormReader : Addr) : TSX :=
    sSeq (sDrop (tMtE gApp (tFldY (fun C => C = c_FormReader) "starts" (tNm 0)) (lCons (tNm 1) (lNil))))
    (sRet (tBin gSub (tCl (gLen) (lCons (tFldY (fun C => C = c_FormReader) "starts" (tNm 0)) (lNil))) (tIm (.int 1))))
theorem ok_FormReader_new_place {k : Nat} {F : TF} (K_FormReader : ClsAt K mg "FormReader") (Ms : MethAt K K_FormReader.C "new_place" "FormReader.new_place" st_FormReader_new_place ["self", "start"]) (z_len : mg "len" = none) (n_FormReader_starts : NoAttr K K_FormReader.C "starts")
    (hB : Body F 2 2 fun _ => t_FormReader_new_place K_FormReader.C) : FnM Pg w K mg base Ms (k + 1) F := by
  refine fn_ok Ms.fu sc_FormReader_new_place hB fun cdv A outer s H E c hr => ?_
  have nd := sc_FormReader_new_place.nd
  exact ds_cons (ds_expr (de_mtE PySem.F.plainAttrs_list PySem.F.slot_list_append PySem.F.type_list_append app_ok (de_fld (Pc := fun C => C = K_FormReader.C) (de_var 0) (fld_ok K_FormReader n_FormReader_starts)) (da_cons (de_var 1) (da_nil))))
    (ds_one (ds_ret (de_op sub_ok (de_callB (len_ok) (by rfl) z_len (by decide +kernel) (da_cons (de_fld (Pc := fun C => C = K_FormReader.C) (de_var 0) (fld_ok K_FormReader n_FormReader_starts)) (da_nil))) (de_int))))

/-! ### FormReader_begin -/
abbrev st_FormReader_begin : Stmt := inClass (topS 23) 2
theorem sc_FormReader_begin : FnScope ["self", "is_sign", "start"] ["self", "is_sign", "start"] (defScope st_FormReader_begin) := ⟨rfl, rfl, rfl, by decide +kernel, rfl, by decide +kernel, by decide +kernel⟩
def t_FormReader_begin (F_FormReader_new_place : TF) (F_Frame___init__ : TF) (c_FormReader : Addr) (c_Frame : Addr) (c_ReadError : Addr) (ex : EX) : TSX :=
    sSeq (sIf (tTst (tBin (gEqs2 false) (tCl (gLen) (lCons (tFldY (fun C => C = c_FormReader) "pending" (tNm 0)) (lNil))) (tIm (.int 60)))) (sRaise ex c_ReadError ["at"] (lCons (tNm 2) (lNil))) (sNil))
    (sDrop (tMtE gApp (tFldY (fun C => C = c_FormReader) "pending" (tNm 0)) (lCons (tMakeY ex0 c_Frame F_Frame___init__ 3 (lCons (tNm 1) (lCons (tMethY ex0 c_FormReader "new_place" F_FormReader_new_place 2 (tNm 0) (lCons (tNm 2) (lNil))) (lNil)))) (lNil))))
theorem ok_FormReader_begin {k : Nat} {F : TF} (K_FormReader : ClsAt K mg "FormReader") (Ms : MethAt K K_FormReader.C "begin" "FormReader.begin" st_FormReader_begin ["self", "is_sign", "start"]) (K_Frame : ClsAt K mg "Frame") (z_len : mg "len" = none) (z_super : mg "super" = none) {gt_DEEPEST_LIST : Tok} (g_DEEPEST_LIST : mg "DEEPEST_LIST" = some (.int 60 gt_DEEPEST_LIST)) {F_FormReader_new_place : TF} {k_FormReader_new_place : Nat} (M_FormReader_new_place : MethAt K K_FormReader.C "new_place" "FormReader.new_place" st_FormReader_new_place ["self", "start"]) (G_FormReader_new_place : FnM Pg w K mg base M_FormReader_new_place k_FormReader_new_place F_FormReader_new_place) (h_FormReader_new_place : k_FormReader_new_place ≤ k) {F_Frame___init__ : TF} {k_Frame___init__ : Nat} (M_Frame___init__ : MethAt K K_Frame.C "__init__" "Frame.__init__" st_Frame___init__ ["self", "is_sign", "place"]) (G_Frame___init__ : FnM Pg w K mg base M_Frame___init__ k_Frame___init__ F_Frame___init__) (h_Frame___init__ : k_Frame___init__ + 1 ≤ k) (E_ReadError : ExcAt Pg K mg "ReadError" "ReadError.__init__" st_ReadError___init__ ["self", "at"] ["at"]) (h2 : 2 ≤ k) (n_FormReader_pending : NoAttr K K_FormReader.C "pending")
    (hB : Body F 3 3 fun ex => t_FormReader_begin F_FormReader_new_place F_Frame___init__ K_FormReader.C K_Frame.C E_ReadError.C ex) : FnMX Pg w K mg base Ms (k + 1) F := by
  refine fn_okX Ms.fu sc_FormReader_begin hB fun cdv A outer s H E c ex hr xs po => ?_
  have nd := sc_FormReader_begin.nd
  exact ds_cons (ds_if (dt_cmp (eq2_ok (hu64 hr)) (de_callB (len_ok) (by rfl) z_len (by decide +kernel) (da_cons (de_fld (Pc := fun C => C = K_FormReader.C) (de_var 0) (fld_ok K_FormReader n_FormReader_pending)) (da_nil))) (de_glob (v := .int 60) (by rfl) g_DEEPEST_LIST ⟨_, rfl⟩ (fun _ _ => .int _))) (ds_one (ds_raise1 xs rfl E_ReadError (in_ReadError E_ReadError z_super) rfl hr h2 (by rfl) (da_cons (de_var 2) (da_nil)))) (ds_nil))
    (ds_one (ds_expr (de_mtE PySem.F.plainAttrs_list PySem.F.slot_list_append PySem.F.type_list_append app_ok (de_fld (Pc := fun C => C = K_FormReader.C) (de_var 0) (fld_ok K_FormReader n_FormReader_pending)) (da_cons (de_make (K_Frame.mk_ M_Frame___init__) G_Frame___init__ (hr.mono h_Frame___init__) (by rfl) K_Frame.mg M_Frame___init__.bd (da_cons (de_var 1) (da_cons (de_meth (de_var 0) K_FormReader.cl M_FormReader_new_place.at_ G_FormReader_new_place (hr.mono h_FormReader_new_place) M_FormReader_new_place.bd (da_cons (de_var 2) (da_nil))) (da_nil)))) (da_nil)))))

/-! ### FormReader_finish -/
abbrev st_FormReader_finish : Stmt := inClass (topS 23) 3
theorem sc_FormReader_finish : FnScope ["self", "datum", "frame"] ["self", "datum"] (defScope st_FormReader_finish) := ⟨rfl, rfl, rfl, by decide +kernel, rfl, by decide +kernel, by decide +kernel⟩
def b_FormReader_finish_1 (c_FormReader : Addr) (c_Frame : Addr) : TSX :=
    sSeq (sAsg 2 (tMtE gPop (tFldY (fun C => C = c_FormReader) "pending" (tNm 0)) lNil))
    (sAsg 1 (tTp (lCons (tIm (.str "list")) (lCons (tCl (gTuple) (lCons (tBin gAdd (tFldY (fun C => C = c_Frame) "parts" (tNm 2)) (tLs (lCons (tNm 1) (lNil)))) (lNil))) (lCons (tFldY (fun C => C = c_Frame) "place" (tNm 2)) (lNil))))))
def t_FormReader_finish (c_FormReader : Addr) (c_Frame : Addr) : TSX :=
    sSeq (sWhile (tAndQ (tTru (tFldY (fun C => C = c_FormReader) "pending" (tNm 0))) (tTru (tFldY (fun C => C = c_Frame) "is_sign" (tBin gIx (tFldY (fun C => C = c_FormReader) "pending" (tNm 0)) (tNeg (tIm (.int 1))))))) (b_FormReader_finish_1 c_FormReader c_Frame))
    (sIf (tTru (tFldY (fun C => C = c_FormReader) "pending" (tNm 0))) (sDrop (tMtE gApp (tFldY (fun C => C = c_Frame) "parts" (tBin gIx (tFldY (fun C => C = c_FormReader) "pending" (tNm 0)) (tNeg (tIm (.int 1))))) (lCons (tNm 1) (lNil)))) (sDrop (tMtE gApp (tFldY (fun C => C = c_FormReader) "forms" (tNm 0)) (lCons (tNm 1) (lNil)))))
theorem ok_FormReader_finish {k : Nat} {F : TF} (K_FormReader : ClsAt K mg "FormReader") (Ms : MethAt K K_FormReader.C "finish" "FormReader.finish" st_FormReader_finish ["self", "datum"]) (K_Frame : ClsAt K mg "Frame") (z_tuple : mg "tuple" = none) (n_FormReader_pending : NoAttr K K_FormReader.C "pending") (n_Frame_is_sign : NoAttr K K_Frame.C "is_sign") (n_Frame_parts : NoAttr K K_Frame.C "parts") (n_Frame_place : NoAttr K K_Frame.C "place") (n_FormReader_forms : NoAttr K K_FormReader.C "forms")
    (hB : Body F 3 2 fun _ => t_FormReader_finish K_FormReader.C K_Frame.C) : FnM Pg w K mg base Ms (k + 1) F := by
  refine fn_ok Ms.fu sc_FormReader_finish hB fun cdv A outer s H E c hr => ?_
  have nd := sc_FormReader_finish.nd
  exact ds_cons (ds_while PassesOwn.never (dw_pt (dw_and (dt_tru (de_fld (Pc := fun C => C = K_FormReader.C) (de_var 0) (fld_ok K_FormReader n_FormReader_pending))) (dw_and1 (dt_tru (de_fld (Pc := fun C => C = K_Frame.C) (de_ix (hu1 hr) (de_fld (Pc := fun C => C = K_FormReader.C) (de_var 0) (fld_ok K_FormReader n_FormReader_pending)) (de_neg (de_int))) (fld_ok K_Frame n_Frame_is_sign)))))) (ds_cons (ds_set (i := 2) nd (de_mtE0 PySem.F.plainAttrs_list PySem.F.slot_list_pop PySem.F.type_list_pop pop_ok (de_fld (Pc := fun C => C = K_FormReader.C) (de_var 0) (fld_ok K_FormReader n_FormReader_pending))))
    (ds_one (ds_set (i := 1) nd (de_tup (da_cons (de_str) (da_cons (de_callT (tuple_ok) (by rfl) z_tuple (by decide +kernel) (da_cons (de_op add_ok (de_fld (Pc := fun C => C = K_Frame.C) (de_var 2) (fld_ok K_Frame n_Frame_parts)) (de_lst (da_cons (de_var 1) (da_nil)))) (da_nil))) (da_cons (de_fld (Pc := fun C => C = K_Frame.C) (de_var 2) (fld_ok K_Frame n_Frame_place)) (da_nil)))))))))
    (ds_one (ds_if (dt_tru (de_fld (Pc := fun C => C = K_FormReader.C) (de_var 0) (fld_ok K_FormReader n_FormReader_pending))) (ds_one (ds_expr (de_mtE PySem.F.plainAttrs_list PySem.F.slot_list_append PySem.F.type_list_append app_ok (de_fld (Pc := fun C => C = K_Frame.C) (de_ix (hu1 hr) (de_fld (Pc := fun C => C = K_FormReader.C) (de_var 0) (fld_ok K_FormReader n_FormReader_pending)) (de_neg (de_int))) (fld_ok K_Frame n_Frame_parts)) (da_cons (de_var 1) (da_nil))))) (ds_one (ds_expr (de_mtE PySem.F.plainAttrs_list PySem.F.slot_list_append PySem.F.type_list_append app_ok (de_fld (Pc := fun C => C = K_FormReader.C) (de_var 0) (fld_ok K_FormReader n_FormReader_forms)) (da_cons (de_var 1) (da_nil)))))))

/-! ### FormReader_take_sign -/
abbrev st_FormReader_take_sign : Stmt := inClass (topS 23) 4
theorem sc_FormReader_take_sign : FnScope ["self", "sign", "start", "frame", "word"] ["self", "sign", "start"] (defScope st_FormReader_take_sign) := ⟨rfl, rfl, rfl, by decide +kernel, rfl, by decide +kernel, by decide +kernel⟩
def t_FormReader_take_sign (F_FormReader_begin : TF) (F_FormReader_finish : TF) (F_FormReader_new_place : TF) (c_FormReader : Addr) (c_Frame : Addr) (c_ReadError : Addr) (ex : EX) : TSX :=
    sIf (tTst (tBin (gEqs2 false) (tNm 1) (tIm (.str "(")))) (sDrop (tMethY ex c_FormReader "begin" F_FormReader_begin 3 (tNm 0) (lCons (tIm (.bl false)) (lCons (tNm 2) (lNil))))) (sIf (tTst (tBin (gEqs2 false) (tNm 1) (tIm (.str ")")))) (sSeq (sIf (tOrQ (tNotQ (tTru (tFldY (fun C => C = c_FormReader) "pending" (tNm 0)))) (tTru (tFldY (fun C => C = c_Frame) "is_sign" (tBin gIx (tFldY (fun C => C = c_FormReader) "pending" (tNm 0)) (tNeg (tIm (.int 1))))))) (sRaise ex c_ReadError ["at"] (lCons (tNm 2) (lNil))) (sNil))
    (sSeq (sAsg 3 (tMtE gPop (tFldY (fun C => C = c_FormReader) "pending" (tNm 0)) lNil))
    (sDrop (tMethY ex0 c_FormReader "finish" F_FormReader_finish 2 (tNm 0) (lCons (tTp (lCons (tIm (.str "list")) (lCons (tCl (gTuple) (lCons (tFldY (fun C => C = c_Frame) "parts" (tNm 3)) (lNil))) (lCons (tFldY (fun C => C = c_Frame) "place" (tNm 3)) (lNil))))) (lNil)))))) (sSeq (sDrop (tMethY ex c_FormReader "begin" F_FormReader_begin 3 (tNm 0) (lCons (tIm (.bl true)) (lCons (tNm 2) (lNil)))))
    (sSeq (sAsg 4 (tIfX (tTst (tBin (gEqs2 false) (tNm 1) (tIm (.str "'")))) (tIm (.str "quote")) (tIm (.str "syntax"))))
    (sDrop (tMtE gApp (tFldY (fun C => C = c_Frame) "parts" (tBin gIx (tFldY (fun C => C = c_FormReader) "pending" (tNm 0)) (tNeg (tIm (.int 1))))) (lCons (tTp (lCons (tIm (.str "name")) (lCons (tNm 4) (lCons (tMethY ex0 c_FormReader "new_place" F_FormReader_new_place 2 (tNm 0) (lCons (tNm 2) (lNil))) (lNil))))) (lNil)))))))
theorem ok_FormReader_take_sign {k : Nat} {F : TF} (K_FormReader : ClsAt K mg "FormReader") (Ms : MethAt K K_FormReader.C "take_sign" "FormReader.take_sign" st_FormReader_take_sign ["self", "sign", "start"]) (K_Frame : ClsAt K mg "Frame") (z_super : mg "super" = none) (z_tuple : mg "tuple" = none) {F_FormReader_begin : TF} {k_FormReader_begin : Nat} (M_FormReader_begin : MethAt K K_FormReader.C "begin" "FormReader.begin" st_FormReader_begin ["self", "is_sign", "start"]) (G_FormReader_begin : FnMX Pg w K mg base M_FormReader_begin k_FormReader_begin F_FormReader_begin) (h_FormReader_begin : k_FormReader_begin ≤ k) {F_FormReader_finish : TF} {k_FormReader_finish : Nat} (M_FormReader_finish : MethAt K K_FormReader.C "finish" "FormReader.finish" st_FormReader_finish ["self", "datum"]) (G_FormReader_finish : FnM Pg w K mg base M_FormReader_finish k_FormReader_finish F_FormReader_finish) (h_FormReader_finish : k_FormReader_finish ≤ k) {F_FormReader_new_place : TF} {k_FormReader_new_place : Nat} (M_FormReader_new_place : MethAt K K_FormReader.C "new_place" "FormReader.new_place" st_FormReader_new_place ["self", "start"]) (G_FormReader_new_place : FnM Pg w K mg base M_FormReader_new_place k_FormReader_new_place F_FormReader_new_place) (h_FormReader_new_place : k_FormReader_new_place ≤ k) (E_ReadError : ExcAt Pg K mg "ReadError" "ReadError.__init__" st_ReadError___init__ ["self", "at"] ["at"]) (h2 : 2 ≤ k) (n_FormReader_pending : NoAttr K K_FormReader.C "pending") (n_Frame_is_sign : NoAttr K K_Frame.C "is_sign") (n_Frame_parts : NoAttr K K_Frame.C "parts") (n_Frame_place : NoAttr K K_Frame.C "place")
    (hB : Body F 5 3 fun ex => t_FormReader_take_sign F_FormReader_begin F_FormReader_finish F_FormReader_new_place K_FormReader.C K_Frame.C E_ReadError.C ex) : FnMX Pg w K mg base Ms (k + 1) F := by
  refine fn_okX Ms.fu sc_FormReader_take_sign hB fun cdv A outer s H E c ex hr xs po => ?_
  have nd := sc_FormReader_take_sign.nd
  exact ds_one (ds_if (dt_cmp (eq2_ok (hu64 hr)) (de_var 1) (de_str)) (ds_one (ds_expr (de_methX xs (de_var 0) K_FormReader.cl M_FormReader_begin.at_ G_FormReader_begin (hr.mono h_FormReader_begin) M_FormReader_begin.bd (da_cons (de_bl) (da_cons (de_var 2) (da_nil)))))) (ds_one (ds_if (dt_cmp (eq2_ok (hu64 hr)) (de_var 1) (de_str)) (ds_cons (ds_if (dw_pt (dw_or (dt_not (dt_tru (de_fld (Pc := fun C => C = K_FormReader.C) (de_var 0) (fld_ok K_FormReader n_FormReader_pending)))) (dw_or1 (dt_tru (de_fld (Pc := fun C => C = K_Frame.C) (de_ix (hu1 hr) (de_fld (Pc := fun C => C = K_FormReader.C) (de_var 0) (fld_ok K_FormReader n_FormReader_pending)) (de_neg (de_int))) (fld_ok K_Frame n_Frame_is_sign)))))) (ds_one (ds_raise1 xs rfl E_ReadError (in_ReadError E_ReadError z_super) rfl hr h2 (by rfl) (da_cons (de_var 2) (da_nil)))) (ds_nil))
    (ds_cons (ds_set (i := 3) nd (de_mtE0 PySem.F.plainAttrs_list PySem.F.slot_list_pop PySem.F.type_list_pop pop_ok (de_fld (Pc := fun C => C = K_FormReader.C) (de_var 0) (fld_ok K_FormReader n_FormReader_pending))))
    (ds_one (ds_expr (de_meth (de_var 0) K_FormReader.cl M_FormReader_finish.at_ G_FormReader_finish (hr.mono h_FormReader_finish) M_FormReader_finish.bd (da_cons (de_tup (da_cons (de_str) (da_cons (de_callT (tuple_ok) (by rfl) z_tuple (by decide +kernel) (da_cons (de_fld (Pc := fun C => C = K_Frame.C) (de_var 3) (fld_ok K_Frame n_Frame_parts)) (da_nil))) (da_cons (de_fld (Pc := fun C => C = K_Frame.C) (de_var 3) (fld_ok K_Frame n_Frame_place)) (da_nil))))) (da_nil))))))) (ds_cons (ds_expr (de_methX xs (de_var 0) K_FormReader.cl M_FormReader_begin.at_ G_FormReader_begin (hr.mono h_FormReader_begin) M_FormReader_begin.bd (da_cons (de_bl) (da_cons (de_var 2) (da_nil)))))
    (ds_cons (ds_set (i := 4) nd (de_if (dt_cmp (eq2_ok (hu64 hr)) (de_var 1) (de_str)) (de_str) (de_str)))
    (ds_one (ds_expr (de_mtE PySem.F.plainAttrs_list PySem.F.slot_list_append PySem.F.type_list_append app_ok (de_fld (Pc := fun C => C = K_Frame.C) (de_ix (hu1 hr) (de_fld (Pc := fun C => C = K_FormReader.C) (de_var 0) (fld_ok K_FormReader n_FormReader_pending)) (de_neg (de_int))) (fld_ok K_Frame n_Frame_parts)) (da_cons (de_tup (da_cons (de_str) (da_cons (de_var 4) (da_cons (de_meth (de_var 0) K_FormReader.cl M_FormReader_new_place.at_ G_FormReader_new_place (hr.mono h_FormReader_new_place) M_FormReader_new_place.bd (da_cons (de_var 2) (da_nil))) (da_nil))))) (da_nil))))))))))

/-! ### FormReader_take -/
abbrev st_FormReader_take : Stmt := inClass (topS 23) 5
theorem sc_FormReader_take : FnScope ["self", "text", "token", "sort", "start", "end", "kind", "value"] ["self", "text", "token"] (defScope st_FormReader_take) := ⟨rfl, rfl, rfl, by decide +kernel, rfl, by decide +kernel, by decide +kernel⟩
def t_FormReader_take (F_FormReader_take_sign : TF) (F_value_of : TF) (F_FormReader_finish : TF) (F_FormReader_new_place : TF) (c_FormReader : Addr) (c_ReadError : Addr) (ex : EX) : TSX :=
    sSeq (sUnp (.many [3, 4, 5]) (tNm 2))
    (sSeq (sIf (tTst (tBin (gEqs2 false) (tNm 3) (tIm (.str "wrong")))) (sRaise ex c_ReadError ["at"] (lCons (tNm 4) (lNil))) (sNil))
    (sIf (tTst (tBin (gEqs2 false) (tNm 3) (tIm (.str "sign")))) (sDrop (tMethY ex c_FormReader "take_sign" F_FormReader_take_sign 3 (tNm 0) (lCons (tSlc (tNm 1) (pSo (tNm 4)) (pSo (tNm 5))) (lCons (tNm 4) (lNil))))) (sSeq (sUnp (.many [6, 7]) (tCall ex0 F_value_of 2 (lCons (tNm 3) (lCons (tSlc (tNm 1) (pSo (tNm 4)) (pSo (tNm 5))) (lNil)))))
    (sDrop (tMethY ex0 c_FormReader "finish" F_FormReader_finish 2 (tNm 0) (lCons (tTp (lCons (tNm 6) (lCons (tNm 7) (lCons (tMethY ex0 c_FormReader "new_place" F_FormReader_new_place 2 (tNm 0) (lCons (tNm 4) (lNil))) (lNil))))) (lNil)))))))
theorem ok_FormReader_take {k : Nat} {F : TF} (K_FormReader : ClsAt K mg "FormReader") (Ms : MethAt K K_FormReader.C "take" "FormReader.take" st_FormReader_take ["self", "text", "token"]) (z_super : mg "super" = none) {F_FormReader_take_sign : TF} {k_FormReader_take_sign : Nat} (M_FormReader_take_sign : MethAt K K_FormReader.C "take_sign" "FormReader.take_sign" st_FormReader_take_sign ["self", "sign", "start"]) (G_FormReader_take_sign : FnMX Pg w K mg base M_FormReader_take_sign k_FormReader_take_sign F_FormReader_take_sign) (h_FormReader_take_sign : k_FormReader_take_sign ≤ k) {F_value_of : TF} {k_value_of : Nat} (D_value_of : DefAt K mg "value_of" st_value_of ["sort", "word"]) (G_value_of : FnD Pg w K mg base D_value_of k_value_of F_value_of) (h_value_of : k_value_of ≤ k) {F_FormReader_finish : TF} {k_FormReader_finish : Nat} (M_FormReader_finish : MethAt K K_FormReader.C "finish" "FormReader.finish" st_FormReader_finish ["self", "datum"]) (G_FormReader_finish : FnM Pg w K mg base M_FormReader_finish k_FormReader_finish F_FormReader_finish) (h_FormReader_finish : k_FormReader_finish ≤ k) {F_FormReader_new_place : TF} {k_FormReader_new_place : Nat} (M_FormReader_new_place : MethAt K K_FormReader.C "new_place" "FormReader.new_place" st_FormReader_new_place ["self", "start"]) (G_FormReader_new_place : FnM Pg w K mg base M_FormReader_new_place k_FormReader_new_place F_FormReader_new_place) (h_FormReader_new_place : k_FormReader_new_place ≤ k) (E_ReadError : ExcAt Pg K mg "ReadError" "ReadError.__init__" st_ReadError___init__ ["self", "at"] ["at"]) (h2 : 2 ≤ k)
    (hB : Body F 8 3 fun ex => t_FormReader_take F_FormReader_take_sign F_value_of F_FormReader_finish F_FormReader_new_place K_FormReader.C E_ReadError.C ex) : FnMX Pg w K mg base Ms (k + 1) F := by
  refine fn_okX Ms.fu sc_FormReader_take hB fun cdv A outer s H E c ex hr xs po => ?_
  have nd := sc_FormReader_take.nd
  exact ds_cons (ds_unp (bd := .many [3, 4, 5]) (de_var 2) (pg_tup rfl (pgs_cons (pg_name (i := 3) nd rfl (by first | exact Or.inl rfl | exact Or.inr rfl)) (pgs_cons (pg_name (i := 4) nd rfl (by first | exact Or.inl rfl | exact Or.inr rfl)) (pgs_cons (pg_name (i := 5) nd rfl (by first | exact Or.inl rfl | exact Or.inr rfl)) (pgs_nil))))))
    (ds_cons (ds_if (dt_cmp (eq2_ok (hu64 hr)) (de_var 3) (de_str)) (ds_one (ds_raise1 xs rfl E_ReadError (in_ReadError E_ReadError z_super) rfl hr h2 (by rfl) (da_cons (de_var 4) (da_nil)))) (ds_nil))
    (ds_one (ds_if (dt_cmp (eq2_ok (hu64 hr)) (de_var 3) (de_str)) (ds_one (ds_expr (de_methX xs (de_var 0) K_FormReader.cl M_FormReader_take_sign.at_ G_FormReader_take_sign (hr.mono h_FormReader_take_sign) M_FormReader_take_sign.bd (da_cons (de_slice (de_var 1) (do_so (de_var 4)) (do_so (de_var 5))) (da_cons (de_var 4) (da_nil)))))) (ds_cons (ds_unp (bd := .many [6, 7]) (de_call G_value_of (hr.mono h_value_of) (by rfl) D_value_of.mg D_value_of.fu.kp D_value_of.bd (da_cons (de_var 3) (da_cons (de_slice (de_var 1) (do_so (de_var 4)) (do_so (de_var 5))) (da_nil)))) (pg_tup rfl (pgs_cons (pg_name (i := 6) nd rfl (by first | exact Or.inl rfl | exact Or.inr rfl)) (pgs_cons (pg_name (i := 7) nd rfl (by first | exact Or.inl rfl | exact Or.inr rfl)) (pgs_nil)))))
    (ds_one (ds_expr (de_meth (de_var 0) K_FormReader.cl M_FormReader_finish.at_ G_FormReader_finish (hr.mono h_FormReader_finish) M_FormReader_finish.bd (da_cons (de_tup (da_cons (de_var 6) (da_cons (de_var 7) (da_cons (de_meth (de_var 0) K_FormReader.cl M_FormReader_new_place.at_ G_FormReader_new_place (hr.mono h_FormReader_new_place) M_FormReader_new_place.bd (da_cons (de_var 4) (da_nil))) (da_nil))))) (da_nil)))))))))

/-! ### value_of -/
abbrev st_value_of : Stmt := topS 24
theorem sc_value_of : FnScope ["sort", "word"] ["sort", "word"] (defScope st_value_of) := ⟨rfl, rfl, rfl, by decide +kernel, rfl, by decide +kernel, by decide +kernel⟩
def t_value_of : TSX :=
    sSeq (sIf (tTst (tBin (gEqs2 false) (tNm 0) (tIm (.str "string")))) (sRet (tTp (lCons (tIm (.str "text")) (lCons (tSlc (tNm 1) (pSo (tIm (.int 1))) (pSo (tNeg (tIm (.int 1))))) (lNil))))) (sNil))
    (sSeq (sIf (tTst (tBin (gEqs2 false) (tNm 0) (tIm (.str "number")))) (sRet (tTp (lCons (tIm (.str "number")) (lCons (tCl (gIntS) (lCons (tNm 1) (lNil))) (lNil))))) (sNil))
    (sSeq (sIf (tTst (tBin (gEqs2 false) (tNm 0) (tIm (.str "flag")))) (sRet (tTp (lCons (tIm (.str "flag")) (lCons (tOn (fIxD tab_FLAGS) (tNm 1)) (lNil))))) (sNil))
    (sSeq (sIf (tTst (tBin (gEqs2 false) (tNm 0) (tIm (.str "name")))) (sRet (tTp (lCons (tIm (.str "name")) (lCons (tNm 1) (lNil))))) (sNil))
    (sRet (tTp (lCons (tNm 0) (lCons (tIm .non) (lNil))))))))
theorem ok_value_of {k : Nat} {F : TF} (Ds : DefAt K mg "value_of" st_value_of ["sort", "word"]) (z_int : mg "int" = none) (g_FLAGS : GTab K w mg "FLAGS" tab_FLAGS)
    (hB : Body F 2 2 fun _ => t_value_of) : FnD Pg w K mg base Ds (k + 1) F := by
  refine fn_ok Ds.fu sc_value_of hB fun cdv A outer s H E c hr => ?_
  have nd := sc_value_of.nd
  exact ds_cons (ds_if (dt_cmp (eq2_ok (hu64 hr)) (de_var 0) (de_str)) (ds_one (ds_ret (de_tup (da_cons (de_str) (da_cons (de_slice (de_var 1) (do_so (de_int)) (do_so (de_neg (de_int)))) (da_nil)))))) (ds_nil))
    (ds_cons (ds_if (dt_cmp (eq2_ok (hu64 hr)) (de_var 0) (de_str)) (ds_one (ds_ret (de_tup (da_cons (de_str) (da_cons (de_callT (intS_ok) (by rfl) z_int (by decide +kernel) (da_cons (de_var 1) (da_nil))) (da_nil)))))) (ds_nil))
    (ds_cons (ds_if (dt_cmp (eq2_ok (hu64 hr)) (de_var 0) (de_str)) (ds_one (ds_ret (de_tup (da_cons (de_str) (da_cons (de_ixG (by rfl) g_FLAGS (de_var 1)) (da_nil)))))) (ds_nil))
    (ds_cons (ds_if (dt_cmp (eq2_ok (hu64 hr)) (de_var 0) (de_str)) (ds_one (ds_ret (de_tup (da_cons (de_str) (da_cons (de_var 1) (da_nil)))))) (ds_nil))
    (ds_one (ds_ret (de_tup (da_cons (de_var 0) (da_cons (de_non) (da_nil)))))))))

/-! ### taken -/
abbrev st_taken : Stmt := topS 25
theorem sc_taken : FnScope ["text", "reader", "token"] ["text"] (defScope st_taken) := ⟨rfl, rfl, rfl, by decide +kernel, rfl, by decide +kernel, by decide +kernel⟩
def b_taken_1 (F_FormReader___init__ : TF) (F_tokens : TF) (F_FormReader_take : TF) (c_FormReader : Addr) (c_ReadError : Addr) (ex : EX) : TSX :=
    sDrop (tMethY ex c_FormReader "take" F_FormReader_take 3 (tNm 1) (lCons (tNm 0) (lCons (tNm 2) (lNil))))
def t_taken (F_FormReader___init__ : TF) (F_tokens : TF) (F_FormReader_take : TF) (c_FormReader : Addr) (c_ReadError : Addr) (ex : EX) : TSX :=
    sSeq (sIf (tTst (tBin (gGt) (tCl (gLen) (lCons (tNm 0) (lNil))) (tIm (.int 6000)))) (sRaise ex c_ReadError ["at"] (lCons (tIm (.int 6000)) (lNil))) (sNil))
    (sSeq (sAsg 1 (tMakeY ex0 c_FormReader F_FormReader___init__ 1 lNil))
    (sSeq (sFor (iSeq (tCall ex0 F_tokens 1 (lCons (tNm 0) (lNil)))) (.one 2) (b_taken_1 F_FormReader___init__ F_tokens F_FormReader_take c_FormReader c_ReadError ex))
    (sSeq (sIf (tTru (tFldY (fun C => C = c_FormReader) "pending" (tNm 1))) (sRaise ex c_ReadError ["at"] (lCons (tCl (gLen) (lCons (tNm 0) (lNil))) (lNil))) (sNil))
    (sRet (tNm 1)))))
theorem ok_taken {k : Nat} {F : TF} (Ds : DefAt K mg "taken" st_taken ["text"]) (K_FormReader : ClsAt K mg "FormReader") (z_len : mg "len" = none) (z_super : mg "super" = none) {gt_MOST_SIGNS : Tok} (g_MOST_SIGNS : mg "MOST_SIGNS" = some (.int 6000 gt_MOST_SIGNS)) {F_FormReader___init__ : TF} {k_FormReader___init__ : Nat} (M_FormReader___init__ : MethAt K K_FormReader.C "__init__" "FormReader.__init__" st_FormReader___init__ ["self"]) (G_FormReader___init__ : FnM Pg w K mg base M_FormReader___init__ k_FormReader___init__ F_FormReader___init__) (h_FormReader___init__ : k_FormReader___init__ + 1 ≤ k) {F_tokens : TF} {k_tokens : Nat} (D_tokens : DefAt K mg "tokens" st_tokens ["text"]) (G_tokens : FnD Pg w K mg base D_tokens k_tokens F_tokens) (h_tokens : k_tokens ≤ k) {F_FormReader_take : TF} {k_FormReader_take : Nat} (M_FormReader_take : MethAt K K_FormReader.C "take" "FormReader.take" st_FormReader_take ["self", "text", "token"]) (G_FormReader_take : FnMX Pg w K mg base M_FormReader_take k_FormReader_take F_FormReader_take) (h_FormReader_take : k_FormReader_take ≤ k) (E_ReadError : ExcAt Pg K mg "ReadError" "ReadError.__init__" st_ReadError___init__ ["self", "at"] ["at"]) (h2 : 2 ≤ k) (n_FormReader_pending : NoAttr K K_FormReader.C "pending")
    (hB : Body F 3 1 fun ex => t_taken F_FormReader___init__ F_tokens F_FormReader_take K_FormReader.C E_ReadError.C ex) : FnDX Pg w K mg base Ds (k + 1) F := by
  refine fn_okX Ds.fu sc_taken hB fun cdv A outer s H E c ex hr xs po => ?_
  have nd := sc_taken.nd
  exact ds_cons (ds_if (dt_cmp (gt_ok) (de_callB (len_ok) (by rfl) z_len (by decide +kernel) (da_cons (de_var 0) (da_nil))) (de_glob (v := .int 6000) (by rfl) g_MOST_SIGNS ⟨_, rfl⟩ (fun _ _ => .int _))) (ds_one (ds_raise1 xs rfl E_ReadError (in_ReadError E_ReadError z_super) rfl hr h2 (by rfl) (da_cons (de_glob (v := .int 6000) (by rfl) g_MOST_SIGNS ⟨_, rfl⟩ (fun _ _ => .int _)) (da_nil)))) (ds_nil))
    (ds_cons (ds_set (i := 1) nd (de_make0 (K_FormReader.mk_ M_FormReader___init__) G_FormReader___init__ (hr.mono h_FormReader___init__) (by rfl) K_FormReader.mg M_FormReader___init__.bd))
    (ds_cons (ds_for (bd := .one 2) po rfl (di_seq (de_call G_tokens (hr.mono h_tokens) (by rfl) D_tokens.mg D_tokens.fu.kp D_tokens.bd (da_cons (de_var 0) (da_nil)))) (pg_name (i := 2) nd rfl (by first | exact Or.inl rfl | exact Or.inr rfl)) (ds_one (ds_expr (de_methX xs (de_var 1) K_FormReader.cl M_FormReader_take.at_ G_FormReader_take (hr.mono h_FormReader_take) M_FormReader_take.bd (da_cons (de_var 0) (da_cons (de_var 2) (da_nil)))))))
    (ds_cons (ds_if (dt_tru (de_fld (Pc := fun C => C = K_FormReader.C) (de_var 1) (fld_ok K_FormReader n_FormReader_pending))) (ds_one (ds_raise1 xs rfl E_ReadError (in_ReadError E_ReadError z_super) rfl hr h2 (by rfl) (da_cons (de_callB (len_ok) (by rfl) z_len (by decide +kernel) (da_cons (de_var 0) (da_nil))) (da_nil)))) (ds_nil))
    (ds_one (ds_ret (de_var 1))))))

/-! ### read -/
abbrev st_read : Stmt := topS 26
theorem sc_read : FnScope ["text"] ["text"] (defScope st_read) := ⟨rfl, rfl, rfl, by decide +kernel, rfl, by decide +kernel, by decide +kernel⟩
def t_read (F_taken : TF) (c_FormReader : Addr) (ex : EX) : TSX :=
    sRet (tCl (gTuple) (lCons (tFldY (fun C => C = c_FormReader) "forms" (tCall ex F_taken 1 (lCons (tNm 0) (lNil)))) (lNil)))
theorem ok_read {k : Nat} {F : TF} (Ds : DefAt K mg "read" st_read ["text"]) (K_FormReader : ClsAt K mg "FormReader") (z_tuple : mg "tuple" = none) {F_taken : TF} {k_taken : Nat} (D_taken : DefAt K mg "taken" st_taken ["text"]) (G_taken : FnDX Pg w K mg base D_taken k_taken F_taken) (h_taken : k_taken ≤ k) (n_FormReader_forms : NoAttr K K_FormReader.C "forms")
    (hB : Body F 1 1 fun ex => t_read F_taken K_FormReader.C ex) : FnDX Pg w K mg base Ds (k + 1) F := by
  refine fn_okX Ds.fu sc_read hB fun cdv A outer s H E c ex hr xs po => ?_
  have nd := sc_read.nd
  exact ds_one (ds_ret (de_callT (tuple_ok) (by rfl) z_tuple (by decide +kernel) (da_cons (de_fld (Pc := fun C => C = K_FormReader.C) (de_callX xs G_taken (hr.mono h_taken) (by rfl) D_taken.mg D_taken.fu.kp D_taken.bd (da_cons (de_var 0) (da_nil))) (fld_ok K_FormReader n_FormReader_forms)) (da_nil))))

/-! ### offsets -/
abbrev st_offsets : Stmt := topS 27
theorem sc_offsets : FnScope ["text"] ["text"] (defScope st_offsets) := ⟨rfl, rfl, rfl, by decide +kernel, rfl, by decide +kernel, by decide +kernel⟩
def t_offsets (F_taken : TF) (c_FormReader : Addr) (ex : EX) : TSX :=
    sRet (tCl (gList) (lCons (tFldY (fun C => C = c_FormReader) "starts" (tCall ex F_taken 1 (lCons (tNm 0) (lNil)))) (lNil)))
theorem ok_offsets {k : Nat} {F : TF} (Ds : DefAt K mg "offsets" st_offsets ["text"]) (K_FormReader : ClsAt K mg "FormReader") (z_list : mg "list" = none) {F_taken : TF} {k_taken : Nat} (D_taken : DefAt K mg "taken" st_taken ["text"]) (G_taken : FnDX Pg w K mg base D_taken k_taken F_taken) (h_taken : k_taken ≤ k) (n_FormReader_starts : NoAttr K K_FormReader.C "starts")
    (hB : Body F 1 1 fun ex => t_offsets F_taken K_FormReader.C ex) : FnDX Pg w K mg base Ds (k + 1) F := by
  refine fn_okX Ds.fu sc_offsets hB fun cdv A outer s H E c ex hr xs po => ?_
  have nd := sc_offsets.nd
  exact ds_one (ds_ret (de_callT (list_ok) (by rfl) z_list (by decide +kernel) (da_cons (de_fld (Pc := fun C => C = K_FormReader.C) (de_callX xs G_taken (hr.mono h_taken) (by rfl) D_taken.mg D_taken.fu.kp D_taken.bd (da_cons (de_var 0) (da_nil))) (fld_ok K_FormReader n_FormReader_starts)) (da_nil))))

/-! ### _law_draws -/
abbrev st__law_draws : Stmt := topS 29
theorem sc__law_draws : FnScope ["script", "count", "cells", "found", "mixed", "k", "j", "cell", "again"] ["script", "count"] (defScope st__law_draws) := ⟨rfl, rfl, rfl, by decide +kernel, rfl, by decide +kernel, by decide +kernel⟩
def b__law_draws_1 : TSX :=
    sSeq (sAsg 6 (tBin gMod (tNm 5) (tCl (gLen) (lCons (tNm 2) (lNil)))))
    (sSeq (sAsg 7 (tBin gIx (tNm 2) (tNm 6)))
    (sSeq (sAsg 4 (tBin gMod (tCl (gIntS) (lCons (tBin gAdd (tBin gAdd (tBin gAdd (tBin gMul (tNm 4) (tIm (.int 48271))) (tBin gMul (tBin gMod (tCl (gIntS) (lCons (tNm 7) (lNil))) (tIm (.int 1000003))) (tIm (.int 69621)))) (tBin gMul (tNm 5) (tIm (.int 7919)))) (tIm (.int 11))) (lNil))) (tIm (.int 2147483647))))
    (sSeq (sAsg 8 (tBin gMod (tCl (gIntS) (lCons (tBin gAdd (tBin gAdd (tBin gMul (tNm 4) (tNm 4)) (tBin gMul (tIm (.int 31)) (tNm 4))) (tNm 5)) (lNil))) (tIm (.int 1000003))))
    (sIf (tTst (tBin (gGe) (tNm 7) (tBin gPow (tIm (.int 10)) (tIm (.int 18))))) (sSeq (sDrop (tMtE gApp (tNm 3) (lCons (tBin gMod (tCl (gIntS) (lCons (tNm 7) (lNil))) (tIm (.int 1000))) (lNil))))
    (sSetE (tNm 2) (tNm 6) (tBin gDiv (tNm 7) (tIm (.int 1000))))) (sDrop (tMtE gApp (tNm 3) (lCons (tBin gMod (tCl (gIntS) (lCons (tNm 8) (lNil))) (tIm (.int 1000))) (lNil))))))))
def t__law_draws : TSX :=
    sSeq (sAsg 2 (tCl (gList) (lCons (tNm 0) (lNil))))
    (sSeq (sIf (tTst (tBin (gEqs2 false) (tCl (gLen) (lCons (tNm 2) (lNil))) (tIm (.int 0)))) (sAsg 2 (tLs (lCons (tIm (.int 7)) (lNil)))) (sNil))
    (sSeq (sAsg 3 (tLs (lNil)))
    (sSeq (sAsg 4 (tIm (.int 12345)))
    (sSeq (sFor (iRg1 (lCons (tNm 1) (lNil))) (.one 5) (b__law_draws_1))
    (sSeq (sDrop (tMtE gRev (tNm 3) lNil))
    (sRet (tNm 3)))))))
theorem ok__law_draws {k : Nat} {F : TF} (Ds : DefAt K mg "_law_draws" st__law_draws ["script", "count"]) (z_list : mg "list" = none) (z_len : mg "len" = none) (z_range : mg "range" = none) (z_int : mg "int" = none)
    (hB : Body F 9 2 fun _ => t__law_draws) : FnD Pg w K mg base Ds (k + 1) F := by
  refine fn_ok Ds.fu sc__law_draws hB fun cdv A outer s H E c hr => ?_
  have nd := sc__law_draws.nd
  exact ds_cons (ds_set (i := 2) nd (de_callT (list_ok) (by rfl) z_list (by decide +kernel) (da_cons (de_var 0) (da_nil))))
    (ds_cons (ds_if (dt_cmp (eq2_ok (hu64 hr)) (de_callB (len_ok) (by rfl) z_len (by decide +kernel) (da_cons (de_var 2) (da_nil))) (de_int)) (ds_one (ds_set (i := 2) nd (de_lst (da_cons (de_int) (da_nil))))) (ds_nil))
    (ds_cons (ds_set (i := 3) nd (de_lst (da_nil)))
    (ds_cons (ds_set (i := 4) nd (de_int))
    (ds_cons (ds_for (bd := .one 5) PassesOwn.never rfl (di_rng1 (by rfl) z_range (da_cons (de_var 1) (da_nil))) (pg_name (i := 5) nd rfl (by first | exact Or.inl rfl | exact Or.inr rfl)) (ds_cons (ds_set (i := 6) nd (de_op mod_ok (de_var 5) (de_callB (len_ok) (by rfl) z_len (by decide +kernel) (da_cons (de_var 2) (da_nil)))))
    (ds_cons (ds_set (i := 7) nd (de_ix (hu1 hr) (de_var 2) (de_var 6)))
    (ds_cons (ds_set (i := 4) nd (de_op mod_ok (de_callT (intS_ok) (by rfl) z_int (by decide +kernel) (da_cons (de_op add_ok (de_op add_ok (de_op add_ok (de_op mul_ok (de_var 4) (de_int)) (de_op mul_ok (de_op mod_ok (de_callT (intS_ok) (by rfl) z_int (by decide +kernel) (da_cons (de_var 7) (da_nil))) (de_int)) (de_int))) (de_op mul_ok (de_var 5) (de_int))) (de_int)) (da_nil))) (de_int)))
    (ds_cons (ds_set (i := 8) nd (de_op mod_ok (de_callT (intS_ok) (by rfl) z_int (by decide +kernel) (da_cons (de_op add_ok (de_op add_ok (de_op mul_ok (de_var 4) (de_var 4)) (de_op mul_ok (de_int) (de_var 4))) (de_var 5)) (da_nil))) (de_int)))
    (ds_one (ds_if (dt_cmp (ge_ok) (de_var 7) (de_op pow_ok (de_int) (de_int))) (ds_cons (ds_expr (de_mtE PySem.F.plainAttrs_list PySem.F.slot_list_append PySem.F.type_list_append app_ok (de_var 3) (da_cons (de_op mod_ok (de_callT (intS_ok) (by rfl) z_int (by decide +kernel) (da_cons (de_var 7) (da_nil))) (de_int)) (da_nil))))
    (ds_one (ds_setE (hu1 hr) (de_var 2) (de_op div_ok (de_var 7) (de_int)) (de_var 6)))) (ds_one (ds_expr (de_mtE PySem.F.plainAttrs_list PySem.F.slot_list_append PySem.F.type_list_append app_ok (de_var 3) (da_cons (de_op mod_ok (de_callT (intS_ok) (by rfl) z_int (by decide +kernel) (da_cons (de_var 8) (da_nil))) (de_int)) (da_nil))))))))))))
    (ds_cons (ds_expr (de_mtE0 PySem.F.plainAttrs_list PySem.F.slot_list_reverse PySem.F.type_list_reverse rev_ok (de_var 3)))
    (ds_one (ds_ret (de_var 3))))))))

/-! ### _law_take -/
abbrev st__law_take : Stmt := topS 30
theorem sc__law_take : FnScope ["draws", "limit"] ["draws", "limit"] (defScope st__law_take) := ⟨rfl, rfl, rfl, by decide +kernel, rfl, by decide +kernel, by decide +kernel⟩
def t__law_take : TSX :=
    sSeq (sIf (tTst (tBin (gEqs2 false) (tCl (gLen) (lCons (tNm 0) (lNil))) (tIm (.int 0)))) (sRet (tIm (.int 0))) (sNil))
    (sRet (tBin gMod (tCl (gIntS) (lCons (tMtE gPop (tNm 0) lNil) (lNil))) (tNm 1)))
theorem ok__law_take {k : Nat} {F : TF} (Ds : DefAt K mg "_law_take" st__law_take ["draws", "limit"]) (z_len : mg "len" = none) (z_int : mg "int" = none)
    (hB : Body F 2 2 fun _ => t__law_take) : FnD Pg w K mg base Ds (k + 1) F := by
  refine fn_ok Ds.fu sc__law_take hB fun cdv A outer s H E c hr => ?_
  have nd := sc__law_take.nd
  exact ds_cons (ds_if (dt_cmp (eq2_ok (hu64 hr)) (de_callB (len_ok) (by rfl) z_len (by decide +kernel) (da_cons (de_var 0) (da_nil))) (de_int)) (ds_one (ds_ret (de_int))) (ds_nil))
    (ds_one (ds_ret (de_op mod_ok (de_callT (intS_ok) (by rfl) z_int (by decide +kernel) (da_cons (de_mtE0 PySem.F.plainAttrs_list PySem.F.slot_list_pop PySem.F.type_list_pop pop_ok (de_var 0)) (da_nil))) (de_var 1))))

/-! ### _law_same -/
abbrev st__law_same : Stmt := topS 31
theorem sc__law_same : FnScope ["found", "due", "k"] ["found", "due"] (defScope st__law_same) := ⟨rfl, rfl, rfl, by decide +kernel, rfl, by decide +kernel, by decide +kernel⟩
def t__law_same (F__law_same : TF) : TSX :=
    sSeq (sIf (tTst (tBin (gIs false) (tNm 1) (tIm .non))) (sRet (tBin (gIs false) (tNm 0) (tIm .non))) (sNil))
    (sSeq (sIf (tTru (tCl (gIsi) (lCons (tNm 1) (lCons (tIm (.raw (.ty "bool"))) (lNil))))) (sRet (tAndX (tCl (gIsi) (lCons (tNm 0) (lCons (tIm (.raw (.ty "bool"))) (lNil)))) (tBin (gEqs2 false) (tNm 0) (tNm 1)))) (sNil))
    (sSeq (sIf (tTru (tCl (gIsi) (lCons (tNm 1) (lCons (tIm (.raw (.ty "int"))) (lNil))))) (sRet (tAndX (tCl (gIsi) (lCons (tNm 0) (lCons (tIm (.raw (.ty "int"))) (lNil)))) (tAndX (tNotX (tCl (gIsi) (lCons (tNm 0) (lCons (tIm (.raw (.ty "bool"))) (lNil))))) (tBin (gEqs2 false) (tNm 0) (tNm 1))))) (sNil))
    (sSeq (sIf (tTru (tCl (gIsi) (lCons (tNm 1) (lCons (tIm (.raw (.ty "str"))) (lNil))))) (sRet (tAndX (tCl (gIsi) (lCons (tNm 0) (lCons (tIm (.raw (.ty "str"))) (lNil)))) (tBin (gEqs2 false) (tNm 0) (tNm 1)))) (sNil))
    (sSeq (sIf (tOrQ (tTst (tBin (gEqs true) (tCl (gIsi) (lCons (tNm 1) (lCons (tIm (.raw (.ty "tuple"))) (lNil)))) (tCl (gIsi) (lCons (tNm 0) (lCons (tIm (.raw (.ty "tuple"))) (lNil)))))) (tTst (tBin (gEqs true) (tCl (gIsi) (lCons (tNm 1) (lCons (tIm (.raw (.ty "list"))) (lNil)))) (tCl (gIsi) (lCons (tNm 0) (lCons (tIm (.raw (.ty "list"))) (lNil))))))) (sRet (tIm (.bl false))) (sNil))
    (sRet (tAndX (tBin (gEqs2 false) (tCl (gLen) (lCons (tNm 0) (lNil))) (tCl (gLen) (lCons (tNm 1) (lNil)))) (tCl (gAll fun bs => bs.all id) (lCons (tLcX (iRg1 (lCons (tCl (gLen) (lCons (tNm 1) (lNil))) (lNil))) (.one 2) (qYes) (tCall ex0 F__law_same 2 (lCons (tBin gIx (tNm 0) (tNm 2)) (lCons (tBin gIx (tNm 1) (tNm 2)) (lNil)))) [2]) (lNil)))))))))
theorem ok__law_same {k : Nat} {F : TF} (Ds : DefAt K mg "_law_same" st__law_same ["found", "due"]) (z_bool : mg "bool" = none) (z_isinstance : mg "isinstance" = none) (z_int : mg "int" = none) (z_str : mg "str" = none) (z_tuple : mg "tuple" = none) (z_list : mg "list" = none) (z_len : mg "len" = none) (z_range : mg "range" = none) (z_all : mg "all" = none) {F__law_same : TF} {k__law_same : Nat} (G__law_same : FnD Pg w K mg base Ds k__law_same F__law_same) (h__law_same : k__law_same ≤ k)
    (hB : Body F 3 2 fun _ => t__law_same F__law_same) : FnD Pg w K mg base Ds (k + 1) F := by
  refine fn_ok Ds.fu sc__law_same hB fun cdv A outer s H E c hr => ?_
  have nd := sc__law_same.nd
  exact ds_cons (ds_if (dt_cmp (is_ok) (de_var 1) (de_non)) (ds_one (ds_ret (de_cmp (is_ok) (de_var 0) (de_non)))) (ds_nil))
    (ds_cons (ds_if (dt_tru (de_callB (isi_ok) (by rfl) z_isinstance (by decide +kernel) (da_cons (de_var 1) (da_cons (de_bltn (v := .ty "bool") (by rfl) z_bool (by decide +kernel) rfl) (da_nil))))) (ds_one (ds_ret (de_and (de_callB (isi_ok) (by rfl) z_isinstance (by decide +kernel) (da_cons (de_var 0) (da_cons (de_bltn (v := .ty "bool") (by rfl) z_bool (by decide +kernel) rfl) (da_nil)))) (de_one (de_cmp (eq2_ok (hu64 hr)) (de_var 0) (de_var 1)))))) (ds_nil))
    (ds_cons (ds_if (dt_tru (de_callB (isi_ok) (by rfl) z_isinstance (by decide +kernel) (da_cons (de_var 1) (da_cons (de_bltn (v := .ty "int") (by rfl) z_int (by decide +kernel) rfl) (da_nil))))) (ds_one (ds_ret (de_and (de_callB (isi_ok) (by rfl) z_isinstance (by decide +kernel) (da_cons (de_var 0) (da_cons (de_bltn (v := .ty "int") (by rfl) z_int (by decide +kernel) rfl) (da_nil)))) (de_and (de_not (de_callB (isi_ok) (by rfl) z_isinstance (by decide +kernel) (da_cons (de_var 0) (da_cons (de_bltn (v := .ty "bool") (by rfl) z_bool (by decide +kernel) rfl) (da_nil))))) (de_one (de_cmp (eq2_ok (hu64 hr)) (de_var 0) (de_var 1))))))) (ds_nil))
    (ds_cons (ds_if (dt_tru (de_callB (isi_ok) (by rfl) z_isinstance (by decide +kernel) (da_cons (de_var 1) (da_cons (de_bltn (v := .ty "str") (by rfl) z_str (by decide +kernel) rfl) (da_nil))))) (ds_one (ds_ret (de_and (de_callB (isi_ok) (by rfl) z_isinstance (by decide +kernel) (da_cons (de_var 0) (da_cons (de_bltn (v := .ty "str") (by rfl) z_str (by decide +kernel) rfl) (da_nil)))) (de_one (de_cmp (eq2_ok (hu64 hr)) (de_var 0) (de_var 1)))))) (ds_nil))
    (ds_cons (ds_if (dw_pt (dw_or (dt_cmp (ne_ok (hu64 hr)) (de_callB (isi_ok) (by rfl) z_isinstance (by decide +kernel) (da_cons (de_var 1) (da_cons (de_bltn (v := .ty "tuple") (by rfl) z_tuple (by decide +kernel) rfl) (da_nil)))) (de_callB (isi_ok) (by rfl) z_isinstance (by decide +kernel) (da_cons (de_var 0) (da_cons (de_bltn (v := .ty "tuple") (by rfl) z_tuple (by decide +kernel) rfl) (da_nil))))) (dw_or1 (dt_cmp (ne_ok (hu64 hr)) (de_callB (isi_ok) (by rfl) z_isinstance (by decide +kernel) (da_cons (de_var 1) (da_cons (de_bltn (v := .ty "list") (by rfl) z_list (by decide +kernel) rfl) (da_nil)))) (de_callB (isi_ok) (by rfl) z_isinstance (by decide +kernel) (da_cons (de_var 0) (da_cons (de_bltn (v := .ty "list") (by rfl) z_list (by decide +kernel) rfl) (da_nil)))))))) (ds_one (ds_ret (de_bl))) (ds_nil))
    (ds_one (ds_ret (de_and (de_cmp (eq2_ok (hu64 hr)) (de_callB (len_ok) (by rfl) z_len (by decide +kernel) (da_cons (de_var 0) (da_nil))) (de_callB (len_ok) (by rfl) z_len (by decide +kernel) (da_cons (de_var 1) (da_nil)))) (de_one (de_callB (all_ok rfl) (by rfl) z_all (by decide +kernel) (da_cons (de_lc (own := [("k", 2)]) (bd := .one 2) rfl nd (di_rng1 (by rfl) z_range (da_cons (de_callB (len_ok) (by rfl) z_len (by decide +kernel) (da_cons (de_var 1) (da_nil))) (da_nil))) (by kernel_rfl) (fun _ _ _ _ _ => pg_name (i := 2) nd rfl (by first | exact Or.inl rfl | exact Or.inr rfl)) (fun _ _ _ _ _ => dq_nil) (fun _ _ _ _ _ => de_call G__law_same (hr.mono h__law_same) (by rfl) Ds.mg Ds.fu.kp Ds.bd (da_cons (de_ix (hu1 hr) (de_var 0) (de_var 2)) (da_cons (de_ix (hu1 hr) (de_var 1) (de_var 2)) (da_nil))))) (da_nil)))))))))))

/-! ### _law_sort -/
abbrev st__law_sort : Stmt := topS 32
theorem sc__law_sort : FnScope ["word", "body", "sign"] ["word"] (defScope st__law_sort) := ⟨rfl, rfl, rfl, by decide +kernel, rfl, by decide +kernel, by decide +kernel⟩
def b__law_sort_1 : TSX :=
    sIf (tTst (tBin (gIns true) (tNm 2) (tIm (.str "abcdefghijklmnopqrstuvwxyz0123456789!*+-./:<=>?_")))) (sRet (tIm (.str "wrong"))) (sNil)
def t__law_sort : TSX :=
    sSeq (sAsg 1 (tIfX (tTru (tSm gStarts (tNm 0) (lCons (tIm (.str "-")) (lNil)))) (tSlc (tNm 0) (pSo (tIm (.int 1))) (pNo)) (tNm 0)))
    (sSeq (sIf (tAndQ (tTst (tBin (gEqs true) (tNm 1) (tIm (.str "")))) (tTru (tCl (gAll fun bs => bs.all id) (lCons (tLcX (iSeq (tNm 1)) (.one 2) (qYes) (tBin (gIns false) (tNm 2) (tIm (.str "0123456789"))) [2]) (lNil))))) (sRet (tIfX (tOrQ (tTst (tBin (gEqs2 false) (tNm 0) (tIm (.str "0")))) (tAndQ (tTst (tBin (gEqs true) (tBin gIx (tNm 1) (tIm (.int 0))) (tIm (.str "0")))) (tTst (tBin (gLt) (tCl (gLen) (lCons (tNm 1) (lNil))) (tIm (.int 31)))))) (tIm (.str "number")) (tIm (.str "wrong")))) (sNil))
    (sSeq (sIf (tOrQ (tTst (tBin (gEqs2 false) (tNm 0) (tIm (.str "#t")))) (tTst (tBin (gEqs2 false) (tNm 0) (tIm (.str "#f"))))) (sRet (tIm (.str "flag"))) (sNil))
    (sSeq (sIf (tOrQ (tTst (tBin (gEqs2 false) (tNm 0) (tIm (.str "...")))) (tTst (tBin (gEqs2 false) (tNm 0) (tIm (.str "_"))))) (sRet (tBin gIx (tTp (lCons (tIm (.str "dots")) (lCons (tIm (.str "wild")) (lNil)))) (tCl (gIntS) (lCons (tBin (gEqs2 false) (tNm 0) (tIm (.str "_"))) (lNil))))) (sNil))
    (sSeq (sFor (iSeq (tNm 0)) (.one 2) (b__law_sort_1))
    (sSeq (sIf (tOrQ (tTst (tBin (gGt) (tCl (gLen) (lCons (tNm 0) (lNil))) (tIm (.int 20)))) (tTst (tBin (gIns false) (tSlc (tNm 1) (pNo) (pSo (tIm (.int 1)))) (tCl (gListS) (lCons (tIm (.str "0123456789")) (lNil)))))) (sRet (tIm (.str "wrong"))) (sNil))
    (sRet (tIm (.str "name"))))))))
theorem ok__law_sort {k : Nat} {F : TF} (Ds : DefAt K mg "_law_sort" st__law_sort ["word"]) (z_all : mg "all" = none) (z_len : mg "len" = none) (z_int : mg "int" = none) (z_list : mg "list" = none)
    (hB : Body F 3 1 fun _ => t__law_sort) : FnD Pg w K mg base Ds (k + 1) F := by
  refine fn_ok Ds.fu sc__law_sort hB fun cdv A outer s H E c hr => ?_
  have nd := sc__law_sort.nd
  exact ds_cons (ds_set (i := 1) nd (de_if (dt_tru (de_sm PySem.F.slot_str_startswith PySem.F.type_str_startswith startswith_ok (de_var 0) (da_cons (de_str) (da_nil)))) (de_slice (de_var 0) (do_so (de_int)) (do_no)) (de_var 0)))
    (ds_cons (ds_if (dw_pt (dw_and (dt_cmp (ne_ok (hu64 hr)) (de_var 1) (de_str)) (dw_and1 (dt_tru (de_callB (all_ok rfl) (by rfl) z_all (by decide +kernel) (da_cons (de_lc (own := [("sign", 2)]) (bd := .one 2) rfl nd (di_seq (de_var 1)) (by kernel_rfl) (fun _ _ _ _ _ => pg_name (i := 2) nd rfl (by first | exact Or.inl rfl | exact Or.inr rfl)) (fun _ _ _ _ _ => dq_nil) (fun _ _ _ _ _ => de_cmp (in_ok (hu65 hr)) (de_var 2) (de_str))) (da_nil))))))) (ds_one (ds_ret (de_if (dw_pt (dw_or (dt_cmp (eq2_ok (hu64 hr)) (de_var 0) (de_str)) (dw_or1 (dw_pt (dw_and (dt_cmp (ne_ok (hu64 hr)) (de_ix (hu1 hr) (de_var 1) (de_int)) (de_str)) (dw_and1 (dt_cmp (lt_ok) (de_callB (len_ok) (by rfl) z_len (by decide +kernel) (da_cons (de_var 1) (da_nil))) (de_int)))))))) (de_str) (de_str)))) (ds_nil))
    (ds_cons (ds_if (dw_pt (dw_or (dt_cmp (eq2_ok (hu64 hr)) (de_var 0) (de_str)) (dw_or1 (dt_cmp (eq2_ok (hu64 hr)) (de_var 0) (de_str))))) (ds_one (ds_ret (de_str))) (ds_nil))
    (ds_cons (ds_if (dw_pt (dw_or (dt_cmp (eq2_ok (hu64 hr)) (de_var 0) (de_str)) (dw_or1 (dt_cmp (eq2_ok (hu64 hr)) (de_var 0) (de_str))))) (ds_one (ds_ret (de_ix (hu1 hr) (de_tup (da_cons (de_str) (da_cons (de_str) (da_nil)))) (de_callT (intS_ok) (by rfl) z_int (by decide +kernel) (da_cons (de_cmp (eq2_ok (hu64 hr)) (de_var 0) (de_str)) (da_nil)))))) (ds_nil))
    (ds_cons (ds_for (bd := .one 2) PassesOwn.never rfl (di_seq (de_var 0)) (pg_name (i := 2) nd rfl (by first | exact Or.inl rfl | exact Or.inr rfl)) (ds_one (ds_if (dt_cmp (notin_ok (hu65 hr)) (de_var 2) (de_str)) (ds_one (ds_ret (de_str))) (ds_nil))))
    (ds_cons (ds_if (dw_pt (dw_or (dt_cmp (gt_ok) (de_callB (len_ok) (by rfl) z_len (by decide +kernel) (da_cons (de_var 0) (da_nil))) (de_int)) (dw_or1 (dt_cmp (in_ok (hu65 hr)) (de_slice (de_var 1) (do_no) (do_so (de_int))) (de_callT (listS_ok rfl) (by rfl) z_list (by decide +kernel) (da_cons (de_str) (da_nil))))))) (ds_one (ds_ret (de_str))) (ds_nil))
    (ds_one (ds_ret (de_str))))))))

/-! ### _law_tokens -/
abbrev st__law_tokens : Stmt := topS 33
theorem sc__law_tokens : FnScope ["text", "found", "at", "turn", "sign", "end", "closed"] ["text"] (defScope st__law_tokens) := ⟨rfl, rfl, rfl, by decide +kernel, rfl, by decide +kernel, by decide +kernel⟩
def b__law_tokens_2 (F__law_sort : TF) : TSX :=
    sAsg 5 (tBin gAdd (tNm 5) (tIm (.int 1)))
def b__law_tokens_3 (F__law_sort : TF) : TSX :=
    sAsg 5 (tBin gAdd (tNm 5) (tIm (.int 1)))
def b__law_tokens_4 (F__law_sort : TF) : TSX :=
    sAsg 5 (tBin gAdd (tNm 5) (tIm (.int 1)))
def b__law_tokens_1 (F__law_sort : TF) : TSX :=
    sSeq (sIf (tTst (tBin (gGe) (tNm 2) (tCl (gLen) (lCons (tNm 0) (lNil))))) (sBk) (sNil))
    (sSeq (sAsg 4 (tBin gIx (tNm 0) (tNm 2)))
    (sSeq (sAsg 5 (tBin gAdd (tNm 2) (tIm (.int 1))))
    (sSeq (sIf (tTst (tBin (gEqs2 false) (tNm 4) (tIm (.str ";")))) (sWhile (tAndQ (tTst (tBin (gLt) (tNm 5) (tCl (gLen) (lCons (tNm 0) (lNil))))) (tTst (tBin (gEqs true) (tBin gIx (tNm 0) (tNm 5)) (tIm (.str "\n"))))) (b__law_tokens_2 F__law_sort)) (sIf (tTst (tBin (gIns false) (tNm 4) (tIm (.str "()'")))) (sDrop (tMtE gApp (tNm 1) (lCons (tTp (lCons (tIm (.str "sign")) (lCons (tNm 2) (lCons (tNm 5) (lNil))))) (lNil)))) (sIf (tTst (tBin (gEqs2 false) (tNm 4) (tIm (.str "\"")))) (sSeq (sWhile (tAndQ (tTst (tBin (gLt) (tNm 5) (tCl (gLen) (lCons (tNm 0) (lNil))))) (tAndQ (tTst (tBin (gEqs true) (tBin gIx (tNm 0) (tNm 5)) (tIm (.str "\n")))) (tTst (tBin (gEqs true) (tBin gIx (tNm 0) (tNm 5)) (tIm (.str "\"")))))) (b__law_tokens_3 F__law_sort))
    (sSeq (sAsg 6 (tAndX (tBin (gLt) (tNm 5) (tCl (gLen) (lCons (tNm 0) (lNil)))) (tBin (gEqs2 false) (tBin gIx (tNm 0) (tNm 5)) (tIm (.str "\"")))))
    (sSeq (sAsg 5 (tBin gAdd (tNm 5) (tCl (gIntS) (lCons (tNm 6) (lNil)))))
    (sDrop (tMtE gApp (tNm 1) (lCons (tTp (lCons (tIfX (tAndQ (tTru (tNm 6)) (tTst (tBin (gLt) (tBin gSub (tNm 5) (tNm 2)) (tIm (.int 103))))) (tIm (.str "string")) (tIm (.str "wrong"))) (lCons (tNm 2) (lCons (tNm 5) (lNil))))) (lNil))))))) (sIf (tAndQ (tTst (tBin (gEqs true) (tNm 4) (tIm (.str " ")))) (tTst (tBin (gEqs true) (tNm 4) (tIm (.str "\n"))))) (sSeq (sWhile (tAndQ (tTst (tBin (gLt) (tNm 5) (tCl (gLen) (lCons (tNm 0) (lNil))))) (tTst (tBin (gIns true) (tBin gIx (tNm 0) (tNm 5)) (tIm (.str " \n()'\";"))))) (b__law_tokens_4 F__law_sort))
    (sIf (tAndQ (tTst (tBin (gEqs2 false) (tSlc (tNm 0) (pSo (tNm 2)) (pSo (tNm 5))) (tIm (.str "#")))) (tTst (tBin (gEqs2 false) (tSlc (tNm 0) (pSo (tNm 5)) (pSo (tBin gAdd (tNm 5) (tIm (.int 1))))) (tIm (.str "'"))))) (sSeq (sAsg 5 (tBin gAdd (tNm 5) (tIm (.int 1))))
    (sDrop (tMtE gApp (tNm 1) (lCons (tTp (lCons (tIm (.str "sign")) (lCons (tNm 2) (lCons (tNm 5) (lNil))))) (lNil))))) (sDrop (tMtE gApp (tNm 1) (lCons (tTp (lCons (tCall ex0 F__law_sort 1 (lCons (tSlc (tNm 0) (pSo (tNm 2)) (pSo (tNm 5))) (lNil))) (lCons (tNm 2) (lCons (tNm 5) (lNil))))) (lNil)))))) (sNil)))))
    (sAsg 2 (tNm 5)))))
def t__law_tokens (F__law_sort : TF) : TSX :=
    sSeq (sAsg 1 (tLs (lNil)))
    (sSeq (sAsg 2 (tIm (.int 0)))
    (sSeq (sFor (iRg1 (lCons (tBin gAdd (tCl (gLen) (lCons (tNm 0) (lNil))) (tIm (.int 1))) (lNil))) (.one 3) (b__law_tokens_1 F__law_sort))
    (sRet (tNm 1))))
theorem ok__law_tokens {k : Nat} {F : TF} (Ds : DefAt K mg "_law_tokens" st__law_tokens ["text"]) (z_range : mg "range" = none) (z_len : mg "len" = none) (z_int : mg "int" = none) {F__law_sort : TF} {k__law_sort : Nat} (D__law_sort : DefAt K mg "_law_sort" st__law_sort ["word"]) (G__law_sort : FnD Pg w K mg base D__law_sort k__law_sort F__law_sort) (h__law_sort : k__law_sort ≤ k)
    (hB : Body F 7 1 fun _ => t__law_tokens F__law_sort) : FnD Pg w K mg base Ds (k + 1) F := by
  refine fn_ok Ds.fu sc__law_tokens hB fun cdv A outer s H E c hr => ?_
  have nd := sc__law_tokens.nd
  exact ds_cons (ds_set (i := 1) nd (de_lst (da_nil)))
    (ds_cons (ds_set (i := 2) nd (de_int))
    (ds_cons (ds_for (bd := .one 3) PassesOwn.never rfl (di_rng1 (by rfl) z_range (da_cons (de_op add_ok (de_callB (len_ok) (by rfl) z_len (by decide +kernel) (da_cons (de_var 0) (da_nil))) (de_int)) (da_nil))) (pg_name (i := 3) nd rfl (by first | exact Or.inl rfl | exact Or.inr rfl)) (ds_cons (ds_if (dt_cmp (ge_ok) (de_var 2) (de_callB (len_ok) (by rfl) z_len (by decide +kernel) (da_cons (de_var 0) (da_nil)))) (ds_one (ds_break)) (ds_nil))
    (ds_cons (ds_set (i := 4) nd (de_ix (hu1 hr) (de_var 0) (de_var 2)))
    (ds_cons (ds_set (i := 5) nd (de_op add_ok (de_var 2) (de_int)))
    (ds_cons (ds_if (dt_cmp (eq2_ok (hu64 hr)) (de_var 4) (de_str)) (ds_one (ds_while PassesOwn.never (dw_pt (dw_and (dt_cmp (lt_ok) (de_var 5) (de_callB (len_ok) (by rfl) z_len (by decide +kernel) (da_cons (de_var 0) (da_nil)))) (dw_and1 (dt_cmp (ne_ok (hu64 hr)) (de_ix (hu1 hr) (de_var 0) (de_var 5)) (de_str))))) (ds_one (ds_set (i := 5) nd (de_op add_ok (de_var 5) (de_int)))))) (ds_one (ds_if (dt_cmp (in_ok (hu65 hr)) (de_var 4) (de_str)) (ds_one (ds_expr (de_mtE PySem.F.plainAttrs_list PySem.F.slot_list_append PySem.F.type_list_append app_ok (de_var 1) (da_cons (de_tup (da_cons (de_str) (da_cons (de_var 2) (da_cons (de_var 5) (da_nil))))) (da_nil))))) (ds_one (ds_if (dt_cmp (eq2_ok (hu64 hr)) (de_var 4) (de_str)) (ds_cons (ds_while PassesOwn.never (dw_pt (dw_and (dt_cmp (lt_ok) (de_var 5) (de_callB (len_ok) (by rfl) z_len (by decide +kernel) (da_cons (de_var 0) (da_nil)))) (dw_and (dt_cmp (ne_ok (hu64 hr)) (de_ix (hu1 hr) (de_var 0) (de_var 5)) (de_str)) (dw_and1 (dt_cmp (ne_ok (hu64 hr)) (de_ix (hu1 hr) (de_var 0) (de_var 5)) (de_str)))))) (ds_one (ds_set (i := 5) nd (de_op add_ok (de_var 5) (de_int)))))
    (ds_cons (ds_set (i := 6) nd (de_and (de_cmp (lt_ok) (de_var 5) (de_callB (len_ok) (by rfl) z_len (by decide +kernel) (da_cons (de_var 0) (da_nil)))) (de_one (de_cmp (eq2_ok (hu64 hr)) (de_ix (hu1 hr) (de_var 0) (de_var 5)) (de_str)))))
    (ds_cons (ds_set (i := 5) nd (de_op add_ok (de_var 5) (de_callT (intS_ok) (by rfl) z_int (by decide +kernel) (da_cons (de_var 6) (da_nil)))))
    (ds_one (ds_expr (de_mtE PySem.F.plainAttrs_list PySem.F.slot_list_append PySem.F.type_list_append app_ok (de_var 1) (da_cons (de_tup (da_cons (de_if (dw_pt (dw_and (dt_tru (de_var 6)) (dw_and1 (dt_cmp (lt_ok) (de_op sub_ok (de_var 5) (de_var 2)) (de_int))))) (de_str) (de_str)) (da_cons (de_var 2) (da_cons (de_var 5) (da_nil))))) (da_nil)))))))) (ds_one (ds_if (dw_pt (dw_and (dt_cmp (ne_ok (hu64 hr)) (de_var 4) (de_str)) (dw_and1 (dt_cmp (ne_ok (hu64 hr)) (de_var 4) (de_str))))) (ds_cons (ds_while PassesOwn.never (dw_pt (dw_and (dt_cmp (lt_ok) (de_var 5) (de_callB (len_ok) (by rfl) z_len (by decide +kernel) (da_cons (de_var 0) (da_nil)))) (dw_and1 (dt_cmp (notin_ok (hu65 hr)) (de_ix (hu1 hr) (de_var 0) (de_var 5)) (de_str))))) (ds_one (ds_set (i := 5) nd (de_op add_ok (de_var 5) (de_int)))))
    (ds_one (ds_if (dw_pt (dw_and (dt_cmp (eq2_ok (hu64 hr)) (de_slice (de_var 0) (do_so (de_var 2)) (do_so (de_var 5))) (de_str)) (dw_and1 (dt_cmp (eq2_ok (hu64 hr)) (de_slice (de_var 0) (do_so (de_var 5)) (do_so (de_op add_ok (de_var 5) (de_int)))) (de_str))))) (ds_cons (ds_set (i := 5) nd (de_op add_ok (de_var 5) (de_int)))
    (ds_one (ds_expr (de_mtE PySem.F.plainAttrs_list PySem.F.slot_list_append PySem.F.type_list_append app_ok (de_var 1) (da_cons (de_tup (da_cons (de_str) (da_cons (de_var 2) (da_cons (de_var 5) (da_nil))))) (da_nil)))))) (ds_one (ds_expr (de_mtE PySem.F.plainAttrs_list PySem.F.slot_list_append PySem.F.type_list_append app_ok (de_var 1) (da_cons (de_tup (da_cons (de_call G__law_sort (hr.mono h__law_sort) (by rfl) D__law_sort.mg D__law_sort.fu.kp D__law_sort.bd (da_cons (de_slice (de_var 0) (do_so (de_var 2)) (do_so (de_var 5))) (da_nil))) (da_cons (de_var 2) (da_cons (de_var 5) (da_nil))))) (da_nil)))))))) (ds_nil))))))))
    (ds_one (ds_set (i := 2) nd (de_var 5))))))))
    (ds_one (ds_ret (de_var 1)))))

/-! ### _law_value -/
abbrev st__law_value : Stmt := topS 34
theorem sc__law_value : FnScope ["sort", "word"] ["sort", "word"] (defScope st__law_value) := ⟨rfl, rfl, rfl, by decide +kernel, rfl, by decide +kernel, by decide +kernel⟩
def t__law_value : TSX :=
    sSeq (sIf (tTst (tBin (gEqs2 false) (tNm 0) (tIm (.str "string")))) (sRet (tTp (lCons (tIm (.str "text")) (lCons (tSlc (tNm 1) (pSo (tIm (.int 1))) (pSo (tBin gSub (tCl (gLen) (lCons (tNm 1) (lNil))) (tIm (.int 1))))) (lNil))))) (sNil))
    (sSeq (sIf (tTst (tBin (gEqs2 false) (tNm 0) (tIm (.str "number")))) (sRet (tTp (lCons (tIm (.str "number")) (lCons (tCl (gIntS) (lCons (tNm 1) (lNil))) (lNil))))) (sNil))
    (sSeq (sIf (tTst (tBin (gEqs2 false) (tNm 0) (tIm (.str "flag")))) (sRet (tTp (lCons (tIm (.str "flag")) (lCons (tBin (gEqs2 false) (tNm 1) (tIm (.str "#t"))) (lNil))))) (sNil))
    (sRet (tIfX (tTst (tBin (gEqs2 false) (tNm 0) (tIm (.str "name")))) (tTp (lCons (tIm (.str "name")) (lCons (tNm 1) (lNil)))) (tTp (lCons (tNm 0) (lCons (tIm .non) (lNil))))))))
theorem ok__law_value {k : Nat} {F : TF} (Ds : DefAt K mg "_law_value" st__law_value ["sort", "word"]) (z_len : mg "len" = none) (z_int : mg "int" = none)
    (hB : Body F 2 2 fun _ => t__law_value) : FnD Pg w K mg base Ds (k + 1) F := by
  refine fn_ok Ds.fu sc__law_value hB fun cdv A outer s H E c hr => ?_
  have nd := sc__law_value.nd
  exact ds_cons (ds_if (dt_cmp (eq2_ok (hu64 hr)) (de_var 0) (de_str)) (ds_one (ds_ret (de_tup (da_cons (de_str) (da_cons (de_slice (de_var 1) (do_so (de_int)) (do_so (de_op sub_ok (de_callB (len_ok) (by rfl) z_len (by decide +kernel) (da_cons (de_var 1) (da_nil))) (de_int)))) (da_nil)))))) (ds_nil))
    (ds_cons (ds_if (dt_cmp (eq2_ok (hu64 hr)) (de_var 0) (de_str)) (ds_one (ds_ret (de_tup (da_cons (de_str) (da_cons (de_callT (intS_ok) (by rfl) z_int (by decide +kernel) (da_cons (de_var 1) (da_nil))) (da_nil)))))) (ds_nil))
    (ds_cons (ds_if (dt_cmp (eq2_ok (hu64 hr)) (de_var 0) (de_str)) (ds_one (ds_ret (de_tup (da_cons (de_str) (da_cons (de_cmp (eq2_ok (hu64 hr)) (de_var 1) (de_str)) (da_nil)))))) (ds_nil))
    (ds_one (ds_ret (de_if (dt_cmp (eq2_ok (hu64 hr)) (de_var 0) (de_str)) (de_tup (da_cons (de_str) (da_cons (de_var 1) (da_nil)))) (de_tup (da_cons (de_var 0) (da_cons (de_non) (da_nil)))))))))

/-! ### _law_datum -/
abbrev st__law_datum : Stmt := topS 35
theorem sc__law_datum : FnScope ["text", "items", "state", "depth", "sort", "start", "end", "word", "place", "parts"] ["text", "items", "state", "depth"] (defScope st__law_datum) := ⟨rfl, rfl, rfl, by decide +kernel, rfl, by decide +kernel, by decide +kernel⟩
def b__law_datum_1 (F__law_value : TF) (F__law_datum : TF) : TSX :=
    sSeq (sIf (tAndQ (tTst (tBin (gLt) (tBin gIx (tNm 2) (tIm (.str "at"))) (tCl (gLen) (lCons (tNm 1) (lNil))))) (tTst (tBin (gEqs2 false) (tSlc (tNm 0) (pSo (tBin gIx (tBin gIx (tNm 1) (tBin gIx (tNm 2) (tIm (.str "at")))) (tIm (.int 1)))) (pSo (tBin gIx (tBin gIx (tNm 1) (tBin gIx (tNm 2) (tIm (.str "at")))) (tIm (.int 2))))) (tIm (.str ")"))))) (sSeq (sSetE (tNm 2) (tIm (.str "at")) (tBin gAdd (tBin gIx (tNm 2) (tIm (.str "at"))) (tIm (.int 1))))
    (sRet (tTp (lCons (tIm (.str "list")) (lCons (tCl (gTuple) (lCons (tNm 9) (lNil))) (lCons (tNm 8) (lNil))))))) (sNil))
    (sDrop (tMtE gApp (tNm 9) (lCons (tCall ex0 F__law_datum 4 (lCons (tNm 0) (lCons (tNm 1) (lCons (tNm 2) (lCons (tBin gAdd (tNm 3) (tIm (.int 1))) (lNil)))))) (lNil))))
def t__law_datum (F__law_value : TF) (F__law_datum : TF) : TSX :=
    sSeq (sIf (tTst (tBin (gGe) (tBin gIx (tNm 2) (tIm (.str "bad"))) (tIm (.int 0)))) (sRet (tIm .non)) (sNil))
    (sSeq (sIf (tTst (tBin (gEqs2 false) (tBin gIx (tNm 2) (tIm (.str "at"))) (tCl (gLen) (lCons (tNm 1) (lNil))))) (sSeq (sSetE (tNm 2) (tIm (.str "bad")) (tCl (gLen) (lCons (tNm 0) (lNil))))
    (sRet (tIm .non))) (sNil))
    (sSeq (sUnp (.many [4, 5, 6]) (tBin gIx (tNm 1) (tBin gIx (tNm 2) (tIm (.str "at")))))
    (sSeq (sAsg 7 (tSlc (tNm 0) (pSo (tNm 5)) (pSo (tNm 6))))
    (sSeq (sSetE (tNm 2) (tIm (.str "at")) (tBin gAdd (tBin gIx (tNm 2) (tIm (.str "at"))) (tIm (.int 1))))
    (sSeq (sIf (tOrQ (tTst (tBin (gEqs2 false) (tNm 4) (tIm (.str "wrong")))) (tOrQ (tTst (tBin (gEqs2 false) (tNm 7) (tIm (.str ")")))) (tAndQ (tTst (tBin (gEqs2 false) (tNm 4) (tIm (.str "sign")))) (tTst (tBin (gEqs2 false) (tNm 3) (tIm (.int 60))))))) (sSeq (sSetE (tNm 2) (tIm (.str "bad")) (tNm 5))
    (sRet (tIm .non))) (sNil))
    (sSeq (sAsg 8 (tBin gIx (tNm 2) (tIm (.str "place"))))
    (sSeq (sSetE (tNm 2) (tIm (.str "place")) (tBin gAdd (tNm 8) (tIm (.int 1))))
    (sSeq (sDrop (tMtE gApp (tBin gIx (tNm 2) (tIm (.str "starts"))) (lCons (tNm 5) (lNil))))
    (sSeq (sIf (tTst (tBin (gEqs true) (tNm 4) (tIm (.str "sign")))) (sRet (tBin gAdd (tCall ex0 F__law_value 2 (lCons (tNm 4) (lCons (tNm 7) (lNil)))) (tTp (lCons (tNm 8) (lNil))))) (sNil))
    (sSeq (sAsg 9 (tLs (lNil)))
    (sSeq (sIf (tTst (tBin (gEqs true) (tNm 7) (tIm (.str "(")))) (sSeq (sDrop (tMtE gApp (tBin gIx (tNm 2) (tIm (.str "starts"))) (lCons (tNm 5) (lNil))))
    (sSeq (sSetE (tNm 2) (tIm (.str "place")) (tBin gAdd (tNm 8) (tIm (.int 2))))
    (sSeq (sDrop (tMtE gApp (tNm 9) (lCons (tTp (lCons (tIm (.str "name")) (lCons (tIfX (tTst (tBin (gEqs2 false) (tNm 7) (tIm (.str "'")))) (tIm (.str "quote")) (tIm (.str "syntax"))) (lCons (tBin gAdd (tNm 8) (tIm (.int 1))) (lNil))))) (lNil))))
    (sSeq (sDrop (tMtE gApp (tNm 9) (lCons (tCall ex0 F__law_datum 4 (lCons (tNm 0) (lCons (tNm 1) (lCons (tNm 2) (lCons (tBin gAdd (tNm 3) (tIm (.int 1))) (lNil)))))) (lNil))))
    (sRet (tTp (lCons (tIm (.str "list")) (lCons (tCl (gTuple) (lCons (tNm 9) (lNil))) (lCons (tNm 8) (lNil)))))))))) (sNil))
    (sSeq (sWhile (tTst (tBin (gLt) (tBin gIx (tNm 2) (tIm (.str "bad"))) (tIm (.int 0)))) (b__law_datum_1 F__law_value F__law_datum))
    (sRet (tIm .non))))))))))))))
theorem ok__law_datum {k : Nat} {F : TF} (Ds : DefAt K mg "_law_datum" st__law_datum ["text", "items", "state", "depth"]) (z_len : mg "len" = none) (z_tuple : mg "tuple" = none) {F__law_value : TF} {k__law_value : Nat} (D__law_value : DefAt K mg "_law_value" st__law_value ["sort", "word"]) (G__law_value : FnD Pg w K mg base D__law_value k__law_value F__law_value) (h__law_value : k__law_value ≤ k) {F__law_datum : TF} {k__law_datum : Nat} (G__law_datum : FnD Pg w K mg base Ds k__law_datum F__law_datum) (h__law_datum : k__law_datum ≤ k)
    (hB : Body F 10 4 fun _ => t__law_datum F__law_value F__law_datum) : FnD Pg w K mg base Ds (k + 1) F := by
  refine fn_ok Ds.fu sc__law_datum hB fun cdv A outer s H E c hr => ?_
  have nd := sc__law_datum.nd
  exact ds_cons (ds_if (dt_cmp (ge_ok) (de_ix (hu1 hr) (de_var 2) (de_str)) (de_int)) (ds_one (ds_ret (de_non))) (ds_nil))
    (ds_cons (ds_if (dt_cmp (eq2_ok (hu64 hr)) (de_ix (hu1 hr) (de_var 2) (de_str)) (de_callB (len_ok) (by rfl) z_len (by decide +kernel) (da_cons (de_var 1) (da_nil)))) (ds_cons (ds_setE (hu1 hr) (de_var 2) (de_callB (len_ok) (by rfl) z_len (by decide +kernel) (da_cons (de_var 0) (da_nil))) (de_str))
    (ds_one (ds_ret (de_non)))) (ds_nil))
    (ds_cons (ds_unp (bd := .many [4, 5, 6]) (de_ix (hu1 hr) (de_var 1) (de_ix (hu1 hr) (de_var 2) (de_str))) (pg_tup rfl (pgs_cons (pg_name (i := 4) nd rfl (by first | exact Or.inl rfl | exact Or.inr rfl)) (pgs_cons (pg_name (i := 5) nd rfl (by first | exact Or.inl rfl | exact Or.inr rfl)) (pgs_cons (pg_name (i := 6) nd rfl (by first | exact Or.inl rfl | exact Or.inr rfl)) (pgs_nil))))))
    (ds_cons (ds_set (i := 7) nd (de_slice (de_var 0) (do_so (de_var 5)) (do_so (de_var 6))))
    (ds_cons (ds_setE (hu1 hr) (de_var 2) (de_op add_ok (de_ix (hu1 hr) (de_var 2) (de_str)) (de_int)) (de_str))
    (ds_cons (ds_if (dw_pt (dw_or (dt_cmp (eq2_ok (hu64 hr)) (de_var 4) (de_str)) (dw_or (dt_cmp (eq2_ok (hu64 hr)) (de_var 7) (de_str)) (dw_or1 (dw_pt (dw_and (dt_cmp (eq2_ok (hu64 hr)) (de_var 4) (de_str)) (dw_and1 (dt_cmp (eq2_ok (hu64 hr)) (de_var 3) (de_int))))))))) (ds_cons (ds_setE (hu1 hr) (de_var 2) (de_var 5) (de_str))
    (ds_one (ds_ret (de_non)))) (ds_nil))
    (ds_cons (ds_set (i := 8) nd (de_ix (hu1 hr) (de_var 2) (de_str)))
    (ds_cons (ds_setE (hu1 hr) (de_var 2) (de_op add_ok (de_var 8) (de_int)) (de_str))
    (ds_cons (ds_expr (de_mtE PySem.F.plainAttrs_list PySem.F.slot_list_append PySem.F.type_list_append app_ok (de_ix (hu1 hr) (de_var 2) (de_str)) (da_cons (de_var 5) (da_nil))))
    (ds_cons (ds_if (dt_cmp (ne_ok (hu64 hr)) (de_var 4) (de_str)) (ds_one (ds_ret (de_op add_ok (de_call G__law_value (hr.mono h__law_value) (by rfl) D__law_value.mg D__law_value.fu.kp D__law_value.bd (da_cons (de_var 4) (da_cons (de_var 7) (da_nil)))) (de_tup (da_cons (de_var 8) (da_nil)))))) (ds_nil))
    (ds_cons (ds_set (i := 9) nd (de_lst (da_nil)))
    (ds_cons (ds_if (dt_cmp (ne_ok (hu64 hr)) (de_var 7) (de_str)) (ds_cons (ds_expr (de_mtE PySem.F.plainAttrs_list PySem.F.slot_list_append PySem.F.type_list_append app_ok (de_ix (hu1 hr) (de_var 2) (de_str)) (da_cons (de_var 5) (da_nil))))
    (ds_cons (ds_setE (hu1 hr) (de_var 2) (de_op add_ok (de_var 8) (de_int)) (de_str))
    (ds_cons (ds_expr (de_mtE PySem.F.plainAttrs_list PySem.F.slot_list_append PySem.F.type_list_append app_ok (de_var 9) (da_cons (de_tup (da_cons (de_str) (da_cons (de_if (dt_cmp (eq2_ok (hu64 hr)) (de_var 7) (de_str)) (de_str) (de_str)) (da_cons (de_op add_ok (de_var 8) (de_int)) (da_nil))))) (da_nil))))
    (ds_cons (ds_expr (de_mtE PySem.F.plainAttrs_list PySem.F.slot_list_append PySem.F.type_list_append app_ok (de_var 9) (da_cons (de_call G__law_datum (hr.mono h__law_datum) (by rfl) Ds.mg Ds.fu.kp Ds.bd (da_cons (de_var 0) (da_cons (de_var 1) (da_cons (de_var 2) (da_cons (de_op add_ok (de_var 3) (de_int)) (da_nil)))))) (da_nil))))
    (ds_one (ds_ret (de_tup (da_cons (de_str) (da_cons (de_callT (tuple_ok) (by rfl) z_tuple (by decide +kernel) (da_cons (de_var 9) (da_nil))) (da_cons (de_var 8) (da_nil))))))))))) (ds_nil))
    (ds_cons (ds_while PassesOwn.never (dt_cmp (lt_ok) (de_ix (hu1 hr) (de_var 2) (de_str)) (de_int)) (ds_cons (ds_if (dw_pt (dw_and (dt_cmp (lt_ok) (de_ix (hu1 hr) (de_var 2) (de_str)) (de_callB (len_ok) (by rfl) z_len (by decide +kernel) (da_cons (de_var 1) (da_nil)))) (dw_and1 (dt_cmp (eq2_ok (hu64 hr)) (de_slice (de_var 0) (do_so (de_ix (hu1 hr) (de_ix (hu1 hr) (de_var 1) (de_ix (hu1 hr) (de_var 2) (de_str))) (de_int))) (do_so (de_ix (hu1 hr) (de_ix (hu1 hr) (de_var 1) (de_ix (hu1 hr) (de_var 2) (de_str))) (de_int)))) (de_str))))) (ds_cons (ds_setE (hu1 hr) (de_var 2) (de_op add_ok (de_ix (hu1 hr) (de_var 2) (de_str)) (de_int)) (de_str))
    (ds_one (ds_ret (de_tup (da_cons (de_str) (da_cons (de_callT (tuple_ok) (by rfl) z_tuple (by decide +kernel) (da_cons (de_var 9) (da_nil))) (da_cons (de_var 8) (da_nil)))))))) (ds_nil))
    (ds_one (ds_expr (de_mtE PySem.F.plainAttrs_list PySem.F.slot_list_append PySem.F.type_list_append app_ok (de_var 9) (da_cons (de_call G__law_datum (hr.mono h__law_datum) (by rfl) Ds.mg Ds.fu.kp Ds.bd (da_cons (de_var 0) (da_cons (de_var 1) (da_cons (de_var 2) (da_cons (de_op add_ok (de_var 3) (de_int)) (da_nil)))))) (da_nil)))))))
    (ds_one (ds_ret (de_non)))))))))))))))

/-! ### _law_read -/
abbrev st__law_read : Stmt := topS 36
theorem sc__law_read : FnScope ["text", "items", "state", "forms"] ["text"] (defScope st__law_read) := ⟨rfl, rfl, rfl, by decide +kernel, rfl, by decide +kernel, by decide +kernel⟩
def b__law_read_1 (F__law_tokens : TF) (F__law_datum : TF) : TSX :=
    sDrop (tMtE gApp (tNm 3) (lCons (tCall ex0 F__law_datum 4 (lCons (tNm 0) (lCons (tNm 1) (lCons (tNm 2) (lCons (tIm (.int 0)) (lNil)))))) (lNil)))
def t__law_read (F__law_tokens : TF) (F__law_datum : TF) : TSX :=
    sSeq (sIf (tTst (tBin (gGt) (tCl (gLen) (lCons (tNm 0) (lNil))) (tIm (.int 6000)))) (sRet (tTp (lCons (tIm (.str "bad")) (lCons (tIm (.int 6000)) (lNil))))) (sNil))
    (sSeq (sAsg 1 (tCall ex0 F__law_tokens 1 (lCons (tNm 0) (lNil))))
    (sSeq (sAsg 2 (tDspK (lCons (tIm (.str "bad")) (lCons (tBin gSub (tIm (.int 0)) (tIm (.int 1))) (lCons (tIm (.str "at")) (lCons (tIm (.int 0)) (lCons (tIm (.str "place")) (lCons (tIm (.int 0)) (lCons (tIm (.str "starts")) (lCons (tPub (tLs (lNil))) (lNil)))))))))))
    (sSeq (sAsg 3 (tLs (lNil)))
    (sSeq (sWhile (tAndQ (tTst (tBin (gLt) (tBin gIx (tNm 2) (tIm (.str "bad"))) (tIm (.int 0)))) (tTst (tBin (gLt) (tBin gIx (tNm 2) (tIm (.str "at"))) (tCl (gLen) (lCons (tNm 1) (lNil)))))) (b__law_read_1 F__law_tokens F__law_datum))
    (sSeq (sIf (tTst (tBin (gGe) (tBin gIx (tNm 2) (tIm (.str "bad"))) (tIm (.int 0)))) (sRet (tTp (lCons (tIm (.str "bad")) (lCons (tBin gIx (tNm 2) (tIm (.str "bad"))) (lNil))))) (sNil))
    (sRet (tTp (lCons (tIm (.str "good")) (lCons (tCl (gTuple) (lCons (tNm 3) (lNil))) (lCons (tBin gIx (tNm 2) (tIm (.str "starts"))) (lNil)))))))))))
theorem ok__law_read {k : Nat} {F : TF} (Ds : DefAt K mg "_law_read" st__law_read ["text"]) (z_len : mg "len" = none) (z_tuple : mg "tuple" = none) {F__law_tokens : TF} {k__law_tokens : Nat} (D__law_tokens : DefAt K mg "_law_tokens" st__law_tokens ["text"]) (G__law_tokens : FnD Pg w K mg base D__law_tokens k__law_tokens F__law_tokens) (h__law_tokens : k__law_tokens ≤ k) {F__law_datum : TF} {k__law_datum : Nat} (D__law_datum : DefAt K mg "_law_datum" st__law_datum ["text", "items", "state", "depth"]) (G__law_datum : FnD Pg w K mg base D__law_datum k__law_datum F__law_datum) (h__law_datum : k__law_datum ≤ k)
    (hB : Body F 4 1 fun _ => t__law_read F__law_tokens F__law_datum) : FnD Pg w K mg base Ds (k + 1) F := by
  refine fn_ok Ds.fu sc__law_read hB fun cdv A outer s H E c hr => ?_
  have nd := sc__law_read.nd
  exact ds_cons (ds_if (dt_cmp (gt_ok) (de_callB (len_ok) (by rfl) z_len (by decide +kernel) (da_cons (de_var 0) (da_nil))) (de_int)) (ds_one (ds_ret (de_tup (da_cons (de_str) (da_cons (de_int) (da_nil)))))) (ds_nil))
    (ds_cons (ds_set (i := 1) nd (de_call G__law_tokens (hr.mono h__law_tokens) (by rfl) D__law_tokens.mg D__law_tokens.fu.kp D__law_tokens.bd (da_cons (de_var 0) (da_nil))))
    (ds_cons (ds_set (i := 2) nd (de_dspK (dps_cons (de_str) (de_op sub_ok (de_int) (de_int)) (dps_cons (de_str) (de_int) (dps_cons (de_str) (de_int) (dps_cons (de_str) (de_pub (de_lst (da_nil))) (dps_nil)))))))
    (ds_cons (ds_set (i := 3) nd (de_lst (da_nil)))
    (ds_cons (ds_while PassesOwn.never (dw_pt (dw_and (dt_cmp (lt_ok) (de_ix (hu1 hr) (de_var 2) (de_str)) (de_int)) (dw_and1 (dt_cmp (lt_ok) (de_ix (hu1 hr) (de_var 2) (de_str)) (de_callB (len_ok) (by rfl) z_len (by decide +kernel) (da_cons (de_var 1) (da_nil))))))) (ds_one (ds_expr (de_mtE PySem.F.plainAttrs_list PySem.F.slot_list_append PySem.F.type_list_append app_ok (de_var 3) (da_cons (de_call G__law_datum (hr.mono h__law_datum) (by rfl) D__law_datum.mg D__law_datum.fu.kp D__law_datum.bd (da_cons (de_var 0) (da_cons (de_var 1) (da_cons (de_var 2) (da_cons (de_int) (da_nil)))))) (da_nil))))))
    (ds_cons (ds_if (dt_cmp (ge_ok) (de_ix (hu1 hr) (de_var 2) (de_str)) (de_int)) (ds_one (ds_ret (de_tup (da_cons (de_str) (da_cons (de_ix (hu1 hr) (de_var 2) (de_str)) (da_nil)))))) (ds_nil))
    (ds_one (ds_ret (de_tup (da_cons (de_str) (da_cons (de_callT (tuple_ok) (by rfl) z_tuple (by decide +kernel) (da_cons (de_var 3) (da_nil))) (da_cons (de_ix (hu1 hr) (de_var 2) (de_str)) (da_nil))))))))))))

/-! ### _law_told -/
abbrev st__law_told : Stmt := topS 37
theorem sc__law_told : FnScope ["text", "found", "forms", "e"] ["text"] (defScope st__law_told) := ⟨rfl, rfl, rfl, by decide +kernel, rfl, by decide +kernel, by decide +kernel⟩
def t__law_told (F_read : TF) (F_offsets : TF) (c_ReadError : Addr) (ex : EX) : TSX :=
    sSeq (sAsg 1 (tIm .non))
    (sSeq (sTryAs (mtOne c_ReadError) 3 (fun e2 => sAsg 2 (tCall e2 F_read 1 (lCons (tNm 0) (lNil)))) (fun a x => sAsg 1 (tTp (lCons (tIm (.str "bad")) (lCons (tXfY a x c_ReadError "at" (tNm 3)) (lNil))))) ex)
    (sSeq (sIf (tTst (tBin (gIs false) (tNm 1) (tIm .non))) (sRet (tTp (lCons (tIm (.str "good")) (lCons (tNm 2) (lCons (tCall ex F_offsets 1 (lCons (tNm 0) (lNil))) (lNil)))))) (sNil))
    (sSeq (sTryAs (mtOne c_ReadError) 3 (fun e2 => sDrop (tCall e2 F_offsets 1 (lCons (tNm 0) (lNil)))) (fun a x => sRet (tIfX (tTst (tBin (gEqs2 false) (tXfY a x c_ReadError "at" (tNm 3)) (tBin gIx (tNm 1) (tIm (.int 1))))) (tNm 1) (tTp (lCons (tIm (.str "unlike")) (lNil))))) ex)
    (sRet (tTp (lCons (tIm (.str "unlike")) (lNil)))))))
theorem ok__law_told {k : Nat} {F : TF} (Ds : DefAt K mg "_law_told" st__law_told ["text"]) {F_read : TF} {k_read : Nat} (D_read : DefAt K mg "read" st_read ["text"]) (G_read : FnDX Pg w K mg base D_read k_read F_read) (h_read : k_read ≤ k) {F_offsets : TF} {k_offsets : Nat} (D_offsets : DefAt K mg "offsets" st_offsets ["text"]) (G_offsets : FnDX Pg w K mg base D_offsets k_offsets F_offsets) (h_offsets : k_offsets ≤ k) (E_ReadError : ExcAt Pg K mg "ReadError" "ReadError.__init__" st_ReadError___init__ ["self", "at"] ["at"]) (xm_ReadError : ExcM K (.ref E_ReadError.C) (mtOne E_ReadError.C))
    (hB : Body F 4 1 fun ex => t__law_told F_read F_offsets E_ReadError.C ex) : FnDX Pg w K mg base Ds (k + 1) F := by
  refine fn_okX Ds.fu sc__law_told hB fun cdv A outer s H E c ex hr xs po => ?_
  have nd := sc__law_told.nd
  exact ds_cons (ds_set (i := 1) nd (de_non))
    (ds_cons (ds_try_as (i := 3) xs rfl rfl nd rfl (by rfl) ⟨by rfl, by decide, .inl E_ReadError.mg⟩ xm_ReadError (fun pn xe c2 e2 hp xs po => ds_one (ds_set (i := 2) nd (de_callX xs G_read (hr.mono h_read) (by rfl) D_read.mg D_read.fu.kp D_read.bd (da_cons (de_var 0) (da_nil))))) (fun a oe cls d pn fs c2 hp hx hz hf => ds_one (ds_set (i := 1) nd (de_tup (da_cons (de_str) (da_cons (de_xf E_ReadError.xf (E_ReadError.no "at" (by decide +kernel)) hx hz hf (de_var 3)) (da_nil)))))))
    (ds_cons (ds_if (dt_cmp (is_ok) (de_var 1) (de_non)) (ds_one (ds_ret (de_tup (da_cons (de_str) (da_cons (de_var 2) (da_cons (de_callX xs G_offsets (hr.mono h_offsets) (by rfl) D_offsets.mg D_offsets.fu.kp D_offsets.bd (da_cons (de_var 0) (da_nil))) (da_nil))))))) (ds_nil))
    (ds_cons (ds_try_as (i := 3) xs rfl rfl nd rfl (by rfl) ⟨by rfl, by decide, .inl E_ReadError.mg⟩ xm_ReadError (fun pn xe c2 e2 hp xs po => ds_one (ds_expr (de_callX xs G_offsets (hr.mono h_offsets) (by rfl) D_offsets.mg D_offsets.fu.kp D_offsets.bd (da_cons (de_var 0) (da_nil))))) (fun a oe cls d pn fs c2 hp hx hz hf => ds_one (ds_ret (de_if (dt_cmp (eq2_ok (hs64 hr)) (de_xf E_ReadError.xf (E_ReadError.no "at" (by decide +kernel)) hx hz hf (de_var 3)) (de_ix (hs1 hr) (de_var 1) (de_int))) (de_var 1) (de_tup (da_cons (de_str) (da_nil)))))))
    (ds_one (ds_ret (de_tup (da_cons (de_str) (da_nil))))))))

/-! ### _law_deep -/
abbrev st__law_deep : Stmt := topS 38
theorem sc__law_deep : FnScope ["draws", "many", "text", "closing", "k", "sign"] ["draws"] (defScope st__law_deep) := ⟨rfl, rfl, rfl, by decide +kernel, rfl, by decide +kernel, by decide +kernel⟩
def b__law_deep_1 (F__law_take : TF) : TSX :=
    sSeq (sAsg 5 (tBin gIx (tTp (lCons (tIm (.str "(")) (lCons (tIm (.str "(")) (lCons (tIm (.str "'")) (lCons (tIm (.str "#'")) (lCons (tIm (.str "(a ")) (lCons (tIm (.str "(() ")) (lNil)))))))) (tCall ex0 F__law_take 2 (lCons (tNm 0) (lCons (tIm (.int 6)) (lNil))))))
    (sSeq (sAsg 2 (tBin gAdd (tBin gAdd (tNm 2) (tNm 5)) (tBin gIx (tTp (lCons (tIm (.str " ")) (lCons (tIm (.str "")) (lCons (tIm (.str "")) (lNil))))) (tCall ex0 F__law_take 2 (lCons (tNm 0) (lCons (tIm (.int 3)) (lNil)))))))
    (sAsg 3 (tBin gAdd (tIfX (tTst (tBin (gEqs2 false) (tBin gIx (tNm 5) (tIm (.int 0))) (tIm (.str "(")))) (tIm (.str ")")) (tIm (.str ""))) (tNm 3))))
def t__law_deep (F__law_take : TF) : TSX :=
    sSeq (sAsg 1 (tBin gAdd (tIm (.int 58)) (tCall ex0 F__law_take 2 (lCons (tNm 0) (lCons (tIm (.int 5)) (lNil))))))
    (sSeq (sAsg 2 (tIm (.str "")))
    (sSeq (sAsg 3 (tIm (.str "")))
    (sSeq (sFor (iRg1 (lCons (tNm 1) (lNil))) (.one 4) (b__law_deep_1 F__law_take))
    (sSeq (sAsg 2 (tBin gAdd (tBin gAdd (tNm 2) (tBin gIx (tTp (lCons (tIm (.str "()")) (lCons (tIm (.str "x")) (lCons (tIm (.str "'x")) (lCons (tIm (.str "")) (lCons (tIm (.str "(x)")) (lCons (tIm (.str "7")) (lNil)))))))) (tCall ex0 F__law_take 2 (lCons (tNm 0) (lCons (tIm (.int 6)) (lNil)))))) (tNm 3)))
    (sRet (tSlc (tNm 2) (pNo) (pSo (tBin gSub (tCl (gLen) (lCons (tNm 2) (lNil))) (tBin gIx (tTp (lCons (tIm (.int 0)) (lCons (tIm (.int 0)) (lCons (tIm (.int 0)) (lCons (tIm (.int 1)) (lCons (tIm (.int 2)) (lNil))))))) (tCall ex0 F__law_take 2 (lCons (tNm 0) (lCons (tIm (.int 5)) (lNil)))))))))))))
theorem ok__law_deep {k : Nat} {F : TF} (Ds : DefAt K mg "_law_deep" st__law_deep ["draws"]) (z_range : mg "range" = none) (z_len : mg "len" = none) {F__law_take : TF} {k__law_take : Nat} (D__law_take : DefAt K mg "_law_take" st__law_take ["draws", "limit"]) (G__law_take : FnD Pg w K mg base D__law_take k__law_take F__law_take) (h__law_take : k__law_take ≤ k)
    (hB : Body F 6 1 fun _ => t__law_deep F__law_take) : FnD Pg w K mg base Ds (k + 1) F := by
  refine fn_ok Ds.fu sc__law_deep hB fun cdv A outer s H E c hr => ?_
  have nd := sc__law_deep.nd
  exact ds_cons (ds_set (i := 1) nd (de_op add_ok (de_int) (de_call G__law_take (hr.mono h__law_take) (by rfl) D__law_take.mg D__law_take.fu.kp D__law_take.bd (da_cons (de_var 0) (da_cons (de_int) (da_nil))))))
    (ds_cons (ds_set (i := 2) nd (de_str))
    (ds_cons (ds_set (i := 3) nd (de_str))
    (ds_cons (ds_for (bd := .one 4) PassesOwn.never rfl (di_rng1 (by rfl) z_range (da_cons (de_var 1) (da_nil))) (pg_name (i := 4) nd rfl (by first | exact Or.inl rfl | exact Or.inr rfl)) (ds_cons (ds_set (i := 5) nd (de_ix (hu1 hr) (de_tup (da_cons (de_str) (da_cons (de_str) (da_cons (de_str) (da_cons (de_str) (da_cons (de_str) (da_cons (de_str) (da_nil)))))))) (de_call G__law_take (hr.mono h__law_take) (by rfl) D__law_take.mg D__law_take.fu.kp D__law_take.bd (da_cons (de_var 0) (da_cons (de_int) (da_nil))))))
    (ds_cons (ds_set (i := 2) nd (de_op add_ok (de_op add_ok (de_var 2) (de_var 5)) (de_ix (hu1 hr) (de_tup (da_cons (de_str) (da_cons (de_str) (da_cons (de_str) (da_nil))))) (de_call G__law_take (hr.mono h__law_take) (by rfl) D__law_take.mg D__law_take.fu.kp D__law_take.bd (da_cons (de_var 0) (da_cons (de_int) (da_nil)))))))
    (ds_one (ds_set (i := 3) nd (de_op add_ok (de_if (dt_cmp (eq2_ok (hu64 hr)) (de_ix (hu1 hr) (de_var 5) (de_int)) (de_str)) (de_str) (de_str)) (de_var 3)))))))
    (ds_cons (ds_set (i := 2) nd (de_op add_ok (de_op add_ok (de_var 2) (de_ix (hu1 hr) (de_tup (da_cons (de_str) (da_cons (de_str) (da_cons (de_str) (da_cons (de_str) (da_cons (de_str) (da_cons (de_str) (da_nil)))))))) (de_call G__law_take (hr.mono h__law_take) (by rfl) D__law_take.mg D__law_take.fu.kp D__law_take.bd (da_cons (de_var 0) (da_cons (de_int) (da_nil)))))) (de_var 3)))
    (ds_one (ds_ret (de_slice (de_var 2) (do_no) (do_so (de_op sub_ok (de_callB (len_ok) (by rfl) z_len (by decide +kernel) (da_cons (de_var 2) (da_nil))) (de_ix (hu1 hr) (de_tup (da_cons (de_int) (da_cons (de_int) (da_cons (de_int) (da_cons (de_int) (da_cons (de_int) (da_nil))))))) (de_call G__law_take (hr.mono h__law_take) (by rfl) D__law_take.mg D__law_take.fu.kp D__law_take.bd (da_cons (de_var 0) (da_cons (de_int) (da_nil))))))))))))))

/-! ### _law_long -/
abbrev st__law_long : Stmt := topS 39
theorem sc__law_long : FnScope ["draws", "size", "first", "sign"] ["draws"] (defScope st__law_long) := ⟨rfl, rfl, rfl, by decide +kernel, rfl, by decide +kernel, by decide +kernel⟩
def t__law_long (F__law_take : TF) : TSX :=
    sSeq (sAsg 1 (tBin gAdd (tIm (.int 5998)) (tCall ex0 F__law_take 2 (lCons (tNm 0) (lCons (tIm (.int 6)) (lNil))))))
    (sSeq (sAsg 2 (tBin gIx (tTp (lCons (tIm (.str "(f 'x) ")) (lCons (tIm (.str "; ")) (lCons (tIm (.str "\"a")) (lCons (tIm (.str ")")) (lCons (tIm (.str "Q ")) (lCons (tIm (.str "(")) (lCons (tIm (.str "")) (lNil))))))))) (tCall ex0 F__law_take 2 (lCons (tNm 0) (lCons (tIm (.int 7)) (lNil))))))
    (sSeq (sAsg 3 (tBin gIx (tTp (lCons (tIm (.str " ")) (lCons (tIm (.str "a ")) (lCons (tIm (.str "\n")) (lCons (tIm (.str "()")) (lCons (tIm (.str "ab;\n")) (lNil))))))) (tCall ex0 F__law_take 2 (lCons (tNm 0) (lCons (tIm (.int 5)) (lNil))))))
    (sRet (tSlc (tBin gAdd (tNm 2) (tBin gMulS (tNm 3) (tIm (.int 6003)))) (pNo) (pSo (tNm 1))))))
theorem ok__law_long {k : Nat} {F : TF} (Ds : DefAt K mg "_law_long" st__law_long ["draws"]) {F__law_take : TF} {k__law_take : Nat} (D__law_take : DefAt K mg "_law_take" st__law_take ["draws", "limit"]) (G__law_take : FnD Pg w K mg base D__law_take k__law_take F__law_take) (h__law_take : k__law_take ≤ k)
    (hB : Body F 4 1 fun _ => t__law_long F__law_take) : FnD Pg w K mg base Ds (k + 1) F := by
  refine fn_ok Ds.fu sc__law_long hB fun cdv A outer s H E c hr => ?_
  have nd := sc__law_long.nd
  exact ds_cons (ds_set (i := 1) nd (de_op add_ok (de_int) (de_call G__law_take (hr.mono h__law_take) (by rfl) D__law_take.mg D__law_take.fu.kp D__law_take.bd (da_cons (de_var 0) (da_cons (de_int) (da_nil))))))
    (ds_cons (ds_set (i := 2) nd (de_ix (hu1 hr) (de_tup (da_cons (de_str) (da_cons (de_str) (da_cons (de_str) (da_cons (de_str) (da_cons (de_str) (da_cons (de_str) (da_cons (de_str) (da_nil))))))))) (de_call G__law_take (hr.mono h__law_take) (by rfl) D__law_take.mg D__law_take.fu.kp D__law_take.bd (da_cons (de_var 0) (da_cons (de_int) (da_nil))))))
    (ds_cons (ds_set (i := 3) nd (de_ix (hu1 hr) (de_tup (da_cons (de_str) (da_cons (de_str) (da_cons (de_str) (da_cons (de_str) (da_cons (de_str) (da_nil))))))) (de_call G__law_take (hr.mono h__law_take) (by rfl) D__law_take.mg D__law_take.fu.kp D__law_take.bd (da_cons (de_var 0) (da_cons (de_int) (da_nil))))))
    (ds_one (ds_ret (de_slice (de_op add_ok (de_var 2) (de_op mulS_ok (de_var 3) (de_int))) (do_no) (do_so (de_var 1)))))))

/-! ### _law_worded -/
abbrev st__law_worded : Stmt := topS 40
theorem sc__law_worded : FnScope ["draws", "kind", "size", "word"] ["draws"] (defScope st__law_worded) := ⟨rfl, rfl, rfl, by decide +kernel, rfl, by decide +kernel, by decide +kernel⟩
def t__law_worded (F__law_take : TF) : TSX :=
    sSeq (sAsg 1 (tCall ex0 F__law_take 2 (lCons (tNm 0) (lCons (tIm (.int 3)) (lNil)))))
    (sSeq (sAsg 2 (tCall ex0 F__law_take 2 (lCons (tNm 0) (lCons (tIm (.int 4)) (lNil)))))
    (sSeq (sAsg 3 (tBin gAdd (tBin gAdd (tIm (.str "\"")) (tBin gMulS (tIm (.str "y")) (tBin gAdd (tIm (.int 99)) (tNm 2)))) (tIm (.str "\""))))
    (sSeq (sIf (tTst (tBin (gEqs2 false) (tNm 1) (tIm (.int 1)))) (sAsg 3 (tBin gAdd (tBin gAdd (tBin gIx (tTp (lCons (tIm (.str "")) (lCons (tIm (.str "-")) (lNil)))) (tCall ex0 F__law_take 2 (lCons (tNm 0) (lCons (tIm (.int 2)) (lNil))))) (tBin gIx (tIm (.str "123456789")) (tCall ex0 F__law_take 2 (lCons (tNm 0) (lCons (tIm (.int 9)) (lNil)))))) (tBin gMulS (tBin gIx (tIm (.str "0123456789")) (tCall ex0 F__law_take 2 (lCons (tNm 0) (lCons (tIm (.int 10)) (lNil))))) (tBin gAdd (tIm (.int 28)) (tNm 2))))) (sNil))
    (sSeq (sIf (tTst (tBin (gEqs2 false) (tNm 1) (tIm (.int 2)))) (sAsg 3 (tBin gAdd (tBin gIx (tTp (lCons (tIm (.str "ab")) (lCons (tIm (.str "-a")) (lCons (tIm (.str "!?")) (lCons (tIm (.str "a9")) (lNil)))))) (tCall ex0 F__law_take 2 (lCons (tNm 0) (lCons (tIm (.int 4)) (lNil))))) (tBin gMulS (tIm (.str "z")) (tBin gAdd (tIm (.int 17)) (tNm 2))))) (sNil))
    (sRet (tBin gAdd (tBin gAdd (tBin gIx (tTp (lCons (tIm (.str "")) (lCons (tIm (.str "(a ")) (lCons (tIm (.str "'")) (lCons (tIm (.str "x\n")) (lNil)))))) (tCall ex0 F__law_take 2 (lCons (tNm 0) (lCons (tIm (.int 4)) (lNil))))) (tNm 3)) (tBin gIx (tTp (lCons (tIm (.str " )")) (lCons (tIm (.str "")) (lCons (tIm (.str "\nQ")) (lCons (tIm (.str " y")) (lNil)))))) (tCall ex0 F__law_take 2 (lCons (tNm 0) (lCons (tIm (.int 4)) (lNil)))))))))))
theorem ok__law_worded {k : Nat} {F : TF} (Ds : DefAt K mg "_law_worded" st__law_worded ["draws"]) {F__law_take : TF} {k__law_take : Nat} (D__law_take : DefAt K mg "_law_take" st__law_take ["draws", "limit"]) (G__law_take : FnD Pg w K mg base D__law_take k__law_take F__law_take) (h__law_take : k__law_take ≤ k)
    (hB : Body F 4 1 fun _ => t__law_worded F__law_take) : FnD Pg w K mg base Ds (k + 1) F := by
  refine fn_ok Ds.fu sc__law_worded hB fun cdv A outer s H E c hr => ?_
  have nd := sc__law_worded.nd
  exact ds_cons (ds_set (i := 1) nd (de_call G__law_take (hr.mono h__law_take) (by rfl) D__law_take.mg D__law_take.fu.kp D__law_take.bd (da_cons (de_var 0) (da_cons (de_int) (da_nil)))))
    (ds_cons (ds_set (i := 2) nd (de_call G__law_take (hr.mono h__law_take) (by rfl) D__law_take.mg D__law_take.fu.kp D__law_take.bd (da_cons (de_var 0) (da_cons (de_int) (da_nil)))))
    (ds_cons (ds_set (i := 3) nd (de_op add_ok (de_op add_ok (de_str) (de_op mulS_ok (de_str) (de_op add_ok (de_int) (de_var 2)))) (de_str)))
    (ds_cons (ds_if (dt_cmp (eq2_ok (hu64 hr)) (de_var 1) (de_int)) (ds_one (ds_set (i := 3) nd (de_op add_ok (de_op add_ok (de_ix (hu1 hr) (de_tup (da_cons (de_str) (da_cons (de_str) (da_nil)))) (de_call G__law_take (hr.mono h__law_take) (by rfl) D__law_take.mg D__law_take.fu.kp D__law_take.bd (da_cons (de_var 0) (da_cons (de_int) (da_nil))))) (de_ix (hu1 hr) (de_str) (de_call G__law_take (hr.mono h__law_take) (by rfl) D__law_take.mg D__law_take.fu.kp D__law_take.bd (da_cons (de_var 0) (da_cons (de_int) (da_nil)))))) (de_op mulS_ok (de_ix (hu1 hr) (de_str) (de_call G__law_take (hr.mono h__law_take) (by rfl) D__law_take.mg D__law_take.fu.kp D__law_take.bd (da_cons (de_var 0) (da_cons (de_int) (da_nil))))) (de_op add_ok (de_int) (de_var 2)))))) (ds_nil))
    (ds_cons (ds_if (dt_cmp (eq2_ok (hu64 hr)) (de_var 1) (de_int)) (ds_one (ds_set (i := 3) nd (de_op add_ok (de_ix (hu1 hr) (de_tup (da_cons (de_str) (da_cons (de_str) (da_cons (de_str) (da_cons (de_str) (da_nil)))))) (de_call G__law_take (hr.mono h__law_take) (by rfl) D__law_take.mg D__law_take.fu.kp D__law_take.bd (da_cons (de_var 0) (da_cons (de_int) (da_nil))))) (de_op mulS_ok (de_str) (de_op add_ok (de_int) (de_var 2)))))) (ds_nil))
    (ds_one (ds_ret (de_op add_ok (de_op add_ok (de_ix (hu1 hr) (de_tup (da_cons (de_str) (da_cons (de_str) (da_cons (de_str) (da_cons (de_str) (da_nil)))))) (de_call G__law_take (hr.mono h__law_take) (by rfl) D__law_take.mg D__law_take.fu.kp D__law_take.bd (da_cons (de_var 0) (da_cons (de_int) (da_nil))))) (de_var 3)) (de_ix (hu1 hr) (de_tup (da_cons (de_str) (da_cons (de_str) (da_cons (de_str) (da_cons (de_str) (da_nil)))))) (de_call G__law_take (hr.mono h__law_take) (by rfl) D__law_take.mg D__law_take.fu.kp D__law_take.bd (da_cons (de_var 0) (da_cons (de_int) (da_nil))))))))))))

/-! ### law -/
abbrev st_law : Stmt := topS 41
theorem sc_law : FnScope ["script", "draws", "kind", "turn", "text"] ["script"] (defScope st_law) := ⟨rfl, rfl, rfl, by decide +kernel, rfl, by decide +kernel, by decide +kernel⟩
def b_law_1 (F__law_draws : TF) (F__law_take : TF) (F__law_worded : TF) (F__law_deep : TF) (F__law_long : TF) (F__law_told : TF) (F__law_read : TF) (F__law_same : TF) (ex : EX) : TSX :=
    sSeq (sAsg 4 (tIfX (tTst (tBin (gGt) (tNm 2) (tIm (.int 1)))) (tCall ex0 F__law_worded 1 (lCons (tNm 1) (lNil))) (tIfX (tTst (tBin (gEqs2 false) (tNm 2) (tIm (.int 0)))) (tCall ex0 F__law_deep 1 (lCons (tNm 1) (lNil))) (tCall ex0 F__law_long 1 (lCons (tNm 1) (lNil))))))
    (sIf (tNotQ (tTru (tCall ex0 F__law_same 2 (lCons (tCall ex F__law_told 1 (lCons (tNm 4) (lNil))) (lCons (tCall ex0 F__law_read 1 (lCons (tNm 4) (lNil))) (lNil)))))) (sRet (tIm (.bl false))) (sNil))
def t_law (F__law_draws : TF) (F__law_take : TF) (F__law_worded : TF) (F__law_deep : TF) (F__law_long : TF) (F__law_told : TF) (F__law_read : TF) (F__law_same : TF) (ex : EX) : TSX :=
    sSeq (sAsg 1 (tCall ex0 F__law_draws 2 (lCons (tNm 0) (lCons (tIm (.int 300)) (lNil)))))
    (sSeq (sAsg 2 (tCall ex0 F__law_take 2 (lCons (tNm 1) (lCons (tIm (.int 4)) (lNil)))))
    (sSeq (sFor (iRg1 (lCons (tIm (.int 3)) (lNil))) (.one 3) (b_law_1 F__law_draws F__law_take F__law_worded F__law_deep F__law_long F__law_told F__law_read F__law_same ex))
    (sRet (tIm (.bl true)))))
theorem ok_law {k : Nat} {F : TF} (Ds : DefAt K mg "law" st_law ["script"]) (z_range : mg "range" = none) {F__law_draws : TF} {k__law_draws : Nat} (D__law_draws : DefAt K mg "_law_draws" st__law_draws ["script", "count"]) (G__law_draws : FnD Pg w K mg base D__law_draws k__law_draws F__law_draws) (h__law_draws : k__law_draws ≤ k) {F__law_take : TF} {k__law_take : Nat} (D__law_take : DefAt K mg "_law_take" st__law_take ["draws", "limit"]) (G__law_take : FnD Pg w K mg base D__law_take k__law_take F__law_take) (h__law_take : k__law_take ≤ k) {F__law_worded : TF} {k__law_worded : Nat} (D__law_worded : DefAt K mg "_law_worded" st__law_worded ["draws"]) (G__law_worded : FnD Pg w K mg base D__law_worded k__law_worded F__law_worded) (h__law_worded : k__law_worded ≤ k) {F__law_deep : TF} {k__law_deep : Nat} (D__law_deep : DefAt K mg "_law_deep" st__law_deep ["draws"]) (G__law_deep : FnD Pg w K mg base D__law_deep k__law_deep F__law_deep) (h__law_deep : k__law_deep ≤ k) {F__law_long : TF} {k__law_long : Nat} (D__law_long : DefAt K mg "_law_long" st__law_long ["draws"]) (G__law_long : FnD Pg w K mg base D__law_long k__law_long F__law_long) (h__law_long : k__law_long ≤ k) {F__law_told : TF} {k__law_told : Nat} (D__law_told : DefAt K mg "_law_told" st__law_told ["text"]) (G__law_told : FnDX Pg w K mg base D__law_told k__law_told F__law_told) (h__law_told : k__law_told ≤ k) {F__law_read : TF} {k__law_read : Nat} (D__law_read : DefAt K mg "_law_read" st__law_read ["text"]) (G__law_read : FnD Pg w K mg base D__law_read k__law_read F__law_read) (h__law_read : k__law_read ≤ k) {F__law_same : TF} {k__law_same : Nat} (D__law_same : DefAt K mg "_law_same" st__law_same ["found", "due"]) (G__law_same : FnD Pg w K mg base D__law_same k__law_same F__law_same) (h__law_same : k__law_same ≤ k)
    (hB : Body F 5 1 fun ex => t_law F__law_draws F__law_take F__law_worded F__law_deep F__law_long F__law_told F__law_read F__law_same ex) : FnDX Pg w K mg base Ds (k + 1) F := by
  refine fn_okX Ds.fu sc_law hB fun cdv A outer s H E c ex hr xs po => ?_
  have nd := sc_law.nd
  exact ds_cons (ds_set (i := 1) nd (de_call G__law_draws (hr.mono h__law_draws) (by rfl) D__law_draws.mg D__law_draws.fu.kp D__law_draws.bd (da_cons (de_var 0) (da_cons (de_int) (da_nil)))))
    (ds_cons (ds_set (i := 2) nd (de_call G__law_take (hr.mono h__law_take) (by rfl) D__law_take.mg D__law_take.fu.kp D__law_take.bd (da_cons (de_var 1) (da_cons (de_int) (da_nil)))))
    (ds_cons (ds_for (bd := .one 3) po rfl (di_rng1 (by rfl) z_range (da_cons (de_int) (da_nil))) (pg_name (i := 3) nd rfl (by first | exact Or.inl rfl | exact Or.inr rfl)) (ds_cons (ds_set (i := 4) nd (de_if (dt_cmp (gt_ok) (de_var 2) (de_int)) (de_call G__law_worded (hr.mono h__law_worded) (by rfl) D__law_worded.mg D__law_worded.fu.kp D__law_worded.bd (da_cons (de_var 1) (da_nil))) (de_if (dt_cmp (eq2_ok (hu64 hr)) (de_var 2) (de_int)) (de_call G__law_deep (hr.mono h__law_deep) (by rfl) D__law_deep.mg D__law_deep.fu.kp D__law_deep.bd (da_cons (de_var 1) (da_nil))) (de_call G__law_long (hr.mono h__law_long) (by rfl) D__law_long.mg D__law_long.fu.kp D__law_long.bd (da_cons (de_var 1) (da_nil))))))
    (ds_one (ds_if (dt_not (dt_tru (de_call G__law_same (hr.mono h__law_same) (by rfl) D__law_same.mg D__law_same.fu.kp D__law_same.bd (da_cons (de_callX xs G__law_told (hr.mono h__law_told) (by rfl) D__law_told.mg D__law_told.fu.kp D__law_told.bd (da_cons (de_var 4) (da_nil))) (da_cons (de_call G__law_read (hr.mono h__law_read) (by rfl) D__law_read.mg D__law_read.fu.kp D__law_read.bd (da_cons (de_var 4) (da_nil))) (da_nil)))))) (ds_one (ds_ret (de_bl))) (ds_nil)))))
    (ds_one (ds_ret (de_bl)))))

/-! ### what the top holds -/
structure Top (w : World) (K : PySem.W.Frag) (mg : Str → Option Value) where
  K_Frame : ClsAt K mg "Frame"
  K_FormReader : ClsAt K mg "FormReader"
  E_ReadError : ExcAt pr K mg "ReadError" "ReadError.__init__" st_ReadError___init__ ["self", "at"] ["at"]
  xm_ReadError : ExcM K (.ref E_ReadError.C) (mtOne E_ReadError.C)
  n_Frame_is_sign : NoAttr K K_Frame.C "is_sign"
  n_Frame_place : NoAttr K K_Frame.C "place"
  n_Frame_parts : NoAttr K K_Frame.C "parts"
  n_FormReader_forms : NoAttr K K_FormReader.C "forms"
  n_FormReader_pending : NoAttr K K_FormReader.C "pending"
  n_FormReader_starts : NoAttr K K_FormReader.C "starts"
  D_are_figures : DefAt K mg "are_figures" st_are_figures ["text"]
  D_is_number_word : DefAt K mg "is_number_word" st_is_number_word ["word"]
  D_is_name : DefAt K mg "is_name" st_is_name ["text"]
  D_sort_of : DefAt K mg "sort_of" st_sort_of ["word"]
  D_end_of_line : DefAt K mg "end_of_line" st_end_of_line ["text", "start"]
  D_string_token : DefAt K mg "string_token" st_string_token ["text", "start"]
  D_word_token : DefAt K mg "word_token" st_word_token ["text", "start"]
  D_tokens : DefAt K mg "tokens" st_tokens ["text"]
  M_Frame___init__ : MethAt K K_Frame.C "__init__" "Frame.__init__" st_Frame___init__ ["self", "is_sign", "place"]
  M_FormReader___init__ : MethAt K K_FormReader.C "__init__" "FormReader.__init__" st_FormReader___init__ ["self"]
  M_FormReader_new_place : MethAt K K_FormReader.C "new_place" "FormReader.new_place" st_FormReader_new_place ["self", "start"]
  M_FormReader_begin : MethAt K K_FormReader.C "begin" "FormReader.begin" st_FormReader_begin ["self", "is_sign", "start"]
  M_FormReader_finish : MethAt K K_FormReader.C "finish" "FormReader.finish" st_FormReader_finish ["self", "datum"]
  M_FormReader_take_sign : MethAt K K_FormReader.C "take_sign" "FormReader.take_sign" st_FormReader_take_sign ["self", "sign", "start"]
  M_FormReader_take : MethAt K K_FormReader.C "take" "FormReader.take" st_FormReader_take ["self", "text", "token"]
  D_value_of : DefAt K mg "value_of" st_value_of ["sort", "word"]
  D_taken : DefAt K mg "taken" st_taken ["text"]
  D_read : DefAt K mg "read" st_read ["text"]
  D_offsets : DefAt K mg "offsets" st_offsets ["text"]
  D__law_draws : DefAt K mg "_law_draws" st__law_draws ["script", "count"]
  D__law_take : DefAt K mg "_law_take" st__law_take ["draws", "limit"]
  D__law_same : DefAt K mg "_law_same" st__law_same ["found", "due"]
  D__law_sort : DefAt K mg "_law_sort" st__law_sort ["word"]
  D__law_tokens : DefAt K mg "_law_tokens" st__law_tokens ["text"]
  D__law_value : DefAt K mg "_law_value" st__law_value ["sort", "word"]
  D__law_datum : DefAt K mg "_law_datum" st__law_datum ["text", "items", "state", "depth"]
  D__law_read : DefAt K mg "_law_read" st__law_read ["text"]
  D__law_told : DefAt K mg "_law_told" st__law_told ["text"]
  D__law_deep : DefAt K mg "_law_deep" st__law_deep ["draws"]
  D__law_long : DefAt K mg "_law_long" st__law_long ["draws"]
  D__law_worded : DefAt K mg "_law_worded" st__law_worded ["draws"]
  D_law : DefAt K mg "law" st_law ["script"]
  z_all : mg "all" = none
  z_len : mg "len" = none
  z_super : mg "super" = none
  z_tuple : mg "tuple" = none
  z_int : mg "int" = none
  z_list : mg "list" = none
  z_range : mg "range" = none
  z_bool : mg "bool" = none
  z_isinstance : mg "isinstance" = none
  z_str : mg "str" = none
  gt_FIGURES : Tok
  g_FIGURES : mg "FIGURES" = some (.str "0123456789" gt_FIGURES)
  gt_MOST_FIGURES : Tok
  g_MOST_FIGURES : mg "MOST_FIGURES" = some (.int 30 gt_MOST_FIGURES)
  gt_LONGEST_NAME : Tok
  g_LONGEST_NAME : mg "LONGEST_NAME" = some (.int 20 gt_LONGEST_NAME)
  gt_NAME_SIGNS : Tok
  g_NAME_SIGNS : mg "NAME_SIGNS" = some (.str "abcdefghijklmnopqrstuvwxyz0123456789!*+-./:<=>?_" gt_NAME_SIGNS)
  gt_LONGEST_STRING : Tok
  g_LONGEST_STRING : mg "LONGEST_STRING" = some (.int 100 gt_LONGEST_STRING)
  gt_ENDS_OF_WORDS : Tok
  g_ENDS_OF_WORDS : mg "ENDS_OF_WORDS" = some (.str " \n()'\";" gt_ENDS_OF_WORDS)
  gt_DEEPEST_LIST : Tok
  g_DEEPEST_LIST : mg "DEEPEST_LIST" = some (.int 60 gt_DEEPEST_LIST)
  gt_MOST_SIGNS : Tok
  g_MOST_SIGNS : mg "MOST_SIGNS" = some (.int 6000 gt_MOST_SIGNS)
  g_SPECIAL_NAMES : GTup K mg "SPECIAL_NAMES" tup_SPECIAL_NAMES
  g_FLAGS : GTab K w mg "FLAGS" tab_FLAGS
  bl : ∀ (s : Shared) (v : Value), BindsTo s D_law.fd ⟨[v], []⟩ [("script", v)]
def tp_mk {w : World} {K : PySem.W.Frag} {h : Heap} {mg : Str → Option Value} (X : K.In h) (G : h.Ns mainGlobals mg)
    {cc_0 : Addr} (cn_0 : PySem.W.nsIn K mainGlobals "Frame" = some (some (.ref cc_0))) (cpg_0 : PySem.W.plainGet K cc_0 Str.empty = true) (chd_0 : PySem.W.hasDictIn K cc_0 = true) (cpo_0 : PySem.W.plainOver K cc_0 = true) (csa_0 : PySem.W.findIn K (.ref cc_0) "__setattr__" = some (some (.builtin "object.__setattr__"))) (cmk_0 : PySem.W.makesIn K cc_0 = true) (ckp_0 : PySem.W.keepIn K (.ref cc_0) = true)
    {cc_1 : Addr} (cn_1 : PySem.W.nsIn K mainGlobals "FormReader" = some (some (.ref cc_1))) (cpg_1 : PySem.W.plainGet K cc_1 Str.empty = true) (chd_1 : PySem.W.hasDictIn K cc_1 = true) (cpo_1 : PySem.W.plainOver K cc_1 = true) (csa_1 : PySem.W.findIn K (.ref cc_1) "__setattr__" = some (some (.builtin "object.__setattr__"))) (cmk_1 : PySem.W.makesIn K cc_1 = true) (ckp_1 : PySem.W.keepIn K (.ref cc_1) = true)
    (nf_0 : PySem.W.findIn K (.ref cc_0) "is_sign" = some none)
    (nf_1 : PySem.W.findIn K (.ref cc_0) "place" = some none)
    (nf_2 : PySem.W.findIn K (.ref cc_0) "parts" = some none)
    (nf_3 : PySem.W.findIn K (.ref cc_1) "forms" = some none)
    (nf_4 : PySem.W.findIn K (.ref cc_1) "pending" = some none)
    (nf_5 : PySem.W.findIn K (.ref cc_1) "starts" = some none)
    {xc0_0 xf_0 xcc_0 xcda_0 : Addr} {xod_0 xan_0 xcdd_0 xcld_0 : Option Addr} {xsl_0 xcs_0 xcsl_0 : Array (Option Value)} {xoc_0 xkV_0 xdc_0 xpm_0 xct_0 xccl_0 xcl_0 : Value} {xvs_0 : Array Value}
    (xa_0 : PySem.W.nsIn K mainGlobals "ReadError" = some (some (.ref xc0_0))) (xi_0 : PySem.W.findIn K (.ref xc0_0) "__init__" = some (some (.ref xf_0))) (xt_0 : PySem.W.typeIn K (.ref xf_0) = some (.type "function"))
    (xl_0 : K.lookup xf_0 = some ⟨xoc_0, xod_0, .func (PySem.W.fnX "__init__" "ReadError.__init__" (defArgs st_ReadError___init__) (defBody st_ReadError___init__) (defScope st_ReadError___init__) [("__class__", xcc_0)] .none xkV_0 xdc_0 xpm_0 xan_0 (.ref xcda_0) xct_0), xsl_0⟩) (xd_0 : PySem.W.codeIn K (.ref xcda_0) "ReadError.__init__" = true)
    {xfile_0 : Str} {xtf_0 : Tok} (xe_0 : K.lookup xcda_0 = some ⟨xccl_0, xcdd_0, .fields xvs_0, xcs_0⟩) (xg_0 : xvs_0[2]? = some (.str xfile_0 xtf_0)) (xh_0 : ((pr.main.file : Str) == xfile_0) = true) (xj_0 : K.lookup xcc_0 = some ⟨xcl_0, xcld_0, .cell (some (.ref xc0_0)), xcsl_0⟩)
    (xm_0 : PySem.W.findIn K (.ref xc0_0) "__setattr__" = some (some (.builtin "object.__setattr__"))) (xn_0 : PySem.W.subIn K (.ref xc0_0) (.type "BaseException") = some true) (xo_0 : PySem.W.typeIn K (.ref xc0_0) = some (.type "type")) (xp_0 : PySem.W.keepIn K (.ref xc0_0) = true)
    (xq_0 : ∃ nm q N bs bm sn sub ab col dd k0 k1 k2 k3 k5, K.lookup xc0_0 = some (excClassObj nm q xc0_0 N bs bm true sn sub ab col dd k0 k1 k2 k3 k5 "ValueError.__new__") ∧ PySem.HandSPX.refsVE bm = true)
    (xr_0 : PySem.W.nsIn K mainGlobals "super" = some none) (xs_0 : PySem.W.ks_superIn K xc0_0 xc0_0 "__init__" = some (some (.builtin "ValueError.__init__"))) (xu_0 : PySem.W.mroIn K xc0_0 (.ref xc0_0) = some true) (xv_0 : PySem.W.subIn K (.ref xc0_0) (.type "ValueError") = some true) (xw_0 : PySem.W.nsIn K cStatics "thirdparty.any" = some none)
    (xy_0 : xfB K xc0_0 = true) (xz_0 : PySem.W.findIn K (.ref xc0_0) "at" = some none)
    (xx_0 : PySem.W.exmOne K (.ref xc0_0) (.ref xc0_0) = some true)
    {f0 : Addr} {od0 an0 : Option Addr} {sl0 : Array (Option Value)} {oc0 kV0 dc0 pm0 cd0 ct0 : Value}
    (a0 : PySem.W.nsIn K mainGlobals "are_figures" = some (some (.ref f0))) (l0 : K.lookup f0 = some ⟨oc0, od0, .func (PySem.W.fnOf "are_figures" "are_figures" (defArgs st_are_figures) (defBody st_are_figures) (defScope st_are_figures) .none kV0 dc0 pm0 an0 cd0 ct0), sl0⟩) (c0 : PySem.W.codeIn K cd0 "are_figures" = true) (k0 : PySem.W.keepIn K (.ref f0) = true)
    {f1 : Addr} {od1 an1 : Option Addr} {sl1 : Array (Option Value)} {oc1 kV1 dc1 pm1 cd1 ct1 : Value}
    (a1 : PySem.W.nsIn K mainGlobals "is_number_word" = some (some (.ref f1))) (l1 : K.lookup f1 = some ⟨oc1, od1, .func (PySem.W.fnOf "is_number_word" "is_number_word" (defArgs st_is_number_word) (defBody st_is_number_word) (defScope st_is_number_word) .none kV1 dc1 pm1 an1 cd1 ct1), sl1⟩) (c1 : PySem.W.codeIn K cd1 "is_number_word" = true) (k1 : PySem.W.keepIn K (.ref f1) = true)
    {f2 : Addr} {od2 an2 : Option Addr} {sl2 : Array (Option Value)} {oc2 kV2 dc2 pm2 cd2 ct2 : Value}
    (a2 : PySem.W.nsIn K mainGlobals "is_name" = some (some (.ref f2))) (l2 : K.lookup f2 = some ⟨oc2, od2, .func (PySem.W.fnOf "is_name" "is_name" (defArgs st_is_name) (defBody st_is_name) (defScope st_is_name) .none kV2 dc2 pm2 an2 cd2 ct2), sl2⟩) (c2 : PySem.W.codeIn K cd2 "is_name" = true) (k2 : PySem.W.keepIn K (.ref f2) = true)
    {f3 : Addr} {od3 an3 : Option Addr} {sl3 : Array (Option Value)} {oc3 kV3 dc3 pm3 cd3 ct3 : Value}
    (a3 : PySem.W.nsIn K mainGlobals "sort_of" = some (some (.ref f3))) (l3 : K.lookup f3 = some ⟨oc3, od3, .func (PySem.W.fnOf "sort_of" "sort_of" (defArgs st_sort_of) (defBody st_sort_of) (defScope st_sort_of) .none kV3 dc3 pm3 an3 cd3 ct3), sl3⟩) (c3 : PySem.W.codeIn K cd3 "sort_of" = true) (k3 : PySem.W.keepIn K (.ref f3) = true)
    {f4 : Addr} {od4 an4 : Option Addr} {sl4 : Array (Option Value)} {oc4 kV4 dc4 pm4 cd4 ct4 : Value}
    (a4 : PySem.W.nsIn K mainGlobals "end_of_line" = some (some (.ref f4))) (l4 : K.lookup f4 = some ⟨oc4, od4, .func (PySem.W.fnOf "end_of_line" "end_of_line" (defArgs st_end_of_line) (defBody st_end_of_line) (defScope st_end_of_line) .none kV4 dc4 pm4 an4 cd4 ct4), sl4⟩) (c4 : PySem.W.codeIn K cd4 "end_of_line" = true) (k4 : PySem.W.keepIn K (.ref f4) = true)
    {f5 : Addr} {od5 an5 : Option Addr} {sl5 : Array (Option Value)} {oc5 kV5 dc5 pm5 cd5 ct5 : Value}
    (a5 : PySem.W.nsIn K mainGlobals "string_token" = some (some (.ref f5))) (l5 : K.lookup f5 = some ⟨oc5, od5, .func (PySem.W.fnOf "string_token" "string_token" (defArgs st_string_token) (defBody st_string_token) (defScope st_string_token) .none kV5 dc5 pm5 an5 cd5 ct5), sl5⟩) (c5 : PySem.W.codeIn K cd5 "string_token" = true) (k5 : PySem.W.keepIn K (.ref f5) = true)
    {f6 : Addr} {od6 an6 : Option Addr} {sl6 : Array (Option Value)} {oc6 kV6 dc6 pm6 cd6 ct6 : Value}
    (a6 : PySem.W.nsIn K mainGlobals "word_token" = some (some (.ref f6))) (l6 : K.lookup f6 = some ⟨oc6, od6, .func (PySem.W.fnOf "word_token" "word_token" (defArgs st_word_token) (defBody st_word_token) (defScope st_word_token) .none kV6 dc6 pm6 an6 cd6 ct6), sl6⟩) (c6 : PySem.W.codeIn K cd6 "word_token" = true) (k6 : PySem.W.keepIn K (.ref f6) = true)
    {f7 : Addr} {od7 an7 : Option Addr} {sl7 : Array (Option Value)} {oc7 kV7 dc7 pm7 cd7 ct7 : Value}
    (a7 : PySem.W.nsIn K mainGlobals "tokens" = some (some (.ref f7))) (l7 : K.lookup f7 = some ⟨oc7, od7, .func (PySem.W.fnOf "tokens" "tokens" (defArgs st_tokens) (defBody st_tokens) (defScope st_tokens) .none kV7 dc7 pm7 an7 cd7 ct7), sl7⟩) (c7 : PySem.W.codeIn K cd7 "tokens" = true) (k7 : PySem.W.keepIn K (.ref f7) = true)
    {f8 : Addr} {od8 an8 : Option Addr} {sl8 : Array (Option Value)} {oc8 kV8 dc8 pm8 cd8 ct8 : Value}
    (a8 : PySem.W.findIn K (.ref cc_0) "__init__" = some (some (.ref f8))) (l8 : K.lookup f8 = some ⟨oc8, od8, .func (PySem.W.fnOf "__init__" "Frame.__init__" (defArgs st_Frame___init__) (defBody st_Frame___init__) (defScope st_Frame___init__) .none kV8 dc8 pm8 an8 cd8 ct8), sl8⟩) (c8 : PySem.W.codeIn K cd8 "Frame.__init__" = true) (k8 : PySem.W.keepIn K (.ref f8) = true)
    (i8 : PySem.W.isFn K (.ref f8) = true)
    {f9 : Addr} {od9 an9 : Option Addr} {sl9 : Array (Option Value)} {oc9 kV9 dc9 pm9 cd9 ct9 : Value}
    (a9 : PySem.W.findIn K (.ref cc_1) "__init__" = some (some (.ref f9))) (l9 : K.lookup f9 = some ⟨oc9, od9, .func (PySem.W.fnOf "__init__" "FormReader.__init__" (defArgs st_FormReader___init__) (defBody st_FormReader___init__) (defScope st_FormReader___init__) .none kV9 dc9 pm9 an9 cd9 ct9), sl9⟩) (c9 : PySem.W.codeIn K cd9 "FormReader.__init__" = true) (k9 : PySem.W.keepIn K (.ref f9) = true)
    (i9 : PySem.W.isFn K (.ref f9) = true)
    {f10 : Addr} {od10 an10 : Option Addr} {sl10 : Array (Option Value)} {oc10 kV10 dc10 pm10 cd10 ct10 : Value}
    (a10 : PySem.W.findIn K (.ref cc_1) "new_place" = some (some (.ref f10))) (l10 : K.lookup f10 = some ⟨oc10, od10, .func (PySem.W.fnOf "new_place" "FormReader.new_place" (defArgs st_FormReader_new_place) (defBody st_FormReader_new_place) (defScope st_FormReader_new_place) .none kV10 dc10 pm10 an10 cd10 ct10), sl10⟩) (c10 : PySem.W.codeIn K cd10 "FormReader.new_place" = true) (k10 : PySem.W.keepIn K (.ref f10) = true)
    (i10 : PySem.W.isFn K (.ref f10) = true)
    {f11 : Addr} {od11 an11 : Option Addr} {sl11 : Array (Option Value)} {oc11 kV11 dc11 pm11 cd11 ct11 : Value}
    (a11 : PySem.W.findIn K (.ref cc_1) "begin" = some (some (.ref f11))) (l11 : K.lookup f11 = some ⟨oc11, od11, .func (PySem.W.fnOf "begin" "FormReader.begin" (defArgs st_FormReader_begin) (defBody st_FormReader_begin) (defScope st_FormReader_begin) .none kV11 dc11 pm11 an11 cd11 ct11), sl11⟩) (c11 : PySem.W.codeIn K cd11 "FormReader.begin" = true) (k11 : PySem.W.keepIn K (.ref f11) = true)
    (i11 : PySem.W.isFn K (.ref f11) = true)
    {f12 : Addr} {od12 an12 : Option Addr} {sl12 : Array (Option Value)} {oc12 kV12 dc12 pm12 cd12 ct12 : Value}
    (a12 : PySem.W.findIn K (.ref cc_1) "finish" = some (some (.ref f12))) (l12 : K.lookup f12 = some ⟨oc12, od12, .func (PySem.W.fnOf "finish" "FormReader.finish" (defArgs st_FormReader_finish) (defBody st_FormReader_finish) (defScope st_FormReader_finish) .none kV12 dc12 pm12 an12 cd12 ct12), sl12⟩) (c12 : PySem.W.codeIn K cd12 "FormReader.finish" = true) (k12 : PySem.W.keepIn K (.ref f12) = true)
    (i12 : PySem.W.isFn K (.ref f12) = true)
    {f13 : Addr} {od13 an13 : Option Addr} {sl13 : Array (Option Value)} {oc13 kV13 dc13 pm13 cd13 ct13 : Value}
    (a13 : PySem.W.findIn K (.ref cc_1) "take_sign" = some (some (.ref f13))) (l13 : K.lookup f13 = some ⟨oc13, od13, .func (PySem.W.fnOf "take_sign" "FormReader.take_sign" (defArgs st_FormReader_take_sign) (defBody st_FormReader_take_sign) (defScope st_FormReader_take_sign) .none kV13 dc13 pm13 an13 cd13 ct13), sl13⟩) (c13 : PySem.W.codeIn K cd13 "FormReader.take_sign" = true) (k13 : PySem.W.keepIn K (.ref f13) = true)
    (i13 : PySem.W.isFn K (.ref f13) = true)
    {f14 : Addr} {od14 an14 : Option Addr} {sl14 : Array (Option Value)} {oc14 kV14 dc14 pm14 cd14 ct14 : Value}
    (a14 : PySem.W.findIn K (.ref cc_1) "take" = some (some (.ref f14))) (l14 : K.lookup f14 = some ⟨oc14, od14, .func (PySem.W.fnOf "take" "FormReader.take" (defArgs st_FormReader_take) (defBody st_FormReader_take) (defScope st_FormReader_take) .none kV14 dc14 pm14 an14 cd14 ct14), sl14⟩) (c14 : PySem.W.codeIn K cd14 "FormReader.take" = true) (k14 : PySem.W.keepIn K (.ref f14) = true)
    (i14 : PySem.W.isFn K (.ref f14) = true)
    {f15 : Addr} {od15 an15 : Option Addr} {sl15 : Array (Option Value)} {oc15 kV15 dc15 pm15 cd15 ct15 : Value}
    (a15 : PySem.W.nsIn K mainGlobals "value_of" = some (some (.ref f15))) (l15 : K.lookup f15 = some ⟨oc15, od15, .func (PySem.W.fnOf "value_of" "value_of" (defArgs st_value_of) (defBody st_value_of) (defScope st_value_of) .none kV15 dc15 pm15 an15 cd15 ct15), sl15⟩) (c15 : PySem.W.codeIn K cd15 "value_of" = true) (k15 : PySem.W.keepIn K (.ref f15) = true)
    {f16 : Addr} {od16 an16 : Option Addr} {sl16 : Array (Option Value)} {oc16 kV16 dc16 pm16 cd16 ct16 : Value}
    (a16 : PySem.W.nsIn K mainGlobals "taken" = some (some (.ref f16))) (l16 : K.lookup f16 = some ⟨oc16, od16, .func (PySem.W.fnOf "taken" "taken" (defArgs st_taken) (defBody st_taken) (defScope st_taken) .none kV16 dc16 pm16 an16 cd16 ct16), sl16⟩) (c16 : PySem.W.codeIn K cd16 "taken" = true) (k16 : PySem.W.keepIn K (.ref f16) = true)
    {f17 : Addr} {od17 an17 : Option Addr} {sl17 : Array (Option Value)} {oc17 kV17 dc17 pm17 cd17 ct17 : Value}
    (a17 : PySem.W.nsIn K mainGlobals "read" = some (some (.ref f17))) (l17 : K.lookup f17 = some ⟨oc17, od17, .func (PySem.W.fnOf "read" "read" (defArgs st_read) (defBody st_read) (defScope st_read) .none kV17 dc17 pm17 an17 cd17 ct17), sl17⟩) (c17 : PySem.W.codeIn K cd17 "read" = true) (k17 : PySem.W.keepIn K (.ref f17) = true)
    {f18 : Addr} {od18 an18 : Option Addr} {sl18 : Array (Option Value)} {oc18 kV18 dc18 pm18 cd18 ct18 : Value}
    (a18 : PySem.W.nsIn K mainGlobals "offsets" = some (some (.ref f18))) (l18 : K.lookup f18 = some ⟨oc18, od18, .func (PySem.W.fnOf "offsets" "offsets" (defArgs st_offsets) (defBody st_offsets) (defScope st_offsets) .none kV18 dc18 pm18 an18 cd18 ct18), sl18⟩) (c18 : PySem.W.codeIn K cd18 "offsets" = true) (k18 : PySem.W.keepIn K (.ref f18) = true)
    {f19 : Addr} {od19 an19 : Option Addr} {sl19 : Array (Option Value)} {oc19 kV19 dc19 pm19 cd19 ct19 : Value}
    (a19 : PySem.W.nsIn K mainGlobals "_law_draws" = some (some (.ref f19))) (l19 : K.lookup f19 = some ⟨oc19, od19, .func (PySem.W.fnOf "_law_draws" "_law_draws" (defArgs st__law_draws) (defBody st__law_draws) (defScope st__law_draws) .none kV19 dc19 pm19 an19 cd19 ct19), sl19⟩) (c19 : PySem.W.codeIn K cd19 "_law_draws" = true) (k19 : PySem.W.keepIn K (.ref f19) = true)
    {f20 : Addr} {od20 an20 : Option Addr} {sl20 : Array (Option Value)} {oc20 kV20 dc20 pm20 cd20 ct20 : Value}
    (a20 : PySem.W.nsIn K mainGlobals "_law_take" = some (some (.ref f20))) (l20 : K.lookup f20 = some ⟨oc20, od20, .func (PySem.W.fnOf "_law_take" "_law_take" (defArgs st__law_take) (defBody st__law_take) (defScope st__law_take) .none kV20 dc20 pm20 an20 cd20 ct20), sl20⟩) (c20 : PySem.W.codeIn K cd20 "_law_take" = true) (k20 : PySem.W.keepIn K (.ref f20) = true)
    {f21 : Addr} {od21 an21 : Option Addr} {sl21 : Array (Option Value)} {oc21 kV21 dc21 pm21 cd21 ct21 : Value}
    (a21 : PySem.W.nsIn K mainGlobals "_law_same" = some (some (.ref f21))) (l21 : K.lookup f21 = some ⟨oc21, od21, .func (PySem.W.fnOf "_law_same" "_law_same" (defArgs st__law_same) (defBody st__law_same) (defScope st__law_same) .none kV21 dc21 pm21 an21 cd21 ct21), sl21⟩) (c21 : PySem.W.codeIn K cd21 "_law_same" = true) (k21 : PySem.W.keepIn K (.ref f21) = true)
    {f22 : Addr} {od22 an22 : Option Addr} {sl22 : Array (Option Value)} {oc22 kV22 dc22 pm22 cd22 ct22 : Value}
    (a22 : PySem.W.nsIn K mainGlobals "_law_sort" = some (some (.ref f22))) (l22 : K.lookup f22 = some ⟨oc22, od22, .func (PySem.W.fnOf "_law_sort" "_law_sort" (defArgs st__law_sort) (defBody st__law_sort) (defScope st__law_sort) .none kV22 dc22 pm22 an22 cd22 ct22), sl22⟩) (c22 : PySem.W.codeIn K cd22 "_law_sort" = true) (k22 : PySem.W.keepIn K (.ref f22) = true)
    {f23 : Addr} {od23 an23 : Option Addr} {sl23 : Array (Option Value)} {oc23 kV23 dc23 pm23 cd23 ct23 : Value}
    (a23 : PySem.W.nsIn K mainGlobals "_law_tokens" = some (some (.ref f23))) (l23 : K.lookup f23 = some ⟨oc23, od23, .func (PySem.W.fnOf "_law_tokens" "_law_tokens" (defArgs st__law_tokens) (defBody st__law_tokens) (defScope st__law_tokens) .none kV23 dc23 pm23 an23 cd23 ct23), sl23⟩) (c23 : PySem.W.codeIn K cd23 "_law_tokens" = true) (k23 : PySem.W.keepIn K (.ref f23) = true)
    {f24 : Addr} {od24 an24 : Option Addr} {sl24 : Array (Option Value)} {oc24 kV24 dc24 pm24 cd24 ct24 : Value}
    (a24 : PySem.W.nsIn K mainGlobals "_law_value" = some (some (.ref f24))) (l24 : K.lookup f24 = some ⟨oc24, od24, .func (PySem.W.fnOf "_law_value" "_law_value" (defArgs st__law_value) (defBody st__law_value) (defScope st__law_value) .none kV24 dc24 pm24 an24 cd24 ct24), sl24⟩) (c24 : PySem.W.codeIn K cd24 "_law_value" = true) (k24 : PySem.W.keepIn K (.ref f24) = true)
    {f25 : Addr} {od25 an25 : Option Addr} {sl25 : Array (Option Value)} {oc25 kV25 dc25 pm25 cd25 ct25 : Value}
    (a25 : PySem.W.nsIn K mainGlobals "_law_datum" = some (some (.ref f25))) (l25 : K.lookup f25 = some ⟨oc25, od25, .func (PySem.W.fnOf "_law_datum" "_law_datum" (defArgs st__law_datum) (defBody st__law_datum) (defScope st__law_datum) .none kV25 dc25 pm25 an25 cd25 ct25), sl25⟩) (c25 : PySem.W.codeIn K cd25 "_law_datum" = true) (k25 : PySem.W.keepIn K (.ref f25) = true)
    {f26 : Addr} {od26 an26 : Option Addr} {sl26 : Array (Option Value)} {oc26 kV26 dc26 pm26 cd26 ct26 : Value}
    (a26 : PySem.W.nsIn K mainGlobals "_law_read" = some (some (.ref f26))) (l26 : K.lookup f26 = some ⟨oc26, od26, .func (PySem.W.fnOf "_law_read" "_law_read" (defArgs st__law_read) (defBody st__law_read) (defScope st__law_read) .none kV26 dc26 pm26 an26 cd26 ct26), sl26⟩) (c26 : PySem.W.codeIn K cd26 "_law_read" = true) (k26 : PySem.W.keepIn K (.ref f26) = true)
    {f27 : Addr} {od27 an27 : Option Addr} {sl27 : Array (Option Value)} {oc27 kV27 dc27 pm27 cd27 ct27 : Value}
    (a27 : PySem.W.nsIn K mainGlobals "_law_told" = some (some (.ref f27))) (l27 : K.lookup f27 = some ⟨oc27, od27, .func (PySem.W.fnOf "_law_told" "_law_told" (defArgs st__law_told) (defBody st__law_told) (defScope st__law_told) .none kV27 dc27 pm27 an27 cd27 ct27), sl27⟩) (c27 : PySem.W.codeIn K cd27 "_law_told" = true) (k27 : PySem.W.keepIn K (.ref f27) = true)
    {f28 : Addr} {od28 an28 : Option Addr} {sl28 : Array (Option Value)} {oc28 kV28 dc28 pm28 cd28 ct28 : Value}
    (a28 : PySem.W.nsIn K mainGlobals "_law_deep" = some (some (.ref f28))) (l28 : K.lookup f28 = some ⟨oc28, od28, .func (PySem.W.fnOf "_law_deep" "_law_deep" (defArgs st__law_deep) (defBody st__law_deep) (defScope st__law_deep) .none kV28 dc28 pm28 an28 cd28 ct28), sl28⟩) (c28 : PySem.W.codeIn K cd28 "_law_deep" = true) (k28 : PySem.W.keepIn K (.ref f28) = true)
    {f29 : Addr} {od29 an29 : Option Addr} {sl29 : Array (Option Value)} {oc29 kV29 dc29 pm29 cd29 ct29 : Value}
    (a29 : PySem.W.nsIn K mainGlobals "_law_long" = some (some (.ref f29))) (l29 : K.lookup f29 = some ⟨oc29, od29, .func (PySem.W.fnOf "_law_long" "_law_long" (defArgs st__law_long) (defBody st__law_long) (defScope st__law_long) .none kV29 dc29 pm29 an29 cd29 ct29), sl29⟩) (c29 : PySem.W.codeIn K cd29 "_law_long" = true) (k29 : PySem.W.keepIn K (.ref f29) = true)
    {f30 : Addr} {od30 an30 : Option Addr} {sl30 : Array (Option Value)} {oc30 kV30 dc30 pm30 cd30 ct30 : Value}
    (a30 : PySem.W.nsIn K mainGlobals "_law_worded" = some (some (.ref f30))) (l30 : K.lookup f30 = some ⟨oc30, od30, .func (PySem.W.fnOf "_law_worded" "_law_worded" (defArgs st__law_worded) (defBody st__law_worded) (defScope st__law_worded) .none kV30 dc30 pm30 an30 cd30 ct30), sl30⟩) (c30 : PySem.W.codeIn K cd30 "_law_worded" = true) (k30 : PySem.W.keepIn K (.ref f30) = true)
    {f31 : Addr} {od31 an31 : Option Addr} {sl31 : Array (Option Value)} {oc31 kV31 dc31 pm31 cd31 ct31 : Value}
    (a31 : PySem.W.nsIn K mainGlobals "law" = some (some (.ref f31))) (l31 : K.lookup f31 = some ⟨oc31, od31, .func (PySem.W.fnOf "law" "law" (defArgs st_law) (defBody st_law) (defScope st_law) .none kV31 dc31 pm31 an31 cd31 ct31), sl31⟩) (c31 : PySem.W.codeIn K cd31 "law" = true) (k31 : PySem.W.keepIn K (.ref f31) = true)
    (z0 : PySem.W.nsIn K mainGlobals "all" = some none)
    (z1 : PySem.W.nsIn K mainGlobals "len" = some none)
    (z2 : PySem.W.nsIn K mainGlobals "super" = some none)
    (z3 : PySem.W.nsIn K mainGlobals "tuple" = some none)
    (z4 : PySem.W.nsIn K mainGlobals "int" = some none)
    (z5 : PySem.W.nsIn K mainGlobals "list" = some none)
    (z6 : PySem.W.nsIn K mainGlobals "range" = some none)
    (z7 : PySem.W.nsIn K mainGlobals "bool" = some none)
    (z8 : PySem.W.nsIn K mainGlobals "isinstance" = some none)
    (z9 : PySem.W.nsIn K mainGlobals "str" = some none)
    {gt0 : Tok} (vv0 : PySem.W.nsIn K mainGlobals "FIGURES" = some (some (.str "0123456789" gt0)))
    {gt1 : Tok} (vv1 : PySem.W.nsIn K mainGlobals "MOST_FIGURES" = some (some (.int 30 gt1)))
    {gt2 : Tok} (vv2 : PySem.W.nsIn K mainGlobals "LONGEST_NAME" = some (some (.int 20 gt2)))
    {gt3 : Tok} (vv3 : PySem.W.nsIn K mainGlobals "NAME_SIGNS" = some (some (.str "abcdefghijklmnopqrstuvwxyz0123456789!*+-./:<=>?_" gt3)))
    {gt4 : Tok} (vv4 : PySem.W.nsIn K mainGlobals "LONGEST_STRING" = some (some (.int 100 gt4)))
    {gt5 : Tok} (vv5 : PySem.W.nsIn K mainGlobals "ENDS_OF_WORDS" = some (some (.str " \n()'\";" gt5)))
    {gt6 : Tok} (vv6 : PySem.W.nsIn K mainGlobals "DEEPEST_LIST" = some (some (.int 60 gt6)))
    {gt7 : Tok} (vv7 : PySem.W.nsIn K mainGlobals "MOST_SIGNS" = some (some (.int 6000 gt7)))
    {ta0 : Addr} {tu0 : Obj} {ti0 : Array Value} {tn0 : Nat} (tg0 : PySem.W.nsIn K mainGlobals "SPECIAL_NAMES" = some (some (.ref ta0))) (tl0 : K.lookup ta0 = some tu0) (tc0 : tu0.cls = .type "tuple") (td0 : tu0.data = .seq ti0 tn0) (tz0 : ti0.size ≤ sizeLine)
    (tr0 : Paired (fun (u : Value) (d : D) => Gv d u) ti0.toList tup_SPECIAL_NAMES)
    {ta1 : Addr} {te1 : Array DictEntry} {tn1 : Nat} (tg1 : PySem.W.nsIn K mainGlobals "FLAGS" = some (some (.ref ta1))) (tl1 : K.lookup ta1 = some ⟨.type "dict", none, .dict te1 tn1, #[]⟩) (tk1 : PySem.W.KeysLit w.params te1.toList) (ts1 : (ta1 == sysModules) = false)
    (tr1 : Paired (fun (e : DictEntry) (p : Str × D) => (∃ t, e.key = .str p.1 t) ∧ Gv p.2 e.val) te1.toList tab_FLAGS)
    : Top w K mg where
  K_Frame := ⟨cc_0, PySem.W.mg_of X G cn_0, ⟨cpg_0, chd_0, cpo_0, csa_0⟩, cmk_0, ckp_0⟩
  K_FormReader := ⟨cc_1, PySem.W.mg_of X G cn_1, ⟨cpg_1, chd_1, cpo_1, csa_1⟩, cmk_1, ckp_1⟩
  n_Frame_is_sign := nf_0
  n_Frame_place := nf_1
  n_Frame_parts := nf_2
  n_FormReader_forms := nf_3
  n_FormReader_pending := nf_4
  n_FormReader_starts := nf_5
  E_ReadError := ⟨xc0_0, xf_0, PySem.W.mg_of X G xa_0, ⟨xcc_0, xcda_0, _, ⟨_, _, _, _, _, rfl⟩, ⟨_, _, _, xl_0⟩, xd_0, ⟨_, _, _, _, _, _, xe_0, xg_0, xh_0⟩, ⟨_, _, _, xj_0⟩, ⟨xq_0, xm_0, xn_0, xo_0, xp_0⟩, xr_0, xs_0, xu_0, xv_0, xw_0, by decide +kernel⟩, xi_0, xt_0, fun g hg => by obtain rfl := List.mem_singleton.mp hg; exact xz_0, xfB_ok xy_0, Binds.all fun us hl => match us, hl with | [_, _], _ => rfl⟩
  xm_ReadError := excM_one xx_0
  D_are_figures := ⟨_, _, fun_mk (st := st_are_figures) l0 c0 k0, PySem.W.mg_of X G a0, (fun_mk (st := st_are_figures) l0 c0 k0).binds (ps := ["text"]) fun _ _ _ _ _ _ us hl => match us, hl with | [_], _ => rfl⟩
  D_is_number_word := ⟨_, _, fun_mk (st := st_is_number_word) l1 c1 k1, PySem.W.mg_of X G a1, (fun_mk (st := st_is_number_word) l1 c1 k1).binds (ps := ["word"]) fun _ _ _ _ _ _ us hl => match us, hl with | [_], _ => rfl⟩
  D_is_name := ⟨_, _, fun_mk (st := st_is_name) l2 c2 k2, PySem.W.mg_of X G a2, (fun_mk (st := st_is_name) l2 c2 k2).binds (ps := ["text"]) fun _ _ _ _ _ _ us hl => match us, hl with | [_], _ => rfl⟩
  D_sort_of := ⟨_, _, fun_mk (st := st_sort_of) l3 c3 k3, PySem.W.mg_of X G a3, (fun_mk (st := st_sort_of) l3 c3 k3).binds (ps := ["word"]) fun _ _ _ _ _ _ us hl => match us, hl with | [_], _ => rfl⟩
  D_end_of_line := ⟨_, _, fun_mk (st := st_end_of_line) l4 c4 k4, PySem.W.mg_of X G a4, (fun_mk (st := st_end_of_line) l4 c4 k4).binds (ps := ["text", "start"]) fun _ _ _ _ _ _ us hl => match us, hl with | [_, _], _ => rfl⟩
  D_string_token := ⟨_, _, fun_mk (st := st_string_token) l5 c5 k5, PySem.W.mg_of X G a5, (fun_mk (st := st_string_token) l5 c5 k5).binds (ps := ["text", "start"]) fun _ _ _ _ _ _ us hl => match us, hl with | [_, _], _ => rfl⟩
  D_word_token := ⟨_, _, fun_mk (st := st_word_token) l6 c6 k6, PySem.W.mg_of X G a6, (fun_mk (st := st_word_token) l6 c6 k6).binds (ps := ["text", "start"]) fun _ _ _ _ _ _ us hl => match us, hl with | [_, _], _ => rfl⟩
  D_tokens := ⟨_, _, fun_mk (st := st_tokens) l7 c7 k7, PySem.W.mg_of X G a7, (fun_mk (st := st_tokens) l7 c7 k7).binds (ps := ["text"]) fun _ _ _ _ _ _ us hl => match us, hl with | [_], _ => rfl⟩
  M_Frame___init__ := ⟨_, _, fun_mk (st := st_Frame___init__) l8 c8 k8, ⟨a8, i8, k8⟩, (fun_mk (st := st_Frame___init__) l8 c8 k8).binds (ps := ["self", "is_sign", "place"]) fun _ _ _ _ _ _ us hl => match us, hl with | [_, _, _], _ => rfl⟩
  M_FormReader___init__ := ⟨_, _, fun_mk (st := st_FormReader___init__) l9 c9 k9, ⟨a9, i9, k9⟩, (fun_mk (st := st_FormReader___init__) l9 c9 k9).binds (ps := ["self"]) fun _ _ _ _ _ _ us hl => match us, hl with | [_], _ => rfl⟩
  M_FormReader_new_place := ⟨_, _, fun_mk (st := st_FormReader_new_place) l10 c10 k10, ⟨a10, i10, k10⟩, (fun_mk (st := st_FormReader_new_place) l10 c10 k10).binds (ps := ["self", "start"]) fun _ _ _ _ _ _ us hl => match us, hl with | [_, _], _ => rfl⟩
  M_FormReader_begin := ⟨_, _, fun_mk (st := st_FormReader_begin) l11 c11 k11, ⟨a11, i11, k11⟩, (fun_mk (st := st_FormReader_begin) l11 c11 k11).binds (ps := ["self", "is_sign", "start"]) fun _ _ _ _ _ _ us hl => match us, hl with | [_, _, _], _ => rfl⟩
  M_FormReader_finish := ⟨_, _, fun_mk (st := st_FormReader_finish) l12 c12 k12, ⟨a12, i12, k12⟩, (fun_mk (st := st_FormReader_finish) l12 c12 k12).binds (ps := ["self", "datum"]) fun _ _ _ _ _ _ us hl => match us, hl with | [_, _], _ => rfl⟩
  M_FormReader_take_sign := ⟨_, _, fun_mk (st := st_FormReader_take_sign) l13 c13 k13, ⟨a13, i13, k13⟩, (fun_mk (st := st_FormReader_take_sign) l13 c13 k13).binds (ps := ["self", "sign", "start"]) fun _ _ _ _ _ _ us hl => match us, hl with | [_, _, _], _ => rfl⟩
  M_FormReader_take := ⟨_, _, fun_mk (st := st_FormReader_take) l14 c14 k14, ⟨a14, i14, k14⟩, (fun_mk (st := st_FormReader_take) l14 c14 k14).binds (ps := ["self", "text", "token"]) fun _ _ _ _ _ _ us hl => match us, hl with | [_, _, _], _ => rfl⟩
  D_value_of := ⟨_, _, fun_mk (st := st_value_of) l15 c15 k15, PySem.W.mg_of X G a15, (fun_mk (st := st_value_of) l15 c15 k15).binds (ps := ["sort", "word"]) fun _ _ _ _ _ _ us hl => match us, hl with | [_, _], _ => rfl⟩
  D_taken := ⟨_, _, fun_mk (st := st_taken) l16 c16 k16, PySem.W.mg_of X G a16, (fun_mk (st := st_taken) l16 c16 k16).binds (ps := ["text"]) fun _ _ _ _ _ _ us hl => match us, hl with | [_], _ => rfl⟩
  D_read := ⟨_, _, fun_mk (st := st_read) l17 c17 k17, PySem.W.mg_of X G a17, (fun_mk (st := st_read) l17 c17 k17).binds (ps := ["text"]) fun _ _ _ _ _ _ us hl => match us, hl with | [_], _ => rfl⟩
  D_offsets := ⟨_, _, fun_mk (st := st_offsets) l18 c18 k18, PySem.W.mg_of X G a18, (fun_mk (st := st_offsets) l18 c18 k18).binds (ps := ["text"]) fun _ _ _ _ _ _ us hl => match us, hl with | [_], _ => rfl⟩
  D__law_draws := ⟨_, _, fun_mk (st := st__law_draws) l19 c19 k19, PySem.W.mg_of X G a19, (fun_mk (st := st__law_draws) l19 c19 k19).binds (ps := ["script", "count"]) fun _ _ _ _ _ _ us hl => match us, hl with | [_, _], _ => rfl⟩
  D__law_take := ⟨_, _, fun_mk (st := st__law_take) l20 c20 k20, PySem.W.mg_of X G a20, (fun_mk (st := st__law_take) l20 c20 k20).binds (ps := ["draws", "limit"]) fun _ _ _ _ _ _ us hl => match us, hl with | [_, _], _ => rfl⟩
  D__law_same := ⟨_, _, fun_mk (st := st__law_same) l21 c21 k21, PySem.W.mg_of X G a21, (fun_mk (st := st__law_same) l21 c21 k21).binds (ps := ["found", "due"]) fun _ _ _ _ _ _ us hl => match us, hl with | [_, _], _ => rfl⟩
  D__law_sort := ⟨_, _, fun_mk (st := st__law_sort) l22 c22 k22, PySem.W.mg_of X G a22, (fun_mk (st := st__law_sort) l22 c22 k22).binds (ps := ["word"]) fun _ _ _ _ _ _ us hl => match us, hl with | [_], _ => rfl⟩
  D__law_tokens := ⟨_, _, fun_mk (st := st__law_tokens) l23 c23 k23, PySem.W.mg_of X G a23, (fun_mk (st := st__law_tokens) l23 c23 k23).binds (ps := ["text"]) fun _ _ _ _ _ _ us hl => match us, hl with | [_], _ => rfl⟩
  D__law_value := ⟨_, _, fun_mk (st := st__law_value) l24 c24 k24, PySem.W.mg_of X G a24, (fun_mk (st := st__law_value) l24 c24 k24).binds (ps := ["sort", "word"]) fun _ _ _ _ _ _ us hl => match us, hl with | [_, _], _ => rfl⟩
  D__law_datum := ⟨_, _, fun_mk (st := st__law_datum) l25 c25 k25, PySem.W.mg_of X G a25, (fun_mk (st := st__law_datum) l25 c25 k25).binds (ps := ["text", "items", "state", "depth"]) fun _ _ _ _ _ _ us hl => match us, hl with | [_, _, _, _], _ => rfl⟩
  D__law_read := ⟨_, _, fun_mk (st := st__law_read) l26 c26 k26, PySem.W.mg_of X G a26, (fun_mk (st := st__law_read) l26 c26 k26).binds (ps := ["text"]) fun _ _ _ _ _ _ us hl => match us, hl with | [_], _ => rfl⟩
  D__law_told := ⟨_, _, fun_mk (st := st__law_told) l27 c27 k27, PySem.W.mg_of X G a27, (fun_mk (st := st__law_told) l27 c27 k27).binds (ps := ["text"]) fun _ _ _ _ _ _ us hl => match us, hl with | [_], _ => rfl⟩
  D__law_deep := ⟨_, _, fun_mk (st := st__law_deep) l28 c28 k28, PySem.W.mg_of X G a28, (fun_mk (st := st__law_deep) l28 c28 k28).binds (ps := ["draws"]) fun _ _ _ _ _ _ us hl => match us, hl with | [_], _ => rfl⟩
  D__law_long := ⟨_, _, fun_mk (st := st__law_long) l29 c29 k29, PySem.W.mg_of X G a29, (fun_mk (st := st__law_long) l29 c29 k29).binds (ps := ["draws"]) fun _ _ _ _ _ _ us hl => match us, hl with | [_], _ => rfl⟩
  D__law_worded := ⟨_, _, fun_mk (st := st__law_worded) l30 c30 k30, PySem.W.mg_of X G a30, (fun_mk (st := st__law_worded) l30 c30 k30).binds (ps := ["draws"]) fun _ _ _ _ _ _ us hl => match us, hl with | [_], _ => rfl⟩
  D_law := ⟨_, _, fun_mk (st := st_law) l31 c31 k31, PySem.W.mg_of X G a31, (fun_mk (st := st_law) l31 c31 k31).binds (ps := ["script"]) fun _ _ _ _ _ _ us hl => match us, hl with | [_], _ => rfl⟩
  z_all := PySem.W.mg_none_of X G z0
  z_len := PySem.W.mg_none_of X G z1
  z_super := PySem.W.mg_none_of X G z2
  z_tuple := PySem.W.mg_none_of X G z3
  z_int := PySem.W.mg_none_of X G z4
  z_list := PySem.W.mg_none_of X G z5
  z_range := PySem.W.mg_none_of X G z6
  z_bool := PySem.W.mg_none_of X G z7
  z_isinstance := PySem.W.mg_none_of X G z8
  z_str := PySem.W.mg_none_of X G z9
  gt_FIGURES := gt0
  g_FIGURES := PySem.W.mg_of X G vv0
  gt_MOST_FIGURES := gt1
  g_MOST_FIGURES := PySem.W.mg_of X G vv1
  gt_LONGEST_NAME := gt2
  g_LONGEST_NAME := PySem.W.mg_of X G vv2
  gt_NAME_SIGNS := gt3
  g_NAME_SIGNS := PySem.W.mg_of X G vv3
  gt_LONGEST_STRING := gt4
  g_LONGEST_STRING := PySem.W.mg_of X G vv4
  gt_ENDS_OF_WORDS := gt5
  g_ENDS_OF_WORDS := PySem.W.mg_of X G vv5
  gt_DEEPEST_LIST := gt6
  g_DEEPEST_LIST := PySem.W.mg_of X G vv6
  gt_MOST_SIGNS := gt7
  g_MOST_SIGNS := PySem.W.mg_of X G vv7
  g_SPECIAL_NAMES := ⟨_, _, _, _, PySem.W.mg_of X G tg0, tl0, tc0, td0, tz0, tr0⟩
  g_FLAGS := ⟨_, _, _, PySem.W.mg_of X G tg1, ⟨tl1, tk1, ts1⟩, tr1⟩
  bl := fun s v => .of_eq rfl
theorem go_are_figures (T : Top w K mg) {k : Nat} {F : TF}  (hB : Body F 2 1 fun _ => t_are_figures) : FnD pr w K mg base T.D_are_figures (k + 1) F := ok_are_figures T.D_are_figures T.z_all T.g_FIGURES hB
theorem go_is_number_word (T : Top w K mg) {k : Nat} {F : TF} {F_are_figures : TF} {k_are_figures : Nat} (G_are_figures : FnD pr w K mg base T.D_are_figures k_are_figures F_are_figures) (h_are_figures : k_are_figures ≤ k) (hB : Body F 2 1 fun _ => t_is_number_word F_are_figures) : FnD pr w K mg base T.D_is_number_word (k + 1) F := ok_is_number_word T.D_is_number_word T.z_len T.g_MOST_FIGURES T.D_are_figures G_are_figures h_are_figures hB
theorem go_is_name (T : Top w K mg) {k : Nat} {F : TF}  (hB : Body F 3 1 fun _ => t_is_name) : FnD pr w K mg base T.D_is_name (k + 1) F := ok_is_name T.D_is_name T.z_len T.z_all T.g_LONGEST_NAME T.g_NAME_SIGNS T.g_FIGURES T.g_SPECIAL_NAMES hB
theorem go_sort_of (T : Top w K mg) {k : Nat} {F : TF} {F_is_number_word : TF} {k_is_number_word : Nat} (G_is_number_word : FnD pr w K mg base T.D_is_number_word k_is_number_word F_is_number_word) (h_is_number_word : k_is_number_word ≤ k) {F_is_name : TF} {k_is_name : Nat} (G_is_name : FnD pr w K mg base T.D_is_name k_is_name F_is_name) (h_is_name : k_is_name ≤ k) (hB : Body F 1 1 fun _ => t_sort_of F_is_number_word F_is_name) : FnD pr w K mg base T.D_sort_of (k + 1) F := ok_sort_of T.D_sort_of T.g_FLAGS T.D_is_number_word G_is_number_word h_is_number_word T.D_is_name G_is_name h_is_name hB
theorem go_end_of_line (T : Top w K mg) {k : Nat} {F : TF}  (hB : Body F 3 2 fun _ => t_end_of_line) : FnD pr w K mg base T.D_end_of_line (k + 1) F := ok_end_of_line T.D_end_of_line T.z_len hB
theorem go_string_token (T : Top w K mg) {k : Nat} {F : TF} {F_end_of_line : TF} {k_end_of_line : Nat} (G_end_of_line : FnD pr w K mg base T.D_end_of_line k_end_of_line F_end_of_line) (h_end_of_line : k_end_of_line ≤ k) (hB : Body F 4 2 fun _ => t_string_token F_end_of_line) : FnD pr w K mg base T.D_string_token (k + 1) F := ok_string_token T.D_string_token T.g_LONGEST_STRING T.D_end_of_line G_end_of_line h_end_of_line hB
theorem go_word_token (T : Top w K mg) {k : Nat} {F : TF} {F_sort_of : TF} {k_sort_of : Nat} (G_sort_of : FnD pr w K mg base T.D_sort_of k_sort_of F_sort_of) (h_sort_of : k_sort_of ≤ k) (hB : Body F 3 2 fun _ => t_word_token F_sort_of) : FnD pr w K mg base T.D_word_token (k + 1) F := ok_word_token T.D_word_token T.z_len T.g_ENDS_OF_WORDS T.D_sort_of G_sort_of h_sort_of hB
theorem go_tokens (T : Top w K mg) {k : Nat} {F : TF} {F_end_of_line : TF} {k_end_of_line : Nat} (G_end_of_line : FnD pr w K mg base T.D_end_of_line k_end_of_line F_end_of_line) (h_end_of_line : k_end_of_line ≤ k) {F_string_token : TF} {k_string_token : Nat} (G_string_token : FnD pr w K mg base T.D_string_token k_string_token F_string_token) (h_string_token : k_string_token ≤ k) {F_word_token : TF} {k_word_token : Nat} (G_word_token : FnD pr w K mg base T.D_word_token k_word_token F_word_token) (h_word_token : k_word_token ≤ k) (hB : Body F 5 1 fun _ => t_tokens F_end_of_line F_string_token F_word_token) : FnD pr w K mg base T.D_tokens (k + 1) F := ok_tokens T.D_tokens T.z_len T.D_end_of_line G_end_of_line h_end_of_line T.D_string_token G_string_token h_string_token T.D_word_token G_word_token h_word_token hB
theorem go_Frame___init__ (T : Top w K mg) {k : Nat} {F : TF}  (hB : Body F 3 3 fun _ => t_Frame___init__ T.K_Frame.C) : FnM pr w K mg base T.M_Frame___init__ (k + 1) F := ok_Frame___init__ T.K_Frame T.M_Frame___init__ T.n_Frame_is_sign T.n_Frame_place T.n_Frame_parts hB
theorem go_FormReader___init__ (T : Top w K mg) {k : Nat} {F : TF}  (hB : Body F 1 1 fun _ => t_FormReader___init__ T.K_FormReader.C) : FnM pr w K mg base T.M_FormReader___init__ (k + 1) F := ok_FormReader___init__ T.K_FormReader T.M_FormReader___init__ T.n_FormReader_forms T.n_FormReader_pending T.n_FormReader_starts hB
theorem go_FormReader_new_place (T : Top w K mg) {k : Nat} {F : TF}  (hB : Body F 2 2 fun _ => t_FormReader_new_place T.K_FormReader.C) : FnM pr w K mg base T.M_FormReader_new_place (k + 1) F := ok_FormReader_new_place T.K_FormReader T.M_FormReader_new_place T.z_len T.n_FormReader_starts hB
theorem go_FormReader_begin (T : Top w K mg) {k : Nat} {F : TF} {F_FormReader_new_place : TF} {k_FormReader_new_place : Nat} (G_FormReader_new_place : FnM pr w K mg base T.M_FormReader_new_place k_FormReader_new_place F_FormReader_new_place) (h_FormReader_new_place : k_FormReader_new_place ≤ k) {F_Frame___init__ : TF} {k_Frame___init__ : Nat} (G_Frame___init__ : FnM pr w K mg base T.M_Frame___init__ k_Frame___init__ F_Frame___init__) (h_Frame___init__ : k_Frame___init__ + 1 ≤ k) (h2 : 2 ≤ k) (hB : Body F 3 3 fun ex => t_FormReader_begin F_FormReader_new_place F_Frame___init__ T.K_FormReader.C T.K_Frame.C T.E_ReadError.C ex) : FnMX pr w K mg base T.M_FormReader_begin (k + 1) F := ok_FormReader_begin T.K_FormReader T.M_FormReader_begin T.K_Frame T.z_len T.z_super T.g_DEEPEST_LIST T.M_FormReader_new_place G_FormReader_new_place h_FormReader_new_place T.M_Frame___init__ G_Frame___init__ h_Frame___init__ T.E_ReadError h2 T.n_FormReader_pending hB
theorem go_FormReader_finish (T : Top w K mg) {k : Nat} {F : TF}  (hB : Body F 3 2 fun _ => t_FormReader_finish T.K_FormReader.C T.K_Frame.C) : FnM pr w K mg base T.M_FormReader_finish (k + 1) F := ok_FormReader_finish T.K_FormReader T.M_FormReader_finish T.K_Frame T.z_tuple T.n_FormReader_pending T.n_Frame_is_sign T.n_Frame_parts T.n_Frame_place T.n_FormReader_forms hB
theorem go_FormReader_take_sign (T : Top w K mg) {k : Nat} {F : TF} {F_FormReader_begin : TF} {k_FormReader_begin : Nat} (G_FormReader_begin : FnMX pr w K mg base T.M_FormReader_begin k_FormReader_begin F_FormReader_begin) (h_FormReader_begin : k_FormReader_begin ≤ k) {F_FormReader_finish : TF} {k_FormReader_finish : Nat} (G_FormReader_finish : FnM pr w K mg base T.M_FormReader_finish k_FormReader_finish F_FormReader_finish) (h_FormReader_finish : k_FormReader_finish ≤ k) {F_FormReader_new_place : TF} {k_FormReader_new_place : Nat} (G_FormReader_new_place : FnM pr w K mg base T.M_FormReader_new_place k_FormReader_new_place F_FormReader_new_place) (h_FormReader_new_place : k_FormReader_new_place ≤ k) (h2 : 2 ≤ k) (hB : Body F 5 3 fun ex => t_FormReader_take_sign F_FormReader_begin F_FormReader_finish F_FormReader_new_place T.K_FormReader.C T.K_Frame.C T.E_ReadError.C ex) : FnMX pr w K mg base T.M_FormReader_take_sign (k + 1) F := ok_FormReader_take_sign T.K_FormReader T.M_FormReader_take_sign T.K_Frame T.z_super T.z_tuple T.M_FormReader_begin G_FormReader_begin h_FormReader_begin T.M_FormReader_finish G_FormReader_finish h_FormReader_finish T.M_FormReader_new_place G_FormReader_new_place h_FormReader_new_place T.E_ReadError h2 T.n_FormReader_pending T.n_Frame_is_sign T.n_Frame_parts T.n_Frame_place hB
theorem go_FormReader_take (T : Top w K mg) {k : Nat} {F : TF} {F_FormReader_take_sign : TF} {k_FormReader_take_sign : Nat} (G_FormReader_take_sign : FnMX pr w K mg base T.M_FormReader_take_sign k_FormReader_take_sign F_FormReader_take_sign) (h_FormReader_take_sign : k_FormReader_take_sign ≤ k) {F_value_of : TF} {k_value_of : Nat} (G_value_of : FnD pr w K mg base T.D_value_of k_value_of F_value_of) (h_value_of : k_value_of ≤ k) {F_FormReader_finish : TF} {k_FormReader_finish : Nat} (G_FormReader_finish : FnM pr w K mg base T.M_FormReader_finish k_FormReader_finish F_FormReader_finish) (h_FormReader_finish : k_FormReader_finish ≤ k) {F_FormReader_new_place : TF} {k_FormReader_new_place : Nat} (G_FormReader_new_place : FnM pr w K mg base T.M_FormReader_new_place k_FormReader_new_place F_FormReader_new_place) (h_FormReader_new_place : k_FormReader_new_place ≤ k) (h2 : 2 ≤ k) (hB : Body F 8 3 fun ex => t_FormReader_take F_FormReader_take_sign F_value_of F_FormReader_finish F_FormReader_new_place T.K_FormReader.C T.E_ReadError.C ex) : FnMX pr w K mg base T.M_FormReader_take (k + 1) F := ok_FormReader_take T.K_FormReader T.M_FormReader_take T.z_super T.M_FormReader_take_sign G_FormReader_take_sign h_FormReader_take_sign T.D_value_of G_value_of h_value_of T.M_FormReader_finish G_FormReader_finish h_FormReader_finish T.M_FormReader_new_place G_FormReader_new_place h_FormReader_new_place T.E_ReadError h2 hB
theorem go_value_of (T : Top w K mg) {k : Nat} {F : TF}  (hB : Body F 2 2 fun _ => t_value_of) : FnD pr w K mg base T.D_value_of (k + 1) F := ok_value_of T.D_value_of T.z_int T.g_FLAGS hB
theorem go_taken (T : Top w K mg) {k : Nat} {F : TF} {F_FormReader___init__ : TF} {k_FormReader___init__ : Nat} (G_FormReader___init__ : FnM pr w K mg base T.M_FormReader___init__ k_FormReader___init__ F_FormReader___init__) (h_FormReader___init__ : k_FormReader___init__ + 1 ≤ k) {F_tokens : TF} {k_tokens : Nat} (G_tokens : FnD pr w K mg base T.D_tokens k_tokens F_tokens) (h_tokens : k_tokens ≤ k) {F_FormReader_take : TF} {k_FormReader_take : Nat} (G_FormReader_take : FnMX pr w K mg base T.M_FormReader_take k_FormReader_take F_FormReader_take) (h_FormReader_take : k_FormReader_take ≤ k) (h2 : 2 ≤ k) (hB : Body F 3 1 fun ex => t_taken F_FormReader___init__ F_tokens F_FormReader_take T.K_FormReader.C T.E_ReadError.C ex) : FnDX pr w K mg base T.D_taken (k + 1) F := ok_taken T.D_taken T.K_FormReader T.z_len T.z_super T.g_MOST_SIGNS T.M_FormReader___init__ G_FormReader___init__ h_FormReader___init__ T.D_tokens G_tokens h_tokens T.M_FormReader_take G_FormReader_take h_FormReader_take T.E_ReadError h2 T.n_FormReader_pending hB
theorem go_read (T : Top w K mg) {k : Nat} {F : TF} {F_taken : TF} {k_taken : Nat} (G_taken : FnDX pr w K mg base T.D_taken k_taken F_taken) (h_taken : k_taken ≤ k) (hB : Body F 1 1 fun ex => t_read F_taken T.K_FormReader.C ex) : FnDX pr w K mg base T.D_read (k + 1) F := ok_read T.D_read T.K_FormReader T.z_tuple T.D_taken G_taken h_taken T.n_FormReader_forms hB
theorem go_offsets (T : Top w K mg) {k : Nat} {F : TF} {F_taken : TF} {k_taken : Nat} (G_taken : FnDX pr w K mg base T.D_taken k_taken F_taken) (h_taken : k_taken ≤ k) (hB : Body F 1 1 fun ex => t_offsets F_taken T.K_FormReader.C ex) : FnDX pr w K mg base T.D_offsets (k + 1) F := ok_offsets T.D_offsets T.K_FormReader T.z_list T.D_taken G_taken h_taken T.n_FormReader_starts hB
theorem go__law_draws (T : Top w K mg) {k : Nat} {F : TF}  (hB : Body F 9 2 fun _ => t__law_draws) : FnD pr w K mg base T.D__law_draws (k + 1) F := ok__law_draws T.D__law_draws T.z_list T.z_len T.z_range T.z_int hB
theorem go__law_take (T : Top w K mg) {k : Nat} {F : TF}  (hB : Body F 2 2 fun _ => t__law_take) : FnD pr w K mg base T.D__law_take (k + 1) F := ok__law_take T.D__law_take T.z_len T.z_int hB
theorem go__law_same (T : Top w K mg) {k : Nat} {F : TF} {F__law_same : TF} {k__law_same : Nat} (G__law_same : FnD pr w K mg base T.D__law_same k__law_same F__law_same) (h__law_same : k__law_same ≤ k) (hB : Body F 3 2 fun _ => t__law_same F__law_same) : FnD pr w K mg base T.D__law_same (k + 1) F := ok__law_same T.D__law_same T.z_bool T.z_isinstance T.z_int T.z_str T.z_tuple T.z_list T.z_len T.z_range T.z_all G__law_same h__law_same hB
theorem go__law_sort (T : Top w K mg) {k : Nat} {F : TF}  (hB : Body F 3 1 fun _ => t__law_sort) : FnD pr w K mg base T.D__law_sort (k + 1) F := ok__law_sort T.D__law_sort T.z_all T.z_len T.z_int T.z_list hB
theorem go__law_tokens (T : Top w K mg) {k : Nat} {F : TF} {F__law_sort : TF} {k__law_sort : Nat} (G__law_sort : FnD pr w K mg base T.D__law_sort k__law_sort F__law_sort) (h__law_sort : k__law_sort ≤ k) (hB : Body F 7 1 fun _ => t__law_tokens F__law_sort) : FnD pr w K mg base T.D__law_tokens (k + 1) F := ok__law_tokens T.D__law_tokens T.z_range T.z_len T.z_int T.D__law_sort G__law_sort h__law_sort hB
theorem go__law_value (T : Top w K mg) {k : Nat} {F : TF}  (hB : Body F 2 2 fun _ => t__law_value) : FnD pr w K mg base T.D__law_value (k + 1) F := ok__law_value T.D__law_value T.z_len T.z_int hB
theorem go__law_datum (T : Top w K mg) {k : Nat} {F : TF} {F__law_value : TF} {k__law_value : Nat} (G__law_value : FnD pr w K mg base T.D__law_value k__law_value F__law_value) (h__law_value : k__law_value ≤ k) {F__law_datum : TF} {k__law_datum : Nat} (G__law_datum : FnD pr w K mg base T.D__law_datum k__law_datum F__law_datum) (h__law_datum : k__law_datum ≤ k) (hB : Body F 10 4 fun _ => t__law_datum F__law_value F__law_datum) : FnD pr w K mg base T.D__law_datum (k + 1) F := ok__law_datum T.D__law_datum T.z_len T.z_tuple T.D__law_value G__law_value h__law_value G__law_datum h__law_datum hB
theorem go__law_read (T : Top w K mg) {k : Nat} {F : TF} {F__law_tokens : TF} {k__law_tokens : Nat} (G__law_tokens : FnD pr w K mg base T.D__law_tokens k__law_tokens F__law_tokens) (h__law_tokens : k__law_tokens ≤ k) {F__law_datum : TF} {k__law_datum : Nat} (G__law_datum : FnD pr w K mg base T.D__law_datum k__law_datum F__law_datum) (h__law_datum : k__law_datum ≤ k) (hB : Body F 4 1 fun _ => t__law_read F__law_tokens F__law_datum) : FnD pr w K mg base T.D__law_read (k + 1) F := ok__law_read T.D__law_read T.z_len T.z_tuple T.D__law_tokens G__law_tokens h__law_tokens T.D__law_datum G__law_datum h__law_datum hB
theorem go__law_told (T : Top w K mg) {k : Nat} {F : TF} {F_read : TF} {k_read : Nat} (G_read : FnDX pr w K mg base T.D_read k_read F_read) (h_read : k_read ≤ k) {F_offsets : TF} {k_offsets : Nat} (G_offsets : FnDX pr w K mg base T.D_offsets k_offsets F_offsets) (h_offsets : k_offsets ≤ k) (hB : Body F 4 1 fun ex => t__law_told F_read F_offsets T.E_ReadError.C ex) : FnDX pr w K mg base T.D__law_told (k + 1) F := ok__law_told T.D__law_told T.D_read G_read h_read T.D_offsets G_offsets h_offsets T.E_ReadError T.xm_ReadError hB
theorem go__law_deep (T : Top w K mg) {k : Nat} {F : TF} {F__law_take : TF} {k__law_take : Nat} (G__law_take : FnD pr w K mg base T.D__law_take k__law_take F__law_take) (h__law_take : k__law_take ≤ k) (hB : Body F 6 1 fun _ => t__law_deep F__law_take) : FnD pr w K mg base T.D__law_deep (k + 1) F := ok__law_deep T.D__law_deep T.z_range T.z_len T.D__law_take G__law_take h__law_take hB
theorem go__law_long (T : Top w K mg) {k : Nat} {F : TF} {F__law_take : TF} {k__law_take : Nat} (G__law_take : FnD pr w K mg base T.D__law_take k__law_take F__law_take) (h__law_take : k__law_take ≤ k) (hB : Body F 4 1 fun _ => t__law_long F__law_take) : FnD pr w K mg base T.D__law_long (k + 1) F := ok__law_long T.D__law_long T.D__law_take G__law_take h__law_take hB
theorem go__law_worded (T : Top w K mg) {k : Nat} {F : TF} {F__law_take : TF} {k__law_take : Nat} (G__law_take : FnD pr w K mg base T.D__law_take k__law_take F__law_take) (h__law_take : k__law_take ≤ k) (hB : Body F 4 1 fun _ => t__law_worded F__law_take) : FnD pr w K mg base T.D__law_worded (k + 1) F := ok__law_worded T.D__law_worded T.D__law_take G__law_take h__law_take hB
theorem go_law (T : Top w K mg) {k : Nat} {F : TF} {F__law_draws : TF} {k__law_draws : Nat} (G__law_draws : FnD pr w K mg base T.D__law_draws k__law_draws F__law_draws) (h__law_draws : k__law_draws ≤ k) {F__law_take : TF} {k__law_take : Nat} (G__law_take : FnD pr w K mg base T.D__law_take k__law_take F__law_take) (h__law_take : k__law_take ≤ k) {F__law_worded : TF} {k__law_worded : Nat} (G__law_worded : FnD pr w K mg base T.D__law_worded k__law_worded F__law_worded) (h__law_worded : k__law_worded ≤ k) {F__law_deep : TF} {k__law_deep : Nat} (G__law_deep : FnD pr w K mg base T.D__law_deep k__law_deep F__law_deep) (h__law_deep : k__law_deep ≤ k) {F__law_long : TF} {k__law_long : Nat} (G__law_long : FnD pr w K mg base T.D__law_long k__law_long F__law_long) (h__law_long : k__law_long ≤ k) {F__law_told : TF} {k__law_told : Nat} (G__law_told : FnDX pr w K mg base T.D__law_told k__law_told F__law_told) (h__law_told : k__law_told ≤ k) {F__law_read : TF} {k__law_read : Nat} (G__law_read : FnD pr w K mg base T.D__law_read k__law_read F__law_read) (h__law_read : k__law_read ≤ k) {F__law_same : TF} {k__law_same : Nat} (G__law_same : FnD pr w K mg base T.D__law_same k__law_same F__law_same) (h__law_same : k__law_same ≤ k) (hB : Body F 5 1 fun ex => t_law F__law_draws F__law_take F__law_worded F__law_deep F__law_long F__law_told F__law_read F__law_same ex) : FnDX pr w K mg base T.D_law (k + 1) F := ok_law T.D_law T.z_range T.D__law_draws G__law_draws h__law_draws T.D__law_take G__law_take h__law_take T.D__law_worded G__law_worded h__law_worded T.D__law_deep G__law_deep h__law_deep T.D__law_long G__law_long h__law_long T.D__law_told G__law_told h__law_told T.D__law_read G__law_read h__law_read T.D__law_same G__law_same h__law_same hB
end
end Y
namespace Y
set_option hygiene false
open PySem PySem.Spec L2 SX
local macro_rules | `(tactic| walk_at "y") => `(tactic| dsimp only [tGet2, ex0, exB, endB, envOf, Env.set, Env.put, Env.stSet, Env.push, tFldY, sFldY, tMtE, tMethY, tMakeY, callF, tPub, pub, M.ob?, Ob.vw, Ob.toM, sSetE, tMaxD, gIntS, sRaise, sTry, sTryAs, endN, tXfY, tSm, gFind, gJoin, gStr, gStarts, List.zip_cons_cons, List.zip_nil_left, List.reverse_cons, List.reverse_nil, TF.calm, gx0, putFD, tCallV, tCallL, capt, gLtD, gSum, gMax, gSorted2, sNil, sBk, sCt, sDrop, sIf, asg, sAsg, sRet, sRetN, tIm, tNm, tBin, w2, vw, Sl.m?, tTst, tTru, M.tru, tAndQ, tOrQ, tNotQ, tAndX, tOrX, tNotX, tIfX, lNil, lCons, tOn, fInD, fIxD, tGet1, vwD, getOr, M.isD, sPar2, tLc2X, compL2, tChn, tFrz, froz, tTp, tLs, tCl, vws, tMt, Sl.m!, Sl.up, M.res, gLen, gInt, gAdd, gSub, gMul, gMulS, gDiv, gMod, gPow, gII, gI0, gEqs, gEqs2, gIx, gPop, gApp, gRev, gExt, gTuple, gList, gDict, gIs, gIsi, gAll, gIns, gSorted, gSl, M.lq?, M.lst?, M.sq?, M.dat?, M.isNon, gLt, gLe, gGt, gGe, sFor, iSeq, srcOf, iEnm, enmOf, iRg1, iRg2, bnd, setAll, backS, Sl.isP, tSlc, pNo, pSo, sSetI, hasM, setM, tDspK, tDspT, pairG, D.key?, D.keys?, D.tkey?, putAll, tNewK, tNewT, tNeg, sUnp, tCall, argMs, argM, argS, slots, putB, stepB, putS_lo_ls_ls, putS_lo_ls_dk, putS_lo_ls_dt, putS_lo_ls_no, putS_pa_ls_ls, putS_pa_ls_dk, putS_pa_ls_dt, putS_pa_ls_no, putS_lo_rd_ls, putS_lo_rd_dk, putS_lo_rd_dt, putS_lo_rd_no, putS_pa_rd_ls, putS_pa_rd_dk, putS_pa_rd_dt, putS_pa_rd_no, putS_lo_dk_ls, putS_lo_dk_dk, putS_lo_dk_dt, putS_lo_dk_no, putS_pa_dk_ls, putS_pa_dk_dk, putS_pa_dk_dt, putS_pa_dk_no, putS_lo_dt_ls, putS_lo_dt_dk, putS_lo_dt_dt, putS_lo_dt_no, putS_pa_dt_ls, putS_pa_dt_dk, putS_pa_dt_dt, putS_pa_dt_no, putS_lo_im, putS_lo_sq, putS_pa_im, putS_pa_sq, M.own, M.fit, fins, Sl.fin, envOf, tLcX, compL, wipeE, restE, keepS, qYes, kD, dGet, List.getElem?_cons_zero, List.getElem?_cons_succ, List.getElem?_nil, List.set_cons_zero, List.set_cons_succ, List.map_cons, List.map_nil, List.take_succ_cons, List.take_zero, List.length_cons, List.length_nil, List.head?_cons, List.tail_cons, Option.join_some, List.cons_append, List.nil_append, List.replicate])
local macro_rules | `(tactic| walk_at "n") => `(tactic| ((try dsimp only); refine seq_step fun R hR => ?_; walk_at "y"))
local macro_rules | `(tactic| walk_at "i") => `(tactic| simp only [Bool.false_xor, Bool.true_xor, Bool.not_true, Bool.not_false, Bool.false_eq_true, reduceIte, isiT, M.ty, String.reduceBEq, Bool.or_false, Bool.false_or, Bool.and_false, Bool.and_true, Bool.true_and, Bool.false_and, Bool.or_true, List.mem_cons, true_or, or_true, true_and, and_true, String.reduceEq, decide_true, decide_false])
local macro_rules | `(tactic| walk_at "s") => `(tactic| (subst hR; walk_at "n"))
local macro_rules | `(tactic| walk_at "z") => `(tactic| (simp only [List.map_cons, List.map_nil, atI_c0, atI_c1, atI_c2, atI_c3, atI_c4, atI_c5]; (try walk_at "y")))
local macro_rules | `(tactic| walk_at "e") => `(tactic| repeat (first | rw [if_pos (by decide +kernel)] | rw [if_neg (by decide +kernel)]))
/-! ### the reader's words -/
theorem szLine {n : Nat} (h : n ≤ 1000000) : n ≤ sizeLine := by rw [sizeLine_eq]; omega
theorem szLt {n : Nat} (h : n ≤ 1000000) : n < sizeLine := by rw [sizeLine_eq]; omega
theorem bls_map {α : Type} (p : α → Bool) : ∀ l : List α, D.bls? (l.map fun a => .bl (p a)) = some (l.map p)
  | [] => rfl
  | a :: l => by rw [List.map_cons, D.bls?, bls_map p l]; rfl
theorem filterMap_some {α β : Type} (f : α → β) (l : List α) : [] ++ l.filterMap (fun a => some (f a)) = l.map f := by simp
theorem all_id {α : Type} (p : α → Bool) (l : List α) : (l.map p).all id = l.all p := by simp [List.all_map]
/-- [sign in c for sign in w] -/
theorem comp_signs {w c : Tx} {x : Str} {ρ : Env} {k : List D → Env → Prop} {i : Nat} (hx : x = S c) (h0 : ρ.sl[i]? = some .no) (hl : w.length ≤ 1000000) (hk : k (w.map fun n => .bl (decide (n ∈ c))) ρ) :
    compL (Bd.one i) qYes (tBin (gIns false) (tNm i) (tIm (D.str x))) [i] (fun _ => True) k (List.map (fun n => D.str { cps := #[n] }) w) [] ρ := by
  subst hx
  have hi : i < ρ.sl.length := (List.getElem?_eq_some_iff.mp h0).1
  refine comp_fix (fun n => D.str ⟨#[n]⟩) (fun n => some (.bl (decide (n ∈ c)))) trivial w [] (fun n _ acc L hacc h => ?_) (by simpa using szLine hl) (by rw [filterMap_some]; exact hk)
  have e1 : (ρ.set i (.lo (.im (.str ⟨#[n]⟩)))).sl[i]? = some (.lo (.im (.str ⟨#[n]⟩))) := List.getElem?_set_self hi
  have e2 : (wipeE (ρ.set i (.lo (.im (.str ⟨#[n]⟩)))) [i]) = ρ := by
    show Env.mk ((ρ.sl.set i _).set i .no) ρ.st = ρ
    rw [List.set_set]
    obtain ⟨sl, st⟩ := ρ
    congr 1
    apply List.ext_getElem?
    intro j
    by_cases hj : i = j
    · subst hj; rw [List.getElem?_set_self hi]; exact h0.symm
    · rw [List.getElem?_set_ne hj]
  dsimp only [bnd, qYes]
  rw [if_pos rfl]
  unfold tFrz lCons lNil tBin tNm
  simp only [e1, Sl.m?]
  dsimp only [tIm, w2, vw, gIns, M.res, froz]
  rw [in_S, Bool.false_xor]
  exact ⟨hacc, by rw [e2]; exact h⟩
def F_figs : TF := fun ms W G Gx => ∃ w : Tx, ms = [.im (.str (S w))] ∧ w.length ≤ 7000 ∧ ∀ fin, G (.im (.bl (decide (w ≠ []) && allFig w))) fin W
theorem str_nil {w : Tx} : decide (S w = Str.ofString "") = decide (w = []) := by
  rw [show Str.ofString "" = S [] from rfl, S_eqD]
theorem body_figs : Body F_figs 2 1 fun _ => t_are_figures := by
  rintro ms W G Gx hl ⟨w, rfl, hw, q⟩
  show t_are_figures _ ⟨[Sl.pa (.im (.str (S w))), .no], W⟩
  unfold t_are_figures
  walk_at "y"
  rw [str_nil, Bool.true_xor]
  by_cases h : w = []
  · subst h
    rw [if_neg (by decide)]
    exact q _
  · rw [if_pos (by simp [h])]
    refine comp_signs lit_fig rfl (by omega) ?_
    rw [bls_map]
    dsimp only
    rw [all_id]
    have e : (decide (w ≠ []) && allFig w) = w.all fun c => decide (c ∈ Lfig) := by rw [decide_eq_true h, Bool.true_and]; rfl
    rw [e] at q
    exact q _
theorem lit_0 : ("0" : Str) = S [48] := by decide +kernel
theorem lit_neg : ("-" : Str) = S [45] := by decide +kernel
theorem slice_1 {w : Tx} : Txt.slice (S w) none (some 1) = S (w.take 1) := slice_to (by omega)
theorem slice_f1 {w : Tx} : Txt.slice (S w) (some 1) none = S (w.drop 1) := slice_from (by omega)
def F_num : TF := fun ms W G Gx => ∃ w : Tx, ms = [.im (.str (S w))] ∧ w.length ≤ 7000 ∧ ∀ fin, G (.im (.bl (isNum w))) fin W
theorem body_num : Body F_num 2 1 fun _ => t_is_number_word F_figs := by
  rintro ms W G Gx hl ⟨w, rfl, hw, q⟩
  show t_is_number_word _ _ ⟨[Sl.pa (.im (.str (S w))), .no], W⟩
  unfold t_is_number_word
  walk_at "n"
  have hs : (S w).length ≤ sizeLine := by rw [S_len]; exact szLine (by omega)
  refine ⟨hs, ?_⟩
  have hbl : (bodyOf w).length ≤ 7000 := by unfold bodyOf; split; (rw [List.length_drop]; omega); omega
  have go : R ⟨[Sl.pa (.im (.str (S w))), .lo (.im (.str (S (bodyOf w))))], W⟩ := by
    subst hR
    walk_at "n"
    refine ⟨rfl, .nil, bodyOf w, rfl, hbl, fun fin => ⟨rfl, ?_⟩⟩
    walk_at "y"
    by_cases h1 : bodyOf w = [] ∨ allFig (bodyOf w) = false
    · have e : (decide (bodyOf w ≠ []) && allFig (bodyOf w)) = false := by rcases h1 with h | h <;> simp [h]
      rw [if_pos (by rw [e]; rfl)]
      have e2 : isNum w = false := by unfold isNum; rw [if_pos (.inl h1)]
      rw [e2] at q
      exact q _
    · have h1a : bodyOf w ≠ [] := fun z => h1 (.inl z)
      have h1b : allFig (bodyOf w) = true := by cases z : allFig (bodyOf w); exact absurd (.inr z) h1; rfl
      have e : (decide (bodyOf w ≠ []) && allFig (bodyOf w)) = true := by simp [h1a, h1b]
      rw [if_neg (by rw [e]; simp)]
      rw [S_len]
      refine ⟨szLine (by omega), ?_⟩
      by_cases h2 : 30 < (bodyOf w).length
      · rw [if_pos (by simp; omega)]
        have e2 : isNum w = false := by unfold isNum; rw [if_pos (.inr h2)]
        rw [e2] at q
        exact q _
      · rw [if_neg (by simp; omega)]
        have e2 : isNum w = (decide (w = [48]) || decide ((bodyOf w).head? ≠ some 48)) := by unfold isNum; rw [if_neg (by rintro (z | z); exact h1 z; exact h2 z)]
        rw [e2] at q
        subst hR
        walk_at "y"
        rw [lit_0, S_eqD, Bool.false_xor]
        by_cases h3 : w = [48]
        · rw [if_pos (by simp [h3])]
          rw [decide_eq_true h3, Bool.true_or] at q
          exact q _
        · rw [if_neg (by simp [h3])]
          rw [decide_eq_false h3, Bool.false_or] at q
          rw [S_at]
          obtain ⟨c, r, hc⟩ := List.exists_cons_of_ne_nil h1a
          rw [hc, atI_c0]
          refine ⟨by rw [← hc, S_len]; exact szLine (by omega), ?_⟩
          dsimp only
          rw [show decide (({ cps := #[c] } : Str) = S [48]) = decide (c = 48) by rw [show ({ cps := #[c] } : Str) = S [c] from rfl, S_eqD]; simp, Bool.true_xor]
          rw [hc, List.head?_cons] at q
          have e3 : decide (some c ≠ some 48) = !decide (c = 48) := by by_cases z : c = 48 <;> simp [z]
          rw [e3] at q
          exact q _
  rw [slice_1, slice_f1, lit_neg, S_eqD, Bool.false_xor]
  by_cases h : w.take 1 = [45]
  · rw [if_pos (by simp [h])]
    rw [show bodyOf w = w.drop 1 from if_pos h] at go
    exact ⟨hs, go⟩
  · rw [if_neg (by simp [h])]
    rw [show bodyOf w = w from if_neg h] at go
    exact go

theorem firstOf_cons {c : Nat} {r : Tx} : firstOf (c :: r) = if c = 45 then r.take 1 else [c] := by unfold firstOf; simp
/-- code points -/
def Uni (w : Tx) : Prop := ∀ c ∈ w, c < 1114112
theorem Uni.sub {w v : Tx} (h : Uni w) (s : ∀ c ∈ v, c ∈ w) : Uni v := fun c hc => h c (s c hc)
theorem Uni.drop {w : Tx} (h : Uni w) (n : Nat) : Uni (w.drop n) := h.sub fun _ hc => List.mem_of_mem_drop hc
theorem Uni.take {w : Tx} (h : Uni w) (n : Nat) : Uni (w.take n) := h.sub fun _ hc => List.mem_of_mem_take hc
theorem ok_str {w : Tx} (h : Uni w) (n : Nat) : D.ok (n + 1) (.str (S w)) = true := by
  show PyData.strOk (S w) = true
  unfold PyData.strOk
  rw [← Array.all_toList, List.all_eq_true]
  intro c hc
  exact decide_eq_true (h c hc)
theorem lit_dots : ("..." : Str) = S [46, 46, 46] := by decide +kernel
theorem lit_wild : ("_" : Str) = S [95] := by decide +kernel
theorem eqv_str (a b : Str) : D.eqv (.str a) (.str b) = decide (a = b) := by
  show (a == b) = _
  by_cases h : a = b <;> simp [h]
def F_name : TF := fun ms W G Gx => ∃ w : Tx, ms = [.im (.str (S w))] ∧ w.length ≤ 7000 ∧ Uni w ∧ ∀ fin, G (.im (.bl (isNm w))) fin W
theorem body_name : Body F_name 3 1 fun _ => t_is_name := by
  rintro ms W G Gx hl ⟨w, rfl, hw, hu, q⟩
  show t_is_name _ ⟨[Sl.pa (.im (.str (S w))), .no, .no], W⟩
  unfold t_is_name
  walk_at "n"
  have hs : (S w).length ≤ sizeLine := by rw [S_len]; exact szLine (by omega)
  refine ⟨hs, ?_⟩
  rw [S_len]
  have no : ¬ (¬ (1 ≤ w.length ∧ w.length ≤ 20) ∨ w = [46, 46, 46] ∨ w = [95]) → R ⟨[Sl.pa (.im (.str (S w))), Sl.no, Sl.no], W⟩ := fun hn => by
    subst hR
    walk_at "n"
    refine comp_signs lit_name rfl (by omega) ?_
    rw [bls_map]
    dsimp only
    rw [all_id]
    by_cases h1 : (w.all fun c => decide (c ∈ Lname)) = false
    · rw [h1]
      have e : isNm w = false := by unfold isNm; rw [if_neg hn, if_pos h1]
      rw [e] at q
      exact q _
    · rw [Bool.not_eq_false] at h1
      rw [h1]
      have e : isNm w = (decide (firstOf w = []) || decide (∀ c, (firstOf w).head? = some c → c ∉ Lfig)) := by unfold isNm; rw [if_neg hn, if_neg (by simp [h1])]
      rw [e] at q
      have hne : w ≠ [] := fun z => hn (.inl (by simp [z]))
      obtain ⟨c, r, rfl⟩ := List.exists_cons_of_ne_nil hne
      rw [firstOf_cons] at q
      subst hR
      have go : ∀ v : Tx, (v = [] ∨ ∃ d, v = [d]) → (∀ fin, G (.im (.bl (decide (v = []) || decide (∀ c, v.head? = some c → c ∉ Lfig)))) fin W) → ∀ R', R' = sRet (tOrX (tBin (gIns true) (tNm 2) (tIm (D.str (Str.ofString "0123456789")))) (tBin (gEqs2 false) (tNm 2) (tIm (D.str (Str.ofString ""))))) (endB 1 G) → R' ⟨[Sl.pa (.im (.str (S (c :: r)))), Sl.no, .lo (.im (.str (S v)))], W⟩ := by
        intro v hv q R' hR'
        subst hR'
        walk_at "y"
        rw [lit_fig, Bool.true_xor]
        rcases hv with rfl | ⟨d, rfl⟩
        · split
          · exact q _
          · rw [str_nil]; exact q _
        · rw [in_one, str_nil]
          have e2 : (decide (([d] : Tx) = []) || decide (∀ c, ([d] : Tx).head? = some c → c ∉ Lfig)) = !decide (d ∈ Lfig) := by simp
          rw [e2] at q
          by_cases hd : d ∈ Lfig
          · rw [if_neg (by simp [hd])]
            rw [decide_eq_true hd] at q
            exact q _
          · rw [if_pos (by simp [hd])]
            rw [decide_eq_false hd] at q
            exact q _
      rw [if_neg (by decide)]
      walk_at "n"
      rw [S_at, atI_c0]
      refine ⟨hs, ?_⟩
      dsimp only
      rw [lit_neg, show decide (({ cps := #[c] } : Str) = S [45]) = decide (c = 45) by rw [show ({ cps := #[c] } : Str) = S [c] from rfl, S_eqD]; simp, Bool.false_xor]
      by_cases h2 : c = 45
      · rw [if_pos (by simp [h2])]
        rw [if_pos h2] at q
        refine ⟨hs, ?_⟩
        have e3 : Txt.slice (S (c :: r)) (some 1) (some 2) = S (r.take 1) := by
          rw [show (1 : Int) = ((1 : Nat) : Int) from rfl, show (2 : Int) = ((1 : Nat) : Int) + 1 from rfl, slice_one (by simp)]
          simp
        rw [e3]
        refine go _ ?_ q _ hR
        cases r with
        | nil => exact .inl rfl
        | cons d r => exact .inr ⟨d, rfl⟩
      · rw [if_neg (by simp [h2])]
        rw [if_neg h2] at q
        refine ⟨hs, ?_⟩
        exact go [c] (.inr ⟨c, rfl⟩) q _ hR
  have bad : ¬ (1 ≤ w.length ∧ w.length ≤ 20) ∨ w = [46, 46, 46] ∨ w = [95] → ∀ fin, G (.im (.bl false)) fin W := fun h fin => by
    have e : isNm w = false := by unfold isNm; rw [if_pos h]
    rw [e] at q
    exact q fin
  by_cases a1 : 1 ≤ w.length
  · rw [if_pos (by simp; omega)]
    by_cases a2 : w.length ≤ 20
    · rw [if_neg (by simp; omega)]
      refine ⟨ok_str hu 63, ?_⟩
      have e : (tup_SPECIAL_NAMES.any fun z => z.eqv (D.str (S w))) = (decide ([46, 46, 46] = w) || decide ([95] = w)) := by
        show ((D.str "...").eqv (D.str (S w)) || ((D.str "_").eqv (D.str (S w)) || false)) = _
        rw [eqv_str, eqv_str, lit_dots, lit_wild, S_eqD, S_eqD, Bool.or_false]
      rw [e, Bool.false_xor]
      dsimp only
      by_cases a3 : w = [46, 46, 46]
      · rw [if_pos (by simp [a3])]
        exact bad (.inr (.inl a3)) _
      · by_cases a4 : w = [95]
        · rw [if_pos (by simp [a4])]
          exact bad (.inr (.inr a4)) _
        · rw [if_neg (by simp [Ne.symm a3, Ne.symm a4, a3, a4])]
          exact no (by rintro (z | z | z); exact z ⟨a1, a2⟩; exact a3 z; exact a4 z)
    · rw [if_pos (by simp; omega), if_pos rfl]
      exact bad (.inl fun z => a2 z.2) _
  · rw [if_neg (by simp; omega), if_pos (by decide), if_pos rfl]
    exact bad (.inl fun z => a1 z.1) _

theorem tab_flags (w : Tx) : tabGet tab_FLAGS (S w) = if w = [35, 116] then some (.bl true) else if w = [35, 102] then some (.bl false) else none := by
  show (if ("#t" : Str) = S w then some (D.bl true) else if ("#f" : Str) = S w then some (D.bl false) else none) = _
  rw [show ("#t" : Str) = S [35, 116] by decide +kernel, show ("#f" : Str) = S [35, 102] by decide +kernel]
  simp only [S_eq]
  by_cases h1 : w = [35, 116]
  · rw [if_pos h1, if_pos h1.symm]
  · rw [if_neg h1, if_neg (Ne.symm h1)]
    by_cases h2 : w = [35, 102]
    · rw [if_pos h2, if_pos h2.symm]
    · rw [if_neg h2, if_neg (Ne.symm h2)]
def F_sort : TF := fun ms W G Gx => ∃ w : Tx, ms = [.im (.str (S w))] ∧ w.length ≤ 7000 ∧ Uni w ∧ ∀ fin, G (.im (.str (sortOf w))) fin W
theorem body_sort : Body F_sort 1 1 fun _ => t_sort_of F_num F_name := by
  rintro ms W G Gx hl ⟨w, rfl, hw, hu, q⟩
  show t_sort_of _ _ _ ⟨[Sl.pa (.im (.str (S w)))], W⟩
  unfold t_sort_of
  walk_at "n"
  refine ⟨rfl, .nil, w, rfl, hw, fun fin => ⟨rfl, ?_⟩⟩
  walk_at "y"
  unfold sortOf at q
  by_cases h1 : isNum w = true
  · rw [if_pos h1] at q ⊢
    exact q _
  rw [if_neg h1] at q ⊢
  subst hR
  walk_at "n"
  rw [tab_flags, Bool.false_xor]
  by_cases h2 : w = [35, 116] ∨ w = [35, 102]
  · rw [if_pos h2] at q
    rw [if_pos (by rcases h2 with h | h <;> simp [h])]
    exact q _
  rw [if_neg h2] at q
  rw [if_neg (by simp only [not_or] at h2; simp [h2.1, h2.2])]
  subst hR
  walk_at "n"
  rw [lit_dots, S_eqD, Bool.false_xor]
  by_cases h3 : w = [46, 46, 46]
  · rw [if_pos h3] at q
    rw [if_pos (by simp [h3])]
    exact q _
  rw [if_neg h3] at q
  rw [if_neg (by simp [h3])]
  subst hR
  walk_at "n"
  rw [lit_wild, S_eqD, Bool.false_xor]
  by_cases h4 : w = [95]
  · rw [if_pos h4] at q
    rw [if_pos (by simp [h4])]
    exact q _
  rw [if_neg h4] at q
  rw [if_neg (by simp [h4])]
  subst hR
  walk_at "y"
  refine ⟨rfl, .nil, w, rfl, hw, hu, fun fin => ⟨rfl, ?_⟩⟩
  walk_at "y"
  by_cases h5 : isNm w = true
  · rw [if_pos h5] at q ⊢
    exact q _
  · rw [if_neg h5] at q ⊢
    exact q _

/-! ### tokens -/
theorem tw_lt {P : Nat → Bool} : ∀ {s : Tx} {k : Nat}, k < (s.takeWhile P).length → ∃ c, s[k]? = some c ∧ P c = true
  | [], k, h => by simp at h
  | x :: s, k, h => by
    rw [List.takeWhile_cons] at h
    by_cases e : P x = true
    · rw [if_pos e, List.length_cons] at h
      cases k with
      | zero => exact ⟨x, rfl, e⟩
      | succ k => exact tw_lt (s := s) (k := k) (by omega)
    · rw [if_neg e] at h; simp at h
theorem tw_at {P : Nat → Bool} : ∀ {s : Tx}, (s.takeWhile P).length = s.length ∨ ∃ c, s[(s.takeWhile P).length]? = some c ∧ P c = false
  | [] => .inl rfl
  | x :: s => by
    rw [List.takeWhile_cons]
    by_cases e : P x = true
    · rw [if_pos e, List.length_cons, List.length_cons]
      rcases tw_at (P := P) (s := s) with h | ⟨c, h1, h2⟩
      · exact .inl (by omega)
      · exact .inr ⟨c, by simpa using h1, h2⟩
    · rw [if_neg e]
      exact .inr ⟨x, rfl, by simpa using e⟩
theorem lit_nl : ("\n" : Str) = S [10] := by decide +kernel
theorem lit_quo : ("\"" : Str) = S [34] := by decide +kernel
theorem lit_ap : ("'" : Str) = S [39] := by decide +kernel
theorem lit_hash : ("#" : Str) = S [35] := by decide +kernel
def F_eol : TF := fun ms W G Gx => ∃ (l : Tx) (p : Nat), ms = [.im (.str (S l)), .im (.int p)] ∧ l.length ≤ 7000 ∧ p ≤ l.length ∧ ∀ fin, G (.im (.int ((p + line (l.drop p) : Nat) : Int))) fin W
theorem body_eol : Body F_eol 3 2 fun _ => t_end_of_line := by
  rintro ms W G Gx hl ⟨l, p, rfl, hw, hp, q⟩
  show t_end_of_line _ ⟨[Sl.pa (.im (.str (S l))), Sl.pa (.im (.int p)), .no], W⟩
  unfold t_end_of_line
  walk_at "n"
  rw [lit_nl, find3_S l 10 p hp]
  subst hR
  walk_at "y"
  by_cases h : 10 ∈ l.drop p
  · rw [if_pos h]
    rw [if_neg (by simp; omega)]
    exact q _
  · rw [if_neg h, if_pos (by decide)]
    refine ⟨by rw [S_len]; exact szLine (by omega), ?_⟩
    rw [S_len]
    have e : p + line (l.drop p) = l.length := by unfold line; rw [till_non h, List.length_drop]; omega
    rw [e] at q
    exact q _
/-- a token, as the program has it -/
def tkD (t : Tok3) : D := .tup [.str t.1, .int t.2.1, .int t.2.2]
def F_stok : TF := fun ms W G Gx => ∃ (l r : Tx) (p : Nat), ms = [.im (.str (S l)), .im (.int p)] ∧ l.length ≤ 7000 ∧ p ≤ l.length ∧ l.drop p = 34 :: r ∧ ∀ fin, G (.im (tkD ((strTok (34 :: r)).1, p, p + (strTok (34 :: r)).2))) fin W
theorem body_stok : Body F_stok 4 2 fun _ => t_string_token F_eol := by
  rintro ms W G Gx hl ⟨l, r, p, rfl, hw, hp, hd, q⟩
  show t_string_token _ _ ⟨[Sl.pa (.im (.str (S l))), Sl.pa (.im (.int p)), .no, .no], W⟩
  unfold t_string_token
  have hlen : p + 1 + r.length = l.length := by
    have := congrArg List.length hd
    rw [List.length_drop, List.length_cons] at this; omega
  walk_at "n"
  refine ⟨rfl, .nil, l, p, rfl, hw, hp, fun fin => ⟨rfl, ?_⟩⟩
  rw [hd]
  have lp := line_pos (c := 34) (r := r) (by decide)
  have ll := line_le (34 :: r)
  rw [List.length_cons] at ll
  subst hR
  walk_at "n"
  have hd1 : l.drop (p + 1) = r := by rw [← List.drop_drop, hd]; rfl
  have e1 : Txt.findIn (S l) (S [34]) ((p : Int) + 1) ((p + line (34 :: r) : Nat) : Int) = if 34 ∈ r.take (line (34 :: r) - 1) then ((p + 1 + till 34 r : Nat) : Int) else -1 := by
    rw [show (p : Int) + 1 = ((p + 1 : Nat) : Int) by omega, findIn_S l 34 (p + 1) (p + line (34 :: r)) (by omega) (by omega), hd1, show p + line (34 :: r) - (p + 1) = line (34 :: r) - 1 by omega]
  rw [lit_quo, e1]
  have e2 : ((34 :: r).take (line (34 :: r))).drop 1 = r.take (line (34 :: r) - 1) := by rw [List.drop_take]; rfl
  unfold strTok at q
  rw [e2] at q
  subst hR
  walk_at "n"
  by_cases h : 34 ∈ r.take (line (34 :: r) - 1)
  · rw [if_pos h] at q ⊢
    rw [if_neg (by simp; omega)]
    subst hR
    walk_at "y"
    have e3 : ((p + 1 + till 34 r : Nat) : Int) - (p : Int) - 1 = ((till 34 r : Nat) : Int) := by omega
    have e4 : ((p + 1 + till 34 r : Nat) : Int) + 1 = ((p + (till 34 r + 2) : Nat) : Int) := by omega
    rw [e3, e4]
    have e5 : (List.drop 1 (34 :: r)) = r := rfl
    rw [e5] at q
    by_cases h2 : till 34 r ≤ 100
    · rw [if_pos (by simp; omega)]
      rw [if_pos h2] at q
      exact ⟨by simp [sizeLine_eq], q _⟩
    · rw [if_neg (by simp; omega)]
      rw [if_neg h2] at q
      exact ⟨by simp [sizeLine_eq], q _⟩
  · rw [if_neg h] at q ⊢
    rw [if_pos (by decide)]
    exact ⟨by simp [sizeLine_eq], q _⟩
def F_wtok : TF := fun ms W G Gx => ∃ (l : Tx) (p : Nat), ms = [.im (.str (S l)), .im (.int p)] ∧ l.length ≤ 7000 ∧ Uni l ∧ p ≤ l.length ∧ ∀ fin, G (.im (tkD ((wordTok (l.drop p)).1, p, p + (wordTok (l.drop p)).2))) fin W
theorem wloop {l : Tx} {p : Nat} {W : Sto} {P : EndP} {F_sort_of : TF} (hw : l.length ≤ 7000) (hp : p ≤ l.length) (h : P.nx ⟨[Sl.pa (.im (.str (S l))), Sl.pa (.im (.int p)), .lo (.im (.int ((p + wordN (l.drop p) : Nat) : Int)))], W⟩) : ∀ (n k : Nat), k + n = wordN (l.drop p) →
    whileS (tAndQ (tTst (tBin (gLt) (tNm 2) (tCl (gLen) (lCons (tNm 0) (lNil))))) (tTst (tBin (gIns true) (tBin gIx (tNm 0) (tNm 2)) (tIm (.str " \n()'\";"))))) (b_word_token_1 F_sort_of) P (n + 1) ⟨[Sl.pa (.im (.str (S l))), Sl.pa (.im (.int p)), .lo (.im (.int ((p + k : Nat) : Int)))], W⟩ := by
  have hs : (S l).length ≤ sizeLine := by rw [S_len]; exact szLine (by omega)
  have hn := wordN_le (l.drop p)
  rw [List.length_drop] at hn
  intro n
  induction n with
  | zero =>
    intro k hk
    refine while_step fun L hL => ?_
    rw [show p + k = p + wordN (l.drop p) by omega]
    walk_at "y"
    rw [S_len] at hs
    rw [S_len]
    refine ⟨hs, ?_⟩
    rcases tw_at (P := fun c => !decide (c ∈ Lend)) (s := l.drop p) with e | ⟨c, e1, e2⟩
    · have e : wordN (l.drop p) = (l.drop p).length := e
      rw [List.length_drop] at e
      rw [if_neg (by simp; omega), if_neg (by decide)]
      exact h
    · have e1 : (l.drop p)[wordN (l.drop p)]? = some c := e1
      rw [List.getElem?_drop] at e1
      have hlt := (List.getElem?_eq_some_iff.mp e1).1
      rw [if_pos (by simp; omega)]
      refine ⟨hs, ?_⟩
      rw [S_at]
      obtain ⟨x, hx, hx2⟩ := atI_ok (xs := l) (i := ((p + wordN (l.drop p) : Nat) : Int)) (by omega) (by omega)
      rw [hx]
      dsimp only
      rw [Int.toNat_natCast, e1] at hx2
      cases hx2
      have hc : c ∈ Lend := by simpa using e2
      rw [lit_end, in_S, decide_eq_true hc, if_neg (by decide)]
      exact h
  | succ n ih =>
    intro k hk
    refine while_step fun L hL => ?_
    walk_at "y"
    rw [S_len] at hs
    rw [S_len]
    refine ⟨hs, ?_⟩
    obtain ⟨c, e1, e2⟩ := tw_lt (P := fun c => !decide (c ∈ Lend)) (s := l.drop p) (k := k) (by show k < wordN _; omega)
    rw [List.getElem?_drop] at e1
    have hlt := (List.getElem?_eq_some_iff.mp e1).1
    rw [if_pos (by simp; omega)]
    refine ⟨hs, ?_⟩
    rw [S_at]
    obtain ⟨x, hx, hx2⟩ := atI_ok (xs := l) (i := ((p + k : Nat) : Int)) (by omega) (by omega)
    rw [hx]
    dsimp only
    rw [Int.toNat_natCast, e1] at hx2
    cases hx2
    have hc : c ∉ Lend := by simpa using e2
    rw [lit_end, in_S, decide_eq_false hc, if_pos (by decide)]
    unfold b_word_token_1
    walk_at "y"
    rw [show ((p + k : Nat) : Int) + 1 = ((p + (k + 1) : Nat) : Int) by omega, hL]
    exact ih (k + 1) (by omega)
theorem body_wtok : Body F_wtok 3 2 fun _ => t_word_token F_sort := by
  rintro ms W G Gx hl ⟨l, p, rfl, hw, hu, hp, q⟩
  show t_word_token _ _ ⟨[Sl.pa (.im (.str (S l))), Sl.pa (.im (.int p)), .no], W⟩
  unfold t_word_token
  have hs : (S l).length ≤ sizeLine := by rw [S_len]; exact szLine (by omega)
  have hn := wordN_le (l.drop p)
  rw [List.length_drop] at hn
  walk_at "n"
  subst hR
  refine seq_step fun R hR => ?_
  refine ⟨wordN (l.drop p) + 1, ?_⟩
  refine wloop hw hp ?_ (wordN (l.drop p)) 0 (by omega)
  show R _
  subst hR
  have e0 : Txt.slice (S l) (some (p : Int)) (some ((p + wordN (l.drop p) : Nat) : Int)) = S ((l.drop p).take (wordN (l.drop p))) := by
    rw [slice_midN (by omega) (by omega)]; congr 2; omega
  have e1 : Txt.slice (S l) (some ((p + wordN (l.drop p) : Nat) : Int)) (some (((p + wordN (l.drop p) : Nat) : Int) + 1)) = S ((l.drop (p + wordN (l.drop p))).take 1) := slice_one (by omega)
  walk_at "n"
  refine ⟨hs, ?_⟩
  rw [e0, e1, lit_hash, S_eqD, Bool.false_xor]
  have e2 : (l.drop (p + wordN (l.drop p))).take 1 = [39] ↔ (l.drop p)[wordN (l.drop p)]? = some 39 := by
    rw [← List.drop_drop]
    generalize wordN (l.drop p) = k
    generalize l.drop p = s
    rw [← List.head?_drop]
    cases s.drop k with
    | nil => simp
    | cons x y => simp
  have go : ¬ ((l.drop p).take (wordN (l.drop p)) = [35] ∧ (l.drop p)[wordN (l.drop p)]? = some 39) → R ⟨[Sl.pa (.im (.str (S l))), Sl.pa (.im (.int p)), .lo (.im (.int ((p + wordN (l.drop p) : Nat) : Int)))], W⟩ := fun hn => by
    unfold wordTok at q
    rw [if_neg hn] at q
    subst hR
    walk_at "y"
    refine ⟨hs, ?_⟩
    rw [e0]
    refine ⟨rfl, .nil, (l.drop p).take (wordN (l.drop p)), rfl, by rw [List.length_take, List.length_drop]; omega, (hu.drop _).take _, fun fin => ⟨rfl, ?_⟩⟩
    walk_at "y"
    exact ⟨by simp [sizeLine_eq], q _⟩
  by_cases h1 : (l.drop p).take (wordN (l.drop p)) = [35]
  · rw [if_pos (by simp [h1])]
    refine ⟨hs, ?_⟩
    rw [lit_ap, S_eqD]
    by_cases h2 : (l.drop p)[wordN (l.drop p)]? = some 39
    · rw [if_pos (by simp [e2.mpr h2])]
      unfold wordTok at q
      rw [if_pos ⟨h1, h2⟩] at q
      rw [show ((p + wordN (l.drop p) : Nat) : Int) + 1 = ((p + (wordN (l.drop p) + 1) : Nat) : Int) by omega]
      exact ⟨by simp [sizeLine_eq], q _⟩
    · rw [if_neg (by simp [mt e2.mp h2])]
      exact go fun z => h2 z.2
  · rw [if_neg (by simp [h1]), if_neg (by decide)]
    exact go fun z => h1 z.1
def F_toks : TF := fun ms W G Gx => ∃ l : Tx, ms = [.im (.str (S l))] ∧ l.length ≤ 7000 ∧ Uni l ∧ ∀ fin, G (.ls ((toksOf l).map tkD)) fin W
theorem lit_bl : (" \n" : Str) = S [32, 10] := by decide +kernel
theorem lit_semi : (";" : Str) = S [59] := by decide +kernel
theorem lit_signs : ("()'" : Str) = S [40, 41, 39] := by decide +kernel
theorem tloop {l : Tx} {W : Sto} {P : EndP} (hw : l.length ≤ 7000) (hu : Uni l) : ∀ (f p : Nat) (acc : List Tok3) (s3 s4 : Sl), l.length - p < f → p ≤ l.length → acc.length ≤ p →
    (∀ s3 s4, P.nx ⟨[Sl.pa (.im (.str (S l))), .lo (.ls ((acc ++ lex f p (l.drop p)).map tkD)), .lo (.im (.int (l.length : Nat))), s3, s4], W⟩) →
    whileS (tTst (tBin (gLt) (tNm 2) (tCl (gLen) (lCons (tNm 0) (lNil))))) (b_tokens_1 F_eol F_stok F_wtok) P f ⟨[Sl.pa (.im (.str (S l))), .lo (.ls (acc.map tkD)), .lo (.im (.int (p : Nat))), s3, s4], W⟩ := by
  have hs : (S l).length ≤ sizeLine := by rw [S_len]; exact szLine (by omega)
  intro f
  induction f with
  | zero => intro p acc s3 s4 h; omega
  | succ f ih =>
    intro p acc s3 s4 h1 h2 h2b h3
    refine while_step fun L hL => ?_
    walk_at "y"
    rw [S_len] at hs
    rw [S_len]
    refine ⟨hs, ?_⟩
    cases hd : l.drop p with
    | nil =>
      have e : p = l.length := by have := List.drop_eq_nil_iff.mp hd; omega
      rw [if_neg (by simp; omega)]
      rw [hd] at h3
      have h3 := h3 s3 s4
      unfold lex at h3
      rw [List.append_nil] at h3
      rw [e]
      exact h3
    | cons c r =>
      have hlen : p + 1 + r.length = l.length := by
        have := congrArg List.length hd
        rw [List.length_drop, List.length_cons] at this; omega
      have hc : l[p]? = some c := by rw [← List.head?_drop, hd]; rfl
      rw [if_pos (by simp; omega)]
      rw [hd] at h3
      unfold lex at h3
      unfold b_tokens_1
      walk_at "n"
      rw [S_at]
      obtain ⟨x, hx, hx2⟩ := atI_ok (xs := l) (i := (p : Int)) (by omega) (by omega)
      rw [hx]
      rw [Int.toNat_natCast, hc] at hx2
      cases hx2
      refine ⟨by rw [S_len]; exact hs, ?_⟩
      subst hR
      walk_at "y"
      rw [lit_bl, in_S, Bool.false_xor]
      by_cases k1 : c = 32 ∨ c = 10
      · rw [if_pos (by simpa using k1)]
        (try walk_at "y")
        simp only [if_pos k1] at h3
        rw [show (p : Int) + 1 = ((p + 1 : Nat) : Int) by omega, hL]
        have e : l.drop (p + 1) = r := by rw [← List.drop_drop, hd]; rfl
        exact ih (p + 1) acc _ _ (by omega) (by omega) (by omega) (by rw [e]; exact h3)
      · rw [if_neg (by simpa using k1)]
        simp only [if_neg k1] at h3
        rw [lit_semi, show decide (({ cps := #[c] } : Str) = S [59]) = decide (c = 59) by rw [show ({ cps := #[c] } : Str) = S [c] from rfl, S_eqD]; simp, Bool.false_xor]
        by_cases k2 : c = 59
        · rw [if_pos (by simp [k2])]
          simp only [if_pos k2] at h3
          (try walk_at "y")
          refine ⟨rfl, .nil, l, p, rfl, hw, h2, fun fin => ⟨rfl, ?_⟩⟩
          walk_at "y"
          rw [hL, hd]
          have lp := line_pos (c := c) (r := r) (by omega)
          have ll := line_le (c :: r)
          rw [List.length_cons] at ll
          refine ih (p + line (c :: r)) acc _ _ (by omega) (by omega) (by omega) ?_
          rw [← List.drop_drop, hd]
          exact h3
        · rw [if_neg (by simp [k2])]
          simp only [if_neg k2] at h3
          have tp := tok_pos (c := c) (r := r) (by omega) (by omega) k2
          have tl := tok_le (c := c) (r := r) (by omega) (by omega) k2
          rw [List.length_cons] at tl
          have go : ∀ R', R' = sSeq (sDrop (tMtE gApp (tNm 1) (lCons (tNm 4) (lNil)))) (sAsg 2 (tBin gIx (tNm 4) (tIm (.int 2)))) { P with nx := L, ct := L, bk := P.nx } →
              R' ⟨[Sl.pa (.im (.str (S l))), .lo (.ls (acc.map tkD)), .lo (.im (.int (p : Nat))), .lo (.im (.str ⟨#[c]⟩)), .lo (.im (tkD ((tokOf (c :: r)).1, p, p + (tokOf (c :: r)).2)))], W⟩ := fun R' hR' => by
            subst hR'
            unfold tkD
            walk_at "n"
            refine ⟨trivial, by rw [List.length_map]; exact szLt (by omega), ?_⟩
            subst hR
            walk_at "y"
            rw [atI_c2, hL]
            dsimp only
            have := ih (p + (tokOf (c :: r)).2) (acc ++ [((tokOf (c :: r)).1, p, p + (tokOf (c :: r)).2)]) (.lo (.im (.str ⟨#[c]⟩))) (.lo (.im (tkD ((tokOf (c :: r)).1, p, p + (tokOf (c :: r)).2)))) (by omega) (by omega) (by simp; omega) (by
              rw [← List.drop_drop, hd, List.append_assoc]
              exact h3)
            rw [List.map_append] at this
            exact this
          walk_at "n"
          rw [lit_signs, in_S]
          rw [tokOf_cons] at go
          by_cases k3 : c = 40 ∨ c = 41 ∨ c = 39
          · rw [if_pos (by simpa using k3)]
            rw [if_pos k3] at go
            refine ⟨by simp [sizeLine_eq], ?_⟩
            exact go _ hR
          · rw [if_neg (by simpa using k3)]
            rw [if_neg k3] at go
            rw [lit_quo, show decide (({ cps := #[c] } : Str) = S [34]) = decide (c = 34) by rw [show ({ cps := #[c] } : Str) = S [c] from rfl, S_eqD]; simp, Bool.false_xor]
            by_cases k4 : c = 34
            · rw [if_pos (by simp [k4])]
              rw [if_pos k4] at go
              (try walk_at "y")
              subst k4
              refine ⟨rfl, .nil, l, r, p, rfl, hw, h2, hd, fun fin => ⟨rfl, ?_⟩⟩
              walk_at "y"
              exact go _ hR
            · rw [if_neg (by simp [k4])]
              rw [if_neg k4] at go
              (try walk_at "y")
              refine ⟨rfl, .nil, l, p, rfl, hw, hu, h2, fun fin => ⟨rfl, ?_⟩⟩
              rw [hd]
              walk_at "y"
              exact go _ hR
theorem body_toks : Body F_toks 5 1 fun _ => t_tokens F_eol F_stok F_wtok := by
  rintro ms W G Gx hl ⟨l, rfl, hw, hu, q⟩
  show t_tokens _ _ _ _ ⟨[Sl.pa (.im (.str (S l))), .no, .no, .no, .no], W⟩
  unfold t_tokens
  walk_at "n"
  refine ⟨by simp [sizeLine_eq], ?_⟩
  subst hR
  walk_at "n"
  subst hR
  refine seq_step fun R hR => ?_
  refine ⟨l.length + 1, ?_⟩
  refine tloop hw hu (l.length + 1) 0 [] _ _ (by omega) (by omega) (by simp) fun s3 s4 => ?_
  show R _
  subst hR
  walk_at "y"
  exact q _
end Y
namespace Y
set_option hygiene false
open PySem PySem.Spec L2 SX
local macro_rules | `(tactic| walk_at "y") => `(tactic| dsimp only [tGet2, ex0, exB, endB, envOf, Env.set, Env.put, Env.stSet, Env.push, tFldY, sFldY, tMtE, tMethY, tMakeY, callF, tPub, pub, M.ob?, Ob.vw, Ob.toM, sSetE, tMaxD, gIntS, sRaise, sTry, sTryAs, endN, tXfY, tSm, gFind, gJoin, gStr, gStarts, List.zip_cons_cons, List.zip_nil_left, List.reverse_cons, List.reverse_nil, TF.calm, gx0, putFD, tCallV, tCallL, capt, gLtD, gSum, gMax, gSorted2, sNil, sBk, sCt, sDrop, sIf, asg, sAsg, sRet, sRetN, tIm, tNm, tBin, w2, vw, Sl.m?, tTst, tTru, M.tru, tAndQ, tOrQ, tNotQ, tAndX, tOrX, tNotX, tIfX, lNil, lCons, tOn, fInD, fIxD, tGet1, vwD, getOr, M.isD, sPar2, tLc2X, compL2, tChn, tFrz, froz, tTp, tLs, tCl, vws, tMt, Sl.m!, Sl.up, M.res, gLen, gInt, gAdd, gSub, gMul, gMulS, gDiv, gMod, gPow, gII, gI0, gEqs, gEqs2, gIx, gPop, gApp, gRev, gExt, gTuple, gList, gDict, gIs, gIsi, gAll, gIns, gSorted, gSl, M.lq?, M.lst?, M.sq?, M.dat?, M.isNon, gLt, gLe, gGt, gGe, sFor, iSeq, srcOf, iEnm, enmOf, iRg1, iRg2, bnd, setAll, backS, Sl.isP, tSlc, pNo, pSo, sSetI, hasM, setM, tDspK, tDspT, pairG, D.key?, D.keys?, D.tkey?, putAll, tNewK, tNewT, tNeg, sUnp, tCall, argMs, argM, argS, slots, putB, stepB, putS_lo_ls_ls, putS_lo_ls_dk, putS_lo_ls_dt, putS_lo_ls_no, putS_pa_ls_ls, putS_pa_ls_dk, putS_pa_ls_dt, putS_pa_ls_no, putS_lo_rd_ls, putS_lo_rd_dk, putS_lo_rd_dt, putS_lo_rd_no, putS_pa_rd_ls, putS_pa_rd_dk, putS_pa_rd_dt, putS_pa_rd_no, putS_lo_dk_ls, putS_lo_dk_dk, putS_lo_dk_dt, putS_lo_dk_no, putS_pa_dk_ls, putS_pa_dk_dk, putS_pa_dk_dt, putS_pa_dk_no, putS_lo_dt_ls, putS_lo_dt_dk, putS_lo_dt_dt, putS_lo_dt_no, putS_pa_dt_ls, putS_pa_dt_dk, putS_pa_dt_dt, putS_pa_dt_no, putS_lo_im, putS_lo_sq, putS_pa_im, putS_pa_sq, M.own, M.fit, fins, Sl.fin, envOf, tLcX, compL, wipeE, restE, keepS, qYes, kD, dGet, List.getElem?_cons_zero, List.getElem?_cons_succ, List.getElem?_nil, List.set_cons_zero, List.set_cons_succ, List.map_cons, List.map_nil, List.take_succ_cons, List.take_zero, List.length_cons, List.length_nil, List.head?_cons, List.tail_cons, Option.join_some, List.cons_append, List.nil_append, List.replicate])
local macro_rules | `(tactic| walk_at "n") => `(tactic| ((try dsimp only); refine seq_step fun R hR => ?_; walk_at "y"))
local macro_rules | `(tactic| walk_at "i") => `(tactic| simp only [Bool.false_xor, Bool.true_xor, Bool.not_true, Bool.not_false, Bool.false_eq_true, reduceIte, isiT, M.ty, String.reduceBEq, Bool.or_false, Bool.false_or, Bool.and_false, Bool.and_true, Bool.true_and, Bool.false_and, Bool.or_true, List.mem_cons, true_or, or_true, true_and, and_true, String.reduceEq, decide_true, decide_false])
local macro_rules | `(tactic| walk_at "s") => `(tactic| (subst hR; walk_at "n"))
local macro_rules | `(tactic| walk_at "z") => `(tactic| (simp only [List.map_cons, List.map_nil, atI_c0, atI_c1, atI_c2, atI_c3, atI_c4, atI_c5]; (try walk_at "y")))
local macro_rules | `(tactic| walk_at "e") => `(tactic| repeat (first | rw [if_pos (by decide +kernel)] | rw [if_neg (by decide +kernel)]))
/-! ### the reader's store -/
def frD (cF : Addr) (i : Nat) (f : Fr) : Ob := .ins cF [("is_sign", .bl f.sgn), ("place", .int f.pl), ("parts", .obj (i + 1))]
def FrsOk (cF : Addr) (W : Sto) (lo : Nat) : List Nat → List Fr → Prop
  | [], [] => True
  | i :: is, f :: fs => lo < i ∧ (∀ j ∈ is, j + 1 < i) ∧ W[i]? = some (frD cF i f) ∧ W[i + 1]? = some (.ls f.parts) ∧ FrsOk cF W lo is fs
  | _, _ => False
def natsD (l : List Nat) : List D := l.map fun n => .int (n : Nat)
def rdD (cR : Addr) (b : Nat) : Ob := .ins cR [("forms", .obj (b + 1)), ("pending", .obj (b + 2)), ("starts", .obj (b + 3))]
structure RdOk (cR cF : Addr) (b : Nat) (ids : List Nat) (s : RS) (W : Sto) : Prop where
  rd : W[b]? = some (rdD cR b)
  fo : W[b + 1]? = some (.ls s.forms)
  pe : W[b + 2]? = some (.ls (ids.reverse.map D.obj))
  st : W[b + 3]? = some (.ls (natsD s.starts))
  fr : FrsOk cF W (b + 3) ids s.pend
def Kp (b : Nat) (W W' : Sto) : Prop := ∀ n, n < b → W'[n]? = W[n]?
theorem Kp.refl {b : Nat} {W : Sto} : Kp b W W := fun _ _ => rfl
theorem Kp.trans {b : Nat} {W W1 W2 : Sto} (h : Kp b W W1) (g : Kp b W1 W2) : Kp b W W2 := fun n hn => (g n hn).trans (h n hn)
theorem wset_at {W : Sto} {i : Nat} {u v : Ob} (h : W[i]? = some v) : (W.set i u)[i]? = some u := List.getElem?_set_self (List.getElem?_eq_some_iff.mp h).1
theorem wset_ne {W : Sto} {i j : Nat} {u : Ob} (h : i ≠ j) : (W.set i u)[j]? = W[j]? := List.getElem?_set_ne h
theorem Kp.set {b n : Nat} {W : Sto} {u : Ob} (h : b ≤ n) : Kp b W (W.set n u) := fun m hm => wset_ne (by omega)
theorem FrsOk.keep {cF : Addr} {W W' : Sto} {lo : Nat} : ∀ {is : List Nat} {fs : List Fr}, (∀ i ∈ is, W'[i]? = W[i]? ∧ W'[i + 1]? = W[i + 1]?) → FrsOk cF W lo is fs → FrsOk cF W' lo is fs
  | [], [], _, h => h
  | i :: is, f :: fs, k, ⟨h1, h2, h3, h4, h5⟩ => ⟨h1, h2, (k i List.mem_cons_self).1.trans h3, (k i List.mem_cons_self).2.trans h4, FrsOk.keep (fun j hj => k j (List.mem_cons_of_mem _ hj)) h5⟩
theorem FrsOk.lo_ {cF : Addr} {W : Sto} {lo : Nat} : ∀ {is : List Nat} {fs : List Fr}, FrsOk cF W lo is fs → ∀ i ∈ is, lo < i ∧ i + 1 < W.length
  | [], [], _, i, hi => by cases hi
  | i :: is, f :: fs, ⟨h1, h2, h3, h4, h5⟩, j, hj => by
    rcases List.mem_cons.mp hj with rfl | hj
    · exact ⟨h1, (List.getElem?_eq_some_iff.mp h4).1⟩
    · exact FrsOk.lo_ h5 j hj
theorem FrsOk.len {cF : Addr} {W : Sto} {lo : Nat} : ∀ {is : List Nat} {fs : List Fr}, FrsOk cF W lo is fs → is.length = fs.length
  | [], [], _ => rfl
  | i :: is, f :: fs, h => by rw [List.length_cons, List.length_cons, FrsOk.len h.2.2.2.2]
theorem FrsOk.set {cF : Addr} {W : Sto} {lo n : Nat} {u : Ob} {is : List Nat} {fs : List Fr} (h : FrsOk cF W lo is fs) (hn : n ≤ lo) : FrsOk cF (W.set n u) lo is fs :=
  h.keep fun i hi => ⟨wset_ne (by have := (h.lo_ i hi).1; omega), wset_ne (by have := (h.lo_ i hi).1; omega)⟩
theorem ids_inj {a b : List Nat} (h : a.map D.obj = b.map D.obj) : a = b := by
  induction a generalizing b with
  | nil => cases b with
    | nil => rfl
    | cons => cases h
  | cons x a ih => cases b with
    | nil => cases h
    | cons y b => simp at h; rw [h.1, ih (by simpa using h.2)]
theorem lk_forms {a b c : D} : List.lookup (Str.ofString "forms") [(Str.ofString "forms", a), (Str.ofString "pending", b), (Str.ofString "starts", c)] = some a := by kernel_rfl
theorem lk_pending {a b c : D} : List.lookup (Str.ofString "pending") [(Str.ofString "forms", a), (Str.ofString "pending", b), (Str.ofString "starts", c)] = some b := by kernel_rfl
theorem lk_starts {a b c : D} : List.lookup (Str.ofString "starts") [(Str.ofString "forms", a), (Str.ofString "pending", b), (Str.ofString "starts", c)] = some c := by kernel_rfl
theorem lk_sgn {a b c : D} : List.lookup (Str.ofString "is_sign") [(Str.ofString "is_sign", a), (Str.ofString "place", b), (Str.ofString "parts", c)] = some a := by kernel_rfl
theorem lk_place {a b c : D} : List.lookup (Str.ofString "place") [(Str.ofString "is_sign", a), (Str.ofString "place", b), (Str.ofString "parts", c)] = some b := by kernel_rfl
theorem lk_parts {a b c : D} : List.lookup (Str.ofString "parts") [(Str.ofString "is_sign", a), (Str.ofString "place", b), (Str.ofString "parts", c)] = some c := by kernel_rfl
theorem nm_new_place {a b c : D} : List.lookup (Str.ofString "new_place") [(Str.ofString "forms", a), (Str.ofString "pending", b), (Str.ofString "starts", c)] = none := by kernel_rfl
theorem nm_begin {a b c : D} : List.lookup (Str.ofString "begin") [(Str.ofString "forms", a), (Str.ofString "pending", b), (Str.ofString "starts", c)] = none := by kernel_rfl
theorem nm_finish {a b c : D} : List.lookup (Str.ofString "finish") [(Str.ofString "forms", a), (Str.ofString "pending", b), (Str.ofString "starts", c)] = none := by kernel_rfl
theorem nm_take_sign {a b c : D} : List.lookup (Str.ofString "take_sign") [(Str.ofString "forms", a), (Str.ofString "pending", b), (Str.ofString "starts", c)] = none := by kernel_rfl
theorem nm_take {a b c : D} : List.lookup (Str.ofString "take") [(Str.ofString "forms", a), (Str.ofString "pending", b), (Str.ofString "starts", c)] = none := by kernel_rfl
theorem RdOk.place {cR cF : Addr} {b : Nat} {ids : List Nat} {s : RS} {W : Sto} (h : RdOk cR cF b ids s W) (p : Nat) : RdOk cR cF b ids (s.place p) (W.set (b + 3) (.ls (natsD s.starts ++ [.int p]))) :=
  ⟨(wset_ne (by omega)).trans h.rd, (wset_ne (by omega)).trans h.fo, (wset_ne (by omega)).trans h.pe, by rw [wset_at h.st]; simp [natsD, RS.place], h.fr.set (by omega)⟩
def F_nplace (cR cF : Addr) : TF := fun ms W G Gx => ∃ (b p : Nat) (ids : List Nat) (s : RS), ms = [.im (.obj b), .im (.int p)] ∧ RdOk cR cF b ids s W ∧ s.starts.length ≤ 100000 ∧ ∀ W' fin, Kp b W W' → RdOk cR cF b ids (s.place p) W' → G (.im (.int (s.starts.length : Nat))) fin W'
theorem body_nplace (cR cF : Addr) : Body (F_nplace cR cF) 2 2 fun _ => t_FormReader_new_place cR := by
  rintro ms W G Gx hl ⟨b, p, ids, s, rfl, h, hn, q⟩
  show t_FormReader_new_place _ _ ⟨[Sl.pa (.im (.obj b)), Sl.pa (.im (.int p))], W⟩
  unfold t_FormReader_new_place
  walk_at "n"
  simp only [h.rd, rdD, lk_starts, h.st]
  refine ⟨trivial, trivial, by unfold natsD; rw [List.length_map]; exact szLt (by omega), ?_⟩
  have h' := h.place p
  subst hR
  walk_at "y"
  simp only [h'.rd, rdD, lk_starts, h'.st]
  refine ⟨trivial, ?_⟩
  have e : ((natsD (s.place p).starts).length : Int) - 1 = (s.starts.length : Nat) := by unfold natsD RS.place; rw [List.length_map, List.length_append]; simp
  rw [e]
  exact q _ _ (Kp.set (by omega)) h'
def F_finit (cF : Addr) : TF := fun ms W G Gx => ∃ (i pl : Nat) (sg : Bool), ms = [.im (.obj i), .im (.bl sg), .im (.int pl)] ∧ W[i]? = some (.ins cF []) ∧ W.length = i + 1 ∧
  ∀ W' fin, (∀ n, n < i → W'[n]? = W[n]?) → W'[i]? = some (frD cF i ⟨sg, pl, []⟩) → W'[i + 1]? = some (.ls []) → G (.im .non) fin W'
theorem put_f1 {a : D} : putFD (Str.ofString "is_sign") a [] = [(Str.ofString "is_sign", a)] := rfl
theorem put_f2 {a b : D} : putFD (Str.ofString "place") b [(Str.ofString "is_sign", a)] = [(Str.ofString "is_sign", a), (Str.ofString "place", b)] := by
  unfold putFD; rw [if_neg (by decide +kernel)]; rfl
theorem put_f3 {a b c : D} : putFD (Str.ofString "parts") c [(Str.ofString "is_sign", a), (Str.ofString "place", b)] = [(Str.ofString "is_sign", a), (Str.ofString "place", b), (Str.ofString "parts", c)] := by
  unfold putFD; rw [if_neg (by decide +kernel)]; unfold putFD; rw [if_neg (by decide +kernel)]; rfl
theorem body_finit (cF : Addr) : Body (F_finit cF) 3 3 fun _ => t_Frame___init__ cF := by
  rintro ms W G Gx hl ⟨i, pl, sg, rfl, h, hlen, q⟩
  show t_Frame___init__ _ _ ⟨[Sl.pa (.im (.obj i)), Sl.pa (.im (.bl sg)), Sl.pa (.im (.int pl))], W⟩
  unfold t_Frame___init__
  walk_at "n"
  simp only [h]
  rw [put_f1]
  refine ⟨trivial, by simp, ?_⟩
  subst hR
  have f1 := wset_at (u := .ins cF [(Str.ofString "is_sign", .bl sg)]) h
  have k1 : ∀ n, n < i → (W.set i (.ins cF [(Str.ofString "is_sign", .bl sg)]))[n]? = W[n]? := fun n hn => wset_ne (by omega)
  have l1 : (W.set i (.ins cF [(Str.ofString "is_sign", .bl sg)])).length = i + 1 := by rw [List.length_set]; exact hlen
  generalize W.set i (.ins cF [(Str.ofString "is_sign", .bl sg)]) = W1 at f1 k1 l1 ⊢
  walk_at "n"
  simp only [f1]
  rw [put_f2]
  refine ⟨trivial, by simp, ?_⟩
  subst hR
  have f2 := wset_at (u := .ins cF [(Str.ofString "is_sign", .bl sg), (Str.ofString "place", .int pl)]) f1
  have k2 : ∀ n, n < i → (W1.set i (.ins cF [(Str.ofString "is_sign", .bl sg), (Str.ofString "place", .int pl)]))[n]? = W[n]? := fun n hn => (wset_ne (by omega)).trans (k1 n hn)
  have l2 : (W1.set i (.ins cF [(Str.ofString "is_sign", .bl sg), (Str.ofString "place", .int pl)])).length = i + 1 := by rw [List.length_set]; exact l1
  generalize W1.set i (.ins cF [(Str.ofString "is_sign", .bl sg), (Str.ofString "place", .int pl)]) = W2 at f2 k2 l2 ⊢
  walk_at "y"
  have f3 : (W2 ++ [Ob.ls []])[i]? = some (.ins cF [(Str.ofString "is_sign", .bl sg), (Str.ofString "place", .int pl)]) := by rw [List.getElem?_append_left (by omega)]; exact f2
  simp only [f3, l2]
  rw [put_f3]
  refine ⟨by simp, trivial, by simp, ?_⟩
  refine q _ _ (fun n hn => ?_) (wset_at f3) ?_
  · rw [wset_ne (by omega), List.getElem?_append_left (by omega)]
    exact k2 n hn
  · rw [wset_ne (by omega), List.getElem?_append_right (by omega), l2]
    simp
theorem RdOk.keepAll {cR cF : Addr} {b : Nat} {ids : List Nat} {s : RS} {W W' : Sto} (h : RdOk cR cF b ids s W) (k : ∀ n, n < W.length → W'[n]? = W[n]?) : RdOk cR cF b ids s W' :=
  have kk : ∀ {n : Nat} {u : Ob}, W[n]? = some u → W'[n]? = some u := fun {n u} e => (k n (List.getElem?_eq_some_iff.mp e).1).trans e
  ⟨kk h.rd, kk h.fo, kk h.pe, kk h.st, h.fr.keep fun i hi => ⟨k _ (by have := (h.fr.lo_ i hi).2; omega), k _ (h.fr.lo_ i hi).2⟩⟩
/-- what is asked of a reader's sizes -/
structure Sm (s : RS) (n : Nat) : Prop where
  st : s.starts.length ≤ n
  fo : s.forms.length ≤ n
  pt : ∀ f ∈ s.pend, f.parts.length ≤ n
  pe : s.pend.length ≤ 60
def xcR (cE : Addr) (e : Nat) : Xc := (.ref cE, [("at", .int (e : Nat))])
def F_begin (cR cF cE : Addr) : TF := fun ms W G Gx => ∃ (b p n : Nat) (sg : Bool) (ids : List Nat) (s : RS), ms = [.im (.obj b), .im (.bl sg), .im (.int p)] ∧ RdOk cR cF b ids s W ∧ Sm s n ∧ n ≤ 50000 ∧
  match s.open_ sg p with
  | .error e => Gx (xcR cE e) W
  | .ok s' => ∀ W' fin i, Kp b W W' → RdOk cR cF b (i :: ids) s' W' → G (.im .non) fin W'
theorem body_begin (cR cF cE : Addr) : Body (F_begin cR cF cE) 3 3 fun ex => t_FormReader_begin (F_nplace cR cF) (F_finit cF) cR cF cE ex := by
  rintro ms W G Gx hl ⟨b, p, n, sg, ids, s, rfl, h, sm, hn, q⟩
  show t_FormReader_begin _ _ _ _ _ _ _ ⟨[Sl.pa (.im (.obj b)), Sl.pa (.im (.bl sg)), Sl.pa (.im (.int p))], W⟩
  unfold t_FormReader_begin
  walk_at "n"
  simp only [h.rd, rdD, lk_pending, h.pe]
  refine ⟨trivial, ?_⟩
  rw [List.length_map, List.length_reverse, h.fr.len]
  unfold RS.open_ at q
  by_cases h60 : s.pend.length = 60
  · rw [if_pos h60] at q
    rw [if_pos (by simp [h60])]
    exact ⟨trivial, q⟩
  · rw [if_neg h60] at q
    rw [if_neg (by simp; omega)]
    have := sm.st
    have := sm.pe
    subst hR
    walk_at "y"
    simp only [h.rd, rdD, lk_pending, h.pe]
    refine ⟨trivial, trivial, ?_⟩
    refine ⟨trivial, nm_new_place, by first | exact trivial | rfl, by simp, b, p, ids, s, rfl, h, by omega, fun W1 fin1 kp1 h1 => ⟨rfl, ?_⟩⟩
    walk_at "y"
    have hb : b + 3 < W1.length := (List.getElem?_eq_some_iff.mp h1.st).1
    have h2 : RdOk cR cF b ids (s.place p) (W1 ++ [.ins cF []]) := h1.keepAll fun n hn => List.getElem?_append_left hn
    refine ⟨by first | exact trivial | rfl, by simp, W1.length, s.starts.length, sg, rfl, ?_, by simp, fun W2 fin2 k2 f2 f3 => ⟨rfl, ?_⟩⟩
    · rw [List.getElem?_append_right (Nat.le_refl _)]; simp
    walk_at "y"
    have k3 : ∀ n, n < W1.length → W2[n]? = W1[n]? := fun n hn => by rw [k2 n hn]; exact List.getElem?_append_left hn
    have h3 : RdOk cR cF b ids (s.place p) W2 := h1.keepAll k3
    simp only [h3.pe]
    refine ⟨by rw [List.length_map, List.length_reverse, h.fr.len]; exact szLt (by omega), ?_⟩
    refine q _ _ W1.length (fun n hn => ?_) ⟨?_, ?_, ?_, ?_, ?_⟩
    · rw [wset_ne (by omega), k3 n (by omega)]; exact kp1 n hn
    · rw [wset_ne (by omega)]; exact h3.rd
    · rw [wset_ne (by omega)]; exact h3.fo
    · rw [wset_at h3.pe]; simp
    · rw [wset_ne (by omega)]; exact h3.st
    · refine ⟨hb, fun j hj => (h1.fr.lo_ j hj).2, ?_, ?_, h3.fr.set (by omega)⟩
      · rw [wset_ne (by omega)]; exact f2
      · rw [wset_ne (by omega)]; exact f3
theorem atI_last {α : Type} (l : List α) (x : α) : atI (l ++ [x]) (-1) = some x := by
  unfold atI ixN
  rw [if_neg (by omega), if_pos (by simp; omega)]
  have e : (-1 + ((l ++ [x]).length : Int)).toNat = l.length := by simp; omega
  rw [e]
  simp
theorem revD (i : Nat) (is : List Nat) : (i :: is).reverse.map D.obj = is.reverse.map D.obj ++ [D.obj i] := by simp
/-- the lists of signs that a datum ends -/
def popF : List Fr → D → List Fr × D
  | [], d => ([], d)
  | f :: r, d => if f.sgn = true then popF r (lsD (f.parts ++ [d]) f.pl) else (f :: r, d)
theorem fin_pop (fs : List D) : ∀ (p : List Fr) (d : D), finF fs p d = match popF p d with
    | ([], d') => (fs ++ [d'], [])
    | (f :: r, d') => (fs, { f with parts := f.parts ++ [d'] } :: r)
  | [], d => rfl
  | f :: r, d => by
    unfold finF popF
    by_cases h : f.sgn = true
    · rw [if_pos h, if_pos h]; exact fin_pop fs r _
    · rw [if_neg h, if_neg h]
theorem pop_sub : ∀ {p : List Fr} {d : D} {f : Fr}, f ∈ (popF p d).1 → f ∈ p
  | g :: r, d, f, h => by
    unfold popF at h
    split at h
    · exact List.mem_cons_of_mem _ (pop_sub h)
    · exact h
abbrev finQ (cR cF : Addr) : TQ := tAndQ (tTru (tFldY (fun C => C = cR) "pending" (tNm 0))) (tTru (tFldY (fun C => C = cF) "is_sign" (tBin gIx (tFldY (fun C => C = cR) "pending" (tNm 0)) (tNeg (tIm (.int 1))))))
theorem floop (cR cF : Addr) {P : EndP} {b n : Nat} (hn : n ≤ 50000) : ∀ (ids : List Nat) (s : RS) (d : D) (sd s2 : Sl) (W : Sto), RdOk cR cF b ids s W → (sd = .pa (.im d) ∨ sd = .lo (.im d)) → (∀ f ∈ s.pend, f.parts.length ≤ n) →
    (∀ W' ids' sd s2, Kp b W W' → RdOk cR cF b ids' { s with pend := (popF s.pend d).1 } W' → (sd = .pa (.im (popF s.pend d).2) ∨ sd = .lo (.im (popF s.pend d).2)) → (∀ f r, (popF s.pend d).1 = f :: r → f.sgn = false) → P.nx ⟨[.pa (.im (.obj b)), sd, s2], W'⟩) →
    whileS (finQ cR cF) (b_FormReader_finish_1 cR cF) P (ids.length + 1) ⟨[.pa (.im (.obj b)), sd, s2], W⟩ := by
  intro ids
  induction ids with
  | nil =>
    intro s d sd s2 W h hs hp q
    refine while_step fun L hL => ?_
    unfold finQ
    walk_at "y"
    simp only [h.rd, rdD, lk_pending, h.pe]
    refine ⟨trivial, ?_⟩
    have e : s.pend = [] := by have := h.fr.len; exact List.length_eq_zero_iff.mp this.symm
    have q := q W [] sd s2 Kp.refl (by rw [e]; exact ⟨h.rd, h.fo, h.pe, h.st, trivial⟩) (by rw [e]; exact hs) (by rw [e]; intro f r z; cases z)
    simpa using q
  | cons i ids ih =>
    intro s d sd s2 W h hs hp q
    obtain ⟨fo, pd, st⟩ := s
    cases pd with
    | nil => exact h.fr.elim
    | cons f r =>
      obtain ⟨g1, g2, g3, g4, g5⟩ := h.fr
      refine while_step fun L hL => ?_
      unfold finQ
      walk_at "y"
      simp only [h.rd, rdD, lk_pending, h.pe, revD, atI_last, g3, frD, lk_sgn]
      refine ⟨trivial, ?_⟩
      rw [if_pos (by simp)]
      refine ⟨trivial, trivial, ?_⟩
      cases hf : f.sgn with
      | false =>
        rw [if_neg (by simp)]
        have e : popF (f :: r) d = (f :: r, d) := by unfold popF; rw [if_neg (by simp [hf])]
        exact q W (i :: ids) sd s2 Kp.refl (by rw [e]; exact h) (by rw [e]; exact hs) (by rw [e]; intro f' r' z; cases z; exact hf)
      | true =>
        rw [if_pos rfl]
        have e : popF (f :: r) d = popF r (lsD (f.parts ++ [d]) f.pl) := by rw [popF, if_pos hf]
        have h' : RdOk cR cF b ids ⟨fo, r, st⟩ (W.set (b + 2) (.ls (ids.reverse.map D.obj))) :=
          ⟨(wset_ne (by omega)).trans h.rd, (wset_ne (by omega)).trans h.fo, wset_at h.pe, (wset_ne (by omega)).trans h.st, g5.set (by omega)⟩
        have g3' := (wset_ne (W := W) (i := b + 2) (j := i) (u := .ls (ids.reverse.map D.obj)) (by omega)).trans g3
        have g4' := (wset_ne (W := W) (i := b + 2) (j := i + 1) (u := .ls (ids.reverse.map D.obj)) (by omega)).trans g4
        unfold b_FormReader_finish_1
        walk_at "n"
        simp only [h.rd, rdD, lk_pending, h.pe, revD, List.getLast?_concat, List.dropLast_concat]
        refine ⟨trivial, trivial, ?_⟩
        subst hR
        have hpf := hp f List.mem_cons_self
        have fin : ∀ sd', (sd' = .pa (.im (lsD (f.parts ++ [d]) f.pl)) ∨ sd' = .lo (.im (lsD (f.parts ++ [d]) f.pl))) → L ⟨[.pa (.im (.obj b)), sd', .lo (.im (.obj i))], W.set (b + 2) (.ls (ids.reverse.map D.obj))⟩ := fun sd' hs' => by
          rw [hL]
          refine ih ⟨fo, r, st⟩ (lsD (f.parts ++ [d]) f.pl) sd' _ _ h' hs' (fun f' hf' => hp f' (List.mem_cons_of_mem _ hf')) fun W' ids' sd2 s22 kp r1 r2 r3 => ?_
          have q := q W' ids' sd2 s22 ((Kp.set (by omega)).trans kp)
          simp only [e] at q
          exact q r1 r2 r3
        rcases hs with rfl | rfl
        · walk_at "y"
          simp only [g3', g4', frD, lk_parts, lk_place]
          exact ⟨trivial, szLine (by omega), szLine (by simp; omega), trivial, szLine (by omega), fin _ (.inr rfl)⟩
        · walk_at "y"
          simp only [g3', g4', frD, lk_parts, lk_place]
          exact ⟨trivial, szLine (by omega), szLine (by simp; omega), trivial, szLine (by omega), fin _ (.inr rfl)⟩
def F_fin (cR cF : Addr) : TF := fun ms W G Gx => ∃ (b n : Nat) (d : D) (ids : List Nat) (s : RS), ms = [.im (.obj b), .im d] ∧ RdOk cR cF b ids s W ∧ n ≤ 50000 ∧ s.forms.length ≤ n ∧ (∀ f ∈ s.pend, f.parts.length ≤ n) ∧
  ∀ W' fin ids', Kp b W W' → RdOk cR cF b ids' (s.fin d) W' → G (.im .non) fin W'
theorem body_fin (cR cF : Addr) : Body (F_fin cR cF) 3 2 fun _ => t_FormReader_finish cR cF := by
  rintro ms W G Gx hl ⟨b, n, d, ids, s, rfl, h, hn, hfo, hp, q⟩
  show t_FormReader_finish _ _ _ ⟨[Sl.pa (.im (.obj b)), Sl.pa (.im d), .no], W⟩
  unfold t_FormReader_finish
  refine seq_step fun R hR => ?_
  refine ⟨ids.length + 1, floop cR cF hn ids s d _ _ W h (.inl rfl) hp fun W1 ids1 sd s2 kp h1 hs hsg => ?_⟩
  show R _
  subst hR
  have e := fin_pop s.forms s.pend d
  unfold RS.fin at q
  rw [e] at q
  have hps : ∀ f ∈ (popF s.pend d).1, f.parts.length ≤ n := fun f hf => hp f (pop_sub hf)
  generalize popF s.pend d = pd at h1 hs hsg q hps
  obtain ⟨pf, d'⟩ := pd
  cases pf with
  | nil =>
    have e1 : ids1 = [] := by have := h1.fr.len; exact List.length_eq_zero_iff.mp this
    subst e1
    have fin : RdOk cR cF b [] { s with forms := s.forms ++ [d'], pend := [] } (W1.set (b + 1) (.ls (s.forms ++ [d']))) :=
      ⟨(wset_ne (by omega)).trans h1.rd, wset_at h1.fo, (wset_ne (by omega)).trans h1.pe, (wset_ne (by omega)).trans h1.st, trivial⟩
    have q := fun fi => q _ fi [] (kp.trans (Kp.set (by omega))) fin
    rcases hs with rfl | rfl
    · walk_at "y"
      simp only [h1.rd, rdD, lk_pending, lk_forms, h1.pe, h1.fo]
      refine ⟨trivial, ?_⟩
      rw [if_neg (by simp)]
      exact ⟨trivial, trivial, szLt (by omega), q _⟩
    · walk_at "y"
      simp only [h1.rd, rdD, lk_pending, lk_forms, h1.pe, h1.fo]
      refine ⟨trivial, ?_⟩
      rw [if_neg (by simp)]
      exact ⟨trivial, trivial, szLt (by omega), q _⟩
  | cons f r =>
    cases ids1 with
    | nil => exact h1.fr.elim
    | cons i ids1 =>
      obtain ⟨g1, g2, g3, g4, g5⟩ := h1.fr
      have fin : RdOk cR cF b (i :: ids1) { s with pend := { f with parts := f.parts ++ [d'] } :: r } (W1.set (i + 1) (.ls (f.parts ++ [d']))) := by
        refine ⟨(wset_ne (by omega)).trans h1.rd, (wset_ne (by omega)).trans h1.fo, (wset_ne (by omega)).trans h1.pe, (wset_ne (by omega)).trans h1.st, g1, g2, (wset_ne (by omega)).trans g3, wset_at g4, g5.keep fun j hj => ?_⟩
        have := g2 j hj
        exact ⟨wset_ne (by omega), wset_ne (by omega)⟩
      have q := fun fi => q _ fi (i :: ids1) (kp.trans (Kp.set (by omega))) fin
      have hpf := hps f List.mem_cons_self
      rcases hs with rfl | rfl
      · walk_at "y"
        simp only [h1.rd, rdD, lk_pending, h1.pe, revD, atI_last, g3, frD, lk_parts, g4]
        refine ⟨trivial, ?_⟩
        rw [if_pos (by simp)]
        exact ⟨trivial, trivial, trivial, szLt (by omega), q _⟩
      · walk_at "y"
        simp only [h1.rd, rdD, lk_pending, h1.pe, revD, atI_last, g3, frD, lk_parts, g4]
        refine ⟨trivial, ?_⟩
        rw [if_pos (by simp)]
        exact ⟨trivial, trivial, trivial, szLt (by omega), q _⟩
/-! ### one token -/
theorem lit_op : ("(" : Str) = S [40] := by decide +kernel
theorem lit_cl : (")" : Str) = S [41] := by decide +kernel
def Sg (w : Tx) : Prop := w = [40] ∨ w = [41] ∨ w = [39] ∨ w = [35, 39]
theorem fin_parts {n : Nat} : ∀ {fs : List D} {p : List Fr} {d : D}, fs.length ≤ n → (∀ f ∈ p, f.parts.length ≤ n) → (finF fs p d).1.length ≤ n + 1 ∧ (∀ f ∈ (finF fs p d).2, f.parts.length ≤ n + 1) ∧ (finF fs p d).2.length ≤ p.length
  | fs, [], d, h1, h2 => ⟨by unfold finF; simp; omega, by unfold finF; simp, by unfold finF; simp⟩
  | fs, f :: r, d, h1, h2 => by
    unfold finF
    split
    · obtain ⟨a, b, c⟩ := fin_parts (d := lsD (f.parts ++ [d]) f.pl) h1 (fun g hg => h2 g (List.mem_cons_of_mem _ hg))
      exact ⟨a, b, by rw [List.length_cons]; omega⟩
    · refine ⟨by show fs.length ≤ n + 1; omega, fun g hg => ?_, by simp⟩
      rcases List.mem_cons.mp hg with rfl | hg
      · have := h2 f List.mem_cons_self
        simp; omega
      · have := h2 g (List.mem_cons_of_mem _ hg); omega
def F_sign (cR cF cE : Addr) : TF := fun ms W G Gx => ∃ (b p n : Nat) (w : Tx) (ids : List Nat) (s : RS), ms = [.im (.obj b), .im (.str (S w)), .im (.int p)] ∧ Sg w ∧ RdOk cR cF b ids s W ∧ Sm s n ∧ n ≤ 40000 ∧
  match signF s w p with
  | .error e => ∀ W', Gx (xcR cE e) W'
  | .ok s' => ∀ W' fin ids', Kp b W W' → RdOk cR cF b ids' s' W' → G (.im .non) fin W'
theorem body_sign (cR cF cE : Addr) : Body (F_sign cR cF cE) 5 3 fun ex => t_FormReader_take_sign (F_begin cR cF cE) (F_fin cR cF) (F_nplace cR cF) cR cF cE ex := by
  rintro ms W G Gx hl ⟨b, p, n, w, ids, s, rfl, hw, h, sm, hn, q⟩
  show t_FormReader_take_sign _ _ _ _ _ _ _ _ ⟨[Sl.pa (.im (.obj b)), Sl.pa (.im (.str (S w))), Sl.pa (.im (.int p)), .no, .no], W⟩
  unfold t_FormReader_take_sign
  walk_at "y"
  rw [lit_op, S_eqD, Bool.false_xor]
  unfold signF at q
  by_cases k1 : w = [40]
  · rw [if_pos k1] at q
    rw [if_pos (by simp [k1])]
    simp only [h.rd, rdD]
    refine ⟨trivial, nm_begin, by first | exact trivial | rfl, by simp, b, p, n, false, ids, s, rfl, h, sm, by omega, ?_⟩
    cases e : s.open_ false p with
    | error x => rw [e] at q; exact q _
    | ok s' => rw [e] at q; exact fun W' fin i kp h' => ⟨rfl, q _ _ _ kp h'⟩
  rw [if_neg k1] at q
  rw [if_neg (by simp [k1])]
  rw [lit_cl, S_eqD]
  by_cases k2 : w = [41]
  · rw [if_pos k2] at q
    rw [if_pos (by simp [k2])]
    obtain ⟨fo, pd, st⟩ := s
    cases pd with
    | nil =>
      have e1 : ids = [] := by have := h.fr.len; exact List.length_eq_zero_iff.mp this
      subst e1
      walk_at "n"
      simp only [h.rd, rdD, lk_pending, h.pe]
      refine ⟨trivial, ?_⟩
      rw [if_pos (by simp), if_pos trivial]
      exact ⟨trivial, q _⟩
    | cons f r =>
      cases ids with
      | nil => exact h.fr.elim
      | cons i ids =>
        obtain ⟨g1, g2, g3, g4, g5⟩ := h.fr
        dsimp only at q
        walk_at "n"
        simp only [h.rd, rdD, lk_pending, h.pe, revD, atI_last, g3, frD, lk_sgn]
        refine ⟨trivial, ?_⟩
        rw [if_neg (by simp)]
        refine ⟨trivial, trivial, ?_⟩
        cases hf : f.sgn with
        | true =>
          rw [hf, if_pos rfl] at q
          rw [if_pos rfl]
          exact ⟨trivial, q _⟩
        | false =>
          rw [hf, if_neg (by simp)] at q
          rw [if_neg (by simp)]
          subst hR
          walk_at "n"
          simp only [h.rd, rdD, lk_pending, h.pe, revD, List.getLast?_concat, List.dropLast_concat]
          refine ⟨trivial, trivial, ?_⟩
          subst hR
          have h' : RdOk cR cF b ids ⟨fo, r, st⟩ (W.set (b + 2) (.ls (ids.reverse.map D.obj))) :=
            ⟨(wset_ne (by omega)).trans h.rd, (wset_ne (by omega)).trans h.fo, wset_at h.pe, (wset_ne (by omega)).trans h.st, g5.set (by omega)⟩
          have g3' := (wset_ne (W := W) (i := b + 2) (j := i) (u := .ls (ids.reverse.map D.obj)) (by omega)).trans g3
          have g4' := (wset_ne (W := W) (i := b + 2) (j := i + 1) (u := .ls (ids.reverse.map D.obj)) (by omega)).trans g4
          have r' := h'.rd
          unfold rdD at r'
          walk_at "y"
          simp only [r', g3', g4', frD, lk_parts, lk_place]
          refine ⟨trivial, nm_finish, trivial, trivial, szLine (by omega), by first | exact trivial | rfl, by simp, b, n, lsD f.parts f.pl, ids, ⟨fo, r, st⟩, rfl, h', by omega, sm.fo, fun g hg => sm.pt g (List.mem_cons_of_mem _ hg), fun W' fin ids' kp h2 => ⟨rfl, ?_⟩⟩
          exact q _ _ _ ((Kp.set (by omega)).trans kp) h2
  rw [if_neg k2] at q
  rw [if_neg (by simp [k2])]
  walk_at "n"
  simp only [h.rd, rdD]
  refine ⟨trivial, nm_begin, by first | exact trivial | rfl, by simp, b, p, n, true, ids, s, rfl, h, sm, by omega, ?_⟩
  cases e : s.open_ true p with
  | error x => rw [e] at q; exact q _
  | ok s' =>
    rw [e] at q
    intro W1 fin i kp h1
    refine ⟨rfl, ?_⟩
    have e' : s' = { s with starts := s.starts ++ [p], pend := ⟨true, s.starts.length, []⟩ :: s.pend } := by
      unfold RS.open_ at e
      split at e
      · cases e
      · cases e; rfl
    subst e'
    subst hR
    walk_at "n"
    rw [lit_ap, S_eqD, Bool.false_xor]
    obtain ⟨g1, g2, g3, g4, g5⟩ := h1.fr
    have h2 := h1.place p
    obtain ⟨y1, y2, y3, y4, y5⟩ := h2.fr
    have fin3 : ∀ (word : Str), word = (if w = [39] then ("quote" : Str) else ("syntax" : Str)) → R ⟨[Sl.pa (.im (.obj b)), Sl.pa (.im (.str (S w))), Sl.pa (.im (.int p)), .no, .lo (.im (.str word))], W1⟩ := fun word hword => by
      subst hR
      have r' := h1.rd
      have p' := h1.pe
      unfold rdD at r'
      walk_at "y"
      simp only [r', p', lk_pending, revD, atI_last, g3, frD, lk_parts, g4]
      refine ⟨trivial, trivial, trivial, trivial, nm_new_place, by first | exact trivial | rfl, by simp, b, p, i :: ids, _, rfl, h1, ?_, fun W2 fin2 kp2 h3 => ⟨rfl, ?_⟩⟩
      · have := sm.st; simp; omega
      obtain ⟨z1, z2, z3, z4, z5⟩ := h3.fr
      walk_at "y"
      simp only [z4]
      refine ⟨szLine (by omega), szLt (by simp), ?_⟩
      have fin4 : RdOk cR cF b (i :: ids) ((RS.place { s with starts := s.starts ++ [p], pend := ⟨true, s.starts.length, []⟩ :: s.pend } p).part (.tup [.str "name", .str word, .int ((s.starts ++ [p]).length : Nat)])) (W2.set (i + 1) (.ls ([] ++ [.tup [.str "name", .str word, .int ((s.starts ++ [p]).length : Nat)]]))) := by
        refine ⟨(wset_ne (by omega)).trans h3.rd, (wset_ne (by omega)).trans h3.fo, (wset_ne (by omega)).trans h3.pe, (wset_ne (by omega)).trans h3.st, z1, z2, (wset_ne (by omega)).trans z3, wset_at z4, z5.keep fun j hj => ?_⟩
        have := z2 j hj
        exact ⟨wset_ne (by omega), wset_ne (by omega)⟩
      rw [← hword] at q
      exact q _ _ _ (kp.trans (kp2.trans (Kp.set (by omega)))) fin4
    by_cases k3 : w = [39]
    · rw [if_pos (by simp [k3])]
      exact fin3 _ (by rw [if_pos k3])
    · rw [if_neg (by simp [k3])]
      exact fin3 _ (by rw [if_neg k3])
end Y
namespace Y
set_option hygiene false
open PySem PySem.Spec L2 SX
local macro_rules | `(tactic| walk_at "y") => `(tactic| dsimp only [tGet2, ex0, exB, endB, envOf, Env.set, Env.put, Env.stSet, Env.push, tFldY, sFldY, tMtE, tMethY, tMakeY, callF, tPub, pub, M.ob?, Ob.vw, Ob.toM, sSetE, tMaxD, gIntS, sRaise, sTry, sTryAs, endN, tXfY, tSm, gFind, gJoin, gStr, gStarts, List.zip_cons_cons, List.zip_nil_left, List.reverse_cons, List.reverse_nil, TF.calm, gx0, putFD, tCallV, tCallL, capt, gLtD, gSum, gMax, gSorted2, sNil, sBk, sCt, sDrop, sIf, asg, sAsg, sRet, sRetN, tIm, tNm, tBin, w2, vw, Sl.m?, tTst, tTru, M.tru, tAndQ, tOrQ, tNotQ, tAndX, tOrX, tNotX, tIfX, lNil, lCons, tOn, fInD, fIxD, tGet1, vwD, getOr, M.isD, sPar2, tLc2X, compL2, tChn, tFrz, froz, tTp, tLs, tCl, vws, tMt, Sl.m!, Sl.up, M.res, gLen, gInt, gAdd, gSub, gMul, gMulS, gDiv, gMod, gPow, gII, gI0, gEqs, gEqs2, gIx, gPop, gApp, gRev, gExt, gTuple, gList, gDict, gIs, gIsi, gAll, gIns, gSorted, gSl, M.lq?, M.lst?, M.sq?, M.dat?, M.isNon, gLt, gLe, gGt, gGe, sFor, iSeq, srcOf, iEnm, enmOf, iRg1, iRg2, bnd, setAll, backS, Sl.isP, tSlc, pNo, pSo, sSetI, hasM, setM, tDspK, tDspT, pairG, D.key?, D.keys?, D.tkey?, putAll, tNewK, tNewT, tNeg, sUnp, tCall, argMs, argM, argS, slots, putB, stepB, putS_lo_ls_ls, putS_lo_ls_dk, putS_lo_ls_dt, putS_lo_ls_no, putS_pa_ls_ls, putS_pa_ls_dk, putS_pa_ls_dt, putS_pa_ls_no, putS_lo_rd_ls, putS_lo_rd_dk, putS_lo_rd_dt, putS_lo_rd_no, putS_pa_rd_ls, putS_pa_rd_dk, putS_pa_rd_dt, putS_pa_rd_no, putS_lo_dk_ls, putS_lo_dk_dk, putS_lo_dk_dt, putS_lo_dk_no, putS_pa_dk_ls, putS_pa_dk_dk, putS_pa_dk_dt, putS_pa_dk_no, putS_lo_dt_ls, putS_lo_dt_dk, putS_lo_dt_dt, putS_lo_dt_no, putS_pa_dt_ls, putS_pa_dt_dk, putS_pa_dt_dt, putS_pa_dt_no, putS_lo_im, putS_lo_sq, putS_pa_im, putS_pa_sq, M.own, M.fit, fins, Sl.fin, envOf, tLcX, compL, wipeE, restE, keepS, qYes, kD, dGet, List.getElem?_cons_zero, List.getElem?_cons_succ, List.getElem?_nil, List.set_cons_zero, List.set_cons_succ, List.map_cons, List.map_nil, List.take_succ_cons, List.take_zero, List.length_cons, List.length_nil, List.head?_cons, List.tail_cons, Option.join_some, List.cons_append, List.nil_append, List.replicate])
local macro_rules | `(tactic| walk_at "n") => `(tactic| ((try dsimp only); refine seq_step fun R hR => ?_; walk_at "y"))
local macro_rules | `(tactic| walk_at "i") => `(tactic| simp only [Bool.false_xor, Bool.true_xor, Bool.not_true, Bool.not_false, Bool.false_eq_true, reduceIte, isiT, M.ty, String.reduceBEq, Bool.or_false, Bool.false_or, Bool.and_false, Bool.and_true, Bool.true_and, Bool.false_and, Bool.or_true, List.mem_cons, true_or, or_true, true_and, and_true, String.reduceEq, decide_true, decide_false])
local macro_rules | `(tactic| walk_at "s") => `(tactic| (subst hR; walk_at "n"))
local macro_rules | `(tactic| walk_at "z") => `(tactic| (simp only [List.map_cons, List.map_nil, atI_c0, atI_c1, atI_c2, atI_c3, atI_c4, atI_c5]; (try walk_at "y")))
local macro_rules | `(tactic| walk_at "e") => `(tactic| repeat (first | rw [if_pos (by decide +kernel)] | rw [if_neg (by decide +kernel)]))
/-! ### tokens are what they say -/
structure VOk (sort : Str) (w : Tx) : Prop where
  str : sort = "string" → 2 ≤ w.length
  num : sort = "number" → isNum w = true
  flag : sort = "flag" → w = [35, 116] ∨ w = [35, 102]
structure TokOk (l : Tx) (t : Tok3) : Prop where
  le : t.2.1 ≤ t.2.2
  hi : t.2.2 ≤ l.length
  sg : t.1 = "sign" → Sg ((l.drop t.2.1).take (t.2.2 - t.2.1))
  v : VOk t.1 ((l.drop t.2.1).take (t.2.2 - t.2.1))
theorem sort_ok (w : Tx) : sortOf w ≠ "sign" ∧ sortOf w ≠ "string" ∧ (sortOf w = "number" → isNum w = true) ∧ (sortOf w = "flag" → w = [35, 116] ∨ w = [35, 102]) := by
  unfold sortOf
  by_cases h1 : isNum w = true
  · rw [if_pos h1]; exact ⟨by decide +kernel, by decide +kernel, fun _ => h1, fun z => absurd z (by decide +kernel)⟩
  rw [if_neg h1]
  by_cases h2 : w = [35, 116] ∨ w = [35, 102]
  · rw [if_pos h2]; exact ⟨by decide +kernel, by decide +kernel, fun z => absurd z (by decide +kernel), fun _ => h2⟩
  rw [if_neg h2]
  by_cases h3 : w = [46, 46, 46]
  · rw [if_pos h3]; exact ⟨by decide +kernel, by decide +kernel, fun z => absurd z (by decide +kernel), fun z => absurd z (by decide +kernel)⟩
  rw [if_neg h3]
  by_cases h4 : w = [95]
  · rw [if_pos h4]; exact ⟨by decide +kernel, by decide +kernel, fun z => absurd z (by decide +kernel), fun z => absurd z (by decide +kernel)⟩
  rw [if_neg h4]
  by_cases h5 : isNm w = true
  · rw [if_pos h5]; exact ⟨by decide +kernel, by decide +kernel, fun z => absurd z (by decide +kernel), fun z => absurd z (by decide +kernel)⟩
  rw [if_neg h5]; exact ⟨by decide +kernel, by decide +kernel, fun z => absurd z (by decide +kernel), fun z => absurd z (by decide +kernel)⟩
theorem ne1 : ("sign" : Str) ≠ "string" := by decide +kernel
theorem ne2 : ("sign" : Str) ≠ "number" := by decide +kernel
theorem ne3 : ("sign" : Str) ≠ "flag" := by decide +kernel
theorem ne4 : ("wrong" : Str) ≠ "string" := by decide +kernel
theorem ne5 : ("wrong" : Str) ≠ "number" := by decide +kernel
theorem ne6 : ("wrong" : Str) ≠ "flag" := by decide +kernel
theorem ne7 : ("wrong" : Str) ≠ "sign" := by decide +kernel
theorem ne8 : ("string" : Str) ≠ "sign" := by decide +kernel
theorem ne9 : ("string" : Str) ≠ "number" := by decide +kernel
theorem ne10 : ("string" : Str) ≠ "flag" := by decide +kernel
theorem vok_sign (w : Tx) : VOk "sign" w := ⟨fun z => absurd z ne1, fun z => absurd z ne2, fun z => absurd z ne3⟩
theorem tok_ok {c : Nat} {r : Tx} (h1 : c ≠ 32) (h2 : c ≠ 10) (h3 : c ≠ 59) : ((tokOf (c :: r)).1 = "sign" → Sg ((c :: r).take (tokOf (c :: r)).2)) ∧ VOk (tokOf (c :: r)).1 ((c :: r).take (tokOf (c :: r)).2) := by
  have tl := tok_le (r := r) h1 h2 h3
  rw [tokOf_cons] at tl ⊢
  by_cases k1 : c = 40 ∨ c = 41 ∨ c = 39
  · rw [if_pos k1]
    refine ⟨fun _ => ?_, vok_sign _⟩
    show Sg [c]
    rcases k1 with rfl | rfl | rfl
    · exact .inl rfl
    · exact .inr (.inl rfl)
    · exact .inr (.inr (.inl rfl))
  rw [if_neg k1] at tl ⊢
  by_cases k2 : c = 34
  · rw [if_pos k2] at tl ⊢
    unfold strTok at tl ⊢
    split
    · rename_i hm
      rw [if_pos hm] at tl
      by_cases k3 : till 34 ((c :: r).drop 1) ≤ 100
      · rw [if_pos k3]
        refine ⟨fun z => absurd z ne8, fun _ => ?_, fun z => absurd z ne9, fun z => absurd z ne10⟩
        rw [List.length_take]
        have tl : till 34 ((c :: r).drop 1) + 2 ≤ (c :: r).length := tl
        show 2 ≤ min (till 34 ((c :: r).drop 1) + 2) _
        omega
      · rw [if_neg k3]
        exact ⟨fun z => absurd z ne7, fun z => absurd z ne4, fun z => absurd z ne5, fun z => absurd z ne6⟩
    · exact ⟨fun z => absurd z ne7, fun z => absurd z ne4, fun z => absurd z ne5, fun z => absurd z ne6⟩
  rw [if_neg k2]
  unfold wordTok
  split
  · rename_i hm
    refine ⟨fun _ => ?_, vok_sign _⟩
    refine .inr (.inr (.inr ?_))
    show (c :: r).take (wordN (c :: r) + 1) = _
    rw [List.take_succ, hm.1, hm.2]
    rfl
  · obtain ⟨a1, a2, a3, a4⟩ := sort_ok ((c :: r).take (wordN (c :: r)))
    exact ⟨fun z => absurd z a1, fun z => absurd z a2, a3, a4⟩
theorem lex_ok {l : Tx} : ∀ (f p : Nat) (s : Tx), s = l.drop p → p ≤ l.length → ∀ t ∈ lex f p s, TokOk l t
  | 0, _, _, _, _, t, ht => by simp [lex] at ht
  | _ + 1, _, [], _, _, t, ht => by simp [lex] at ht
  | f + 1, p, c :: r, hs, hp, t, ht => by
    have hlen : p + 1 + r.length = l.length := by
      have := congrArg List.length hs
      rw [List.length_drop, List.length_cons] at this; omega
    unfold lex at ht
    by_cases k1 : c = 32 ∨ c = 10
    · rw [if_pos k1] at ht
      exact lex_ok f (p + 1) r (by rw [← List.drop_drop, ← hs]; rfl) (by omega) t ht
    rw [if_neg k1] at ht
    by_cases k2 : c = 59
    · rw [if_pos k2] at ht
      have ll := line_le (c :: r)
      rw [List.length_cons] at ll
      exact lex_ok f _ _ (by rw [← List.drop_drop, ← hs]) (by omega) t ht
    rw [if_neg k2] at ht
    have tl := tok_le (c := c) (r := r) (by omega) (by omega) k2
    have to := tok_ok (c := c) (r := r) (by omega) (by omega) k2
    rw [List.length_cons] at tl
    rcases List.mem_cons.mp ht with rfl | ht
    · refine ⟨Nat.le_add_right _ _, by show p + _ ≤ _; omega, ?_, ?_⟩
      · intro z
        have := to.1 z
        show Sg ((l.drop p).take (p + (tokOf (c :: r)).2 - p))
        rw [← hs, Nat.add_sub_cancel_left]; exact this
      · show VOk _ ((l.drop p).take (p + (tokOf (c :: r)).2 - p))
        rw [← hs, Nat.add_sub_cancel_left]; exact to.2
    · exact lex_ok f _ _ (by rw [← List.drop_drop, ← hs]) (by omega) t ht
theorem toks_ok (l : Tx) : ∀ t ∈ toksOf l, TokOk l t := lex_ok _ 0 l rfl (Nat.zero_le _)
/-! ### value_of -/
theorem slice_in {w : Tx} (h : 2 ≤ w.length) : Txt.slice (S w) (some 1) (some (-1)) = S ((w.drop 1).take (w.length - 2)) := by
  have e : Txt.slice (S w) (some 1) (some (-1)) = Txt.slice (S w) (some ((1 : Nat) : Int)) (some ((w.length - 1 : Nat) : Int)) := by
    unfold Txt.slice
    rw [S_len]
    have e2 : Builtin.Str.strSliceIndices (some 1) (some (-1)) 1 w.length = Builtin.Str.strSliceIndices (some ((1 : Nat) : Int)) (some ((w.length - 1 : Nat) : Int)) 1 w.length := by
      have g0 : ¬ ((w.length - 1 : Nat) : Int) < 0 := by omega
      have g1 : (-1 : Int) + (w.length : Int) = ((w.length - 1 : Nat) : Int) := by omega
      have g2 : (-1 : Int) < 0 := by decide
      simp only [Builtin.Str.strSliceIndices, g0, g1, g2, if_false, if_true]
      rfl
    rw [e2]
  rw [e, slice_midN (by omega) (by omega)]
  congr 2
theorem num_val {w : Tx} (h : isNum w = true) : intText? (S w) = some (numV w) ∧ w.length ≤ 31 := by
  unfold isNum at h
  split at h
  · cases h
  · rename_i hn
    have h1 : bodyOf w ≠ [] := fun z => hn (.inl (.inl z))
    have h2 : allFig (bodyOf w) = true := by cases z : allFig (bodyOf w); exact absurd (.inl (.inr z)) hn; rfl
    have h3 : (bodyOf w).length ≤ 30 := by have : ¬ 30 < (bodyOf w).length := fun z => hn (.inr z); omega
    have hd : ∀ c ∈ bodyOf w, 48 ≤ c ∧ c ≤ 57 := fun c hc => by
      have := List.all_eq_true.mp h2 c hc
      simp [Lfig] at this
      omega
    unfold bodyOf at h1 h3 hd
    unfold numV
    by_cases k : w.take 1 = [45]
    · rw [if_pos k] at h1 h3 hd ⊢
      cases w with
      | nil => simp at k
      | cons x r =>
        have kx : x = 45 := by simpa using k
        subst kx
        have h1 : r ≠ [] := h1
        have h3 : r.length ≤ 30 := h3
        exact ⟨intText_neg (x := S (45 :: r)) rfl hd h1 (by rw [S_len, List.length_cons]; omega), by rw [List.length_cons]; omega⟩
    · rw [if_neg k] at h1 h3 hd ⊢
      exact ⟨intText_digits (x := S w) hd h1 (by rw [S_len]; omega), by omega⟩

theorem sD (sort : Str) (x : Tx) (e : sort = S x) (y : Str) : True := trivial
def F_val : TF := fun ms W G Gx => ∃ (sort : Str) (w : Tx), ms = [.im (.str sort), .im (.str (S w))] ∧ VOk sort w ∧ w.length ≤ 7000 ∧ ∀ fin, G (.im (.tup [.str (valF sort w).1, (valF sort w).2])) fin W
theorem body_val : Body F_val 2 2 fun _ => t_value_of := by
  rintro ms W G Gx hl ⟨sort, w, rfl, h, hw, q⟩
  show t_value_of _ ⟨[Sl.pa (.im (.str sort)), Sl.pa (.im (.str (S w)))], W⟩
  unfold t_value_of
  have hs : (S w).length ≤ sizeLine := by rw [S_len]; exact szLine (by omega)
  have h2 : ∀ n : Nat, n ≤ 5 → n ≤ sizeLine := fun n hn => szLine (by omega)
  unfold valF at q
  walk_at "n"
  rw [Bool.false_xor]
  by_cases k1 : sort = Str.ofString "string"
  · rw [if_pos k1] at q
    rw [if_pos (by simp [k1])]
    refine ⟨hs, ?_⟩
    rw [slice_in (h.str k1)]
    exact ⟨h2 _ (by omega), q _⟩
  rw [if_neg k1] at q
  rw [if_neg (by simp [k1])]
  subst hR
  walk_at "n"
  rw [Bool.false_xor]
  by_cases k2 : sort = Str.ofString "number"
  · rw [if_pos k2] at q
    rw [if_pos (by simp [k2])]
    obtain ⟨n1, n2⟩ := num_val (h.num k2)
    exact ⟨numV w, n1, by rw [S_len]; omega, h2 _ (by omega), q _⟩
  rw [if_neg k2] at q
  rw [if_neg (by simp [k2])]
  subst hR
  walk_at "n"
  rw [Bool.false_xor]
  by_cases k3 : sort = Str.ofString "flag"
  · rw [if_pos k3] at q
    rw [if_pos (by simp [k3])]
    rw [tab_flags]
    rcases h.flag k3 with e | e
    · rw [if_pos e]
      rw [decide_eq_true e] at q
      exact ⟨h2 _ (by omega), q _⟩
    · have e2 : w ≠ [35, 116] := by rw [e]; decide
      rw [if_neg e2, if_pos e]
      rw [decide_eq_false e2] at q
      exact ⟨h2 _ (by omega), q _⟩
  rw [if_neg k3] at q
  rw [if_neg (by simp [k3])]
  subst hR
  walk_at "n"
  rw [Bool.false_xor]
  by_cases k4 : sort = Str.ofString "name"
  · rw [if_pos k4] at q
    rw [if_pos (by simp [k4])]
    exact ⟨h2 _ (by omega), q _⟩
  rw [if_neg k4] at q
  rw [if_neg (by simp [k4])]
  subst hR
  walk_at "y"
  exact ⟨h2 _ (by omega), q _⟩
/-! ### take -/
theorem open_sm {s s' : RS} {sg : Bool} {p n : Nat} (h : Sm s n) (e : s.open_ sg p = .ok s') : Sm s' (n + 1) := by
  unfold RS.open_ at e
  split at e
  · cases e
  · rename_i hne
    cases e
    exact ⟨by have := h.st; simp; omega, by have := h.fo; simp; omega, fun f hf => by
      rcases List.mem_cons.mp hf with rfl | hf
      · simp
      · have := h.pt f hf; omega, by have := h.pe; simp; omega⟩
theorem fin_sm {s : RS} {d : D} {n : Nat} (h : Sm s n) : Sm (s.fin d) (n + 1) := by
  obtain ⟨a, b, c⟩ := fin_parts (d := d) h.fo h.pt
  exact ⟨by have := h.st; show s.starts.length ≤ _; omega, a, b, Nat.le_trans c h.pe⟩
theorem place_sm {s : RS} {p n : Nat} (h : Sm s n) : Sm (s.place p) (n + 1) :=
  ⟨by have := h.st; simp [RS.place]; omega, by have := h.fo; simp [RS.place]; omega, fun f hf => by have := h.pt f hf; omega, h.pe⟩
theorem part_sm {s : RS} {d : D} {n : Nat} (h : Sm s n) : Sm (s.part d) (n + 1) := by
  obtain ⟨fo, pd, st⟩ := s
  cases pd with
  | nil => exact ⟨by have := h.st; show st.length ≤ _; simp at this; omega, by have := h.fo; show fo.length ≤ _; simp at this; omega, fun f hf => (by cases hf), (by show 0 ≤ 60; omega)⟩
  | cons f r => exact ⟨by have := h.st; show st.length ≤ _; simp at this; omega, by have := h.fo; show fo.length ≤ _; simp at this; omega, fun g hg => by
      rcases List.mem_cons.mp hg with rfl | hg
      · have := h.pt f List.mem_cons_self; simp; omega
      · have := h.pt g (List.mem_cons_of_mem _ hg); omega, h.pe⟩
theorem sign_sm {s s' : RS} {w : Tx} {p n : Nat} (h : Sm s n) (e : signF s w p = .ok s') : Sm s' (n + 3) := by
  have up : ∀ {s : RS} {a b : Nat}, a ≤ b → Sm s a → Sm s b := fun hab h => ⟨by have := h.st; omega, by have := h.fo; omega, fun f hf => by have := h.pt f hf; omega, h.pe⟩
  unfold signF at e
  split at e
  · exact up (by omega) (open_sm h e)
  split at e
  · obtain ⟨fo, pd, st⟩ := s
    cases pd with
    | nil => cases e
    | cons f r =>
      dsimp only at e
      split at e
      · cases e
      · cases e
        exact up (by omega) (fin_sm (s := ⟨fo, r, st⟩) ⟨h.st, h.fo, fun g hg => h.pt g (List.mem_cons_of_mem _ hg), by have := h.pe; simp at this ⊢; omega⟩)
  · cases eo : s.open_ true p with
    | error x => rw [eo] at e; cases e
    | ok s1 => rw [eo] at e; cases e; exact part_sm (place_sm (open_sm h eo))
theorem take_sm {l : Tx} {s s' : RS} {t : Tok3} {n : Nat} (h : Sm s n) (e : takeF l s t = .ok s') : Sm s' (n + 3) := by
  have up : ∀ {s : RS} {a b : Nat}, a ≤ b → Sm s a → Sm s b := fun hab h => ⟨by have := h.st; omega, by have := h.fo; omega, fun f hf => by have := h.pt f hf; omega, h.pe⟩
  unfold takeF at e
  split at e
  · cases e
  split at e
  · exact sign_sm h e
  · cases e
    exact up (by omega) (fin_sm (place_sm h))
def F_tk (cR cF cE : Addr) : TF := fun ms W G Gx => ∃ (b n : Nat) (l : Tx) (t : Tok3) (ids : List Nat) (s : RS), ms = [.im (.obj b), .im (.str (S l)), .im (tkD t)] ∧ l.length ≤ 7000 ∧ TokOk l t ∧ RdOk cR cF b ids s W ∧ Sm s n ∧ n ≤ 30000 ∧
  match takeF l s t with
  | .error e => ∀ W', Gx (xcR cE e) W'
  | .ok s' => ∀ W' fin ids', Kp b W W' → RdOk cR cF b ids' s' W' → G (.im .non) fin W'
theorem body_tk (cR cF cE : Addr) : Body (F_tk cR cF cE) 8 3 fun ex => t_FormReader_take (F_sign cR cF cE) F_val (F_fin cR cF) (F_nplace cR cF) cR cE ex := by
  rintro ms W G Gx hl ⟨b, n, l, t, ids, s, rfl, hll, ht, h, sm, hn, q⟩
  show t_FormReader_take _ _ _ _ _ _ _ _ ⟨[Sl.pa (.im (.obj b)), Sl.pa (.im (.str (S l))), Sl.pa (.im (tkD t)), .no, .no, .no, .no, .no], W⟩
  obtain ⟨sort, p, e⟩ := t
  have hs : (S l).length ≤ sizeLine := by rw [S_len]; exact szLine (by omega)
  unfold takeF at q
  unfold t_FormReader_take tkD
  walk_at "n"
  refine ⟨rfl, ?_⟩
  subst hR
  walk_at "n"
  rw [Bool.false_xor]
  by_cases k1 : sort = Str.ofString "wrong"
  · rw [if_pos k1] at q
    rw [if_pos (by simp [k1])]
    exact ⟨rfl, q _⟩
  rw [if_neg k1] at q
  rw [if_neg (by simp [k1])]
  have hw : Txt.slice (S l) (some (p : Int)) (some (e : Int)) = S ((l.drop p).take (e - p)) := slice_midN ht.le ht.hi
  subst hR
  walk_at "y"
  rw [Bool.false_xor]
  by_cases k2 : sort = Str.ofString "sign"
  · rw [if_pos k2] at q
    rw [if_pos (by simp [k2])]
    simp only [h.rd, rdD]
    refine ⟨trivial, nm_take_sign, hs, ?_⟩
    rw [hw]
    refine ⟨by first | exact trivial | rfl, by simp, b, p, n, _, ids, s, rfl, ht.sg k2, h, sm, by omega, ?_⟩
    dsimp only at q
    cases eq : signF s ((l.drop p).take (e - p)) p with
    | error x => rw [eq] at q; exact q
    | ok s' => rw [eq] at q; exact fun W' fin ids' kp h' => ⟨rfl, q _ _ _ kp h'⟩
  rw [if_neg k2] at q
  rw [if_neg (by simp [k2])]
  walk_at "n"
  refine ⟨hs, ?_⟩
  rw [hw]
  refine ⟨rfl, .nil, sort, _, rfl, ht.v, by rw [List.length_take, List.length_drop]; omega, fun fin => ⟨rfl, ?_⟩⟩
  walk_at "y"
  refine ⟨rfl, ?_⟩
  subst hR
  walk_at "y"
  simp only [h.rd, rdD]
  refine ⟨trivial, nm_finish, trivial, nm_new_place, by first | exact trivial | rfl, by simp, b, p, ids, s, rfl, h, by have := sm.st; omega, fun W1 fin1 kp1 h1 => ⟨rfl, ?_⟩⟩
  walk_at "y"
  refine ⟨szLine (by omega), by first | exact trivial | rfl, by simp, b, n, _, ids, s.place p, rfl, h1, by omega, sm.fo, sm.pt, fun W2 fin2 ids2 kp2 h2 => ⟨rfl, ?_⟩⟩
  exact q _ _ _ (kp1.trans kp2) h2
/-! ### a whole text -/
theorem put_r1 {a : D} : putFD (Str.ofString "forms") a [] = [(Str.ofString "forms", a)] := rfl
theorem put_r2 {a b : D} : putFD (Str.ofString "pending") b [(Str.ofString "forms", a)] = [(Str.ofString "forms", a), (Str.ofString "pending", b)] := by
  unfold putFD; rw [if_neg (by decide +kernel)]; rfl
theorem put_r3 {a b c : D} : putFD (Str.ofString "starts") c [(Str.ofString "forms", a), (Str.ofString "pending", b)] = [(Str.ofString "forms", a), (Str.ofString "pending", b), (Str.ofString "starts", c)] := by
  unfold putFD; rw [if_neg (by decide +kernel)]; unfold putFD; rw [if_neg (by decide +kernel)]; rfl
def F_rinit (cR cF : Addr) : TF := fun ms W G Gx => ∃ b : Nat, ms = [.im (.obj b)] ∧ W[b]? = some (.ins cR []) ∧ W.length = b + 1 ∧ ∀ W' fin, Kp b W W' → RdOk cR cF b [] ⟨[], [], []⟩ W' → G (.im .non) fin W'
theorem app_at {W : Sto} {u : Ob} {n : Nat} (h : W.length = n) : (W ++ [u])[n]? = some u := by
  subst h; rw [List.getElem?_append_right (Nat.le_refl _)]; simp
theorem app_lt {W : Sto} {u : Ob} {n : Nat} (h : n < W.length) : (W ++ [u])[n]? = W[n]? := List.getElem?_append_left h
theorem body_rinit (cR cF : Addr) : Body (F_rinit cR cF) 1 1 fun _ => t_FormReader___init__ cR := by
  rintro ms W G Gx hl ⟨b, rfl, h, hlen, q⟩
  show t_FormReader___init__ _ _ ⟨[Sl.pa (.im (.obj b))], W⟩
  unfold t_FormReader___init__
  walk_at "n"
  have f1 : (W ++ [Ob.ls []])[b]? = some (.ins cR []) := (app_lt (by omega)).trans h
  simp only [f1, hlen, put_r1]
  refine ⟨by simp, trivial, by simp, ?_⟩
  subst hR
  have g1 : ((W ++ [Ob.ls []]).set b (.ins cR [(Str.ofString "forms", .obj (b + 1))]))[b]? = some (.ins cR [(Str.ofString "forms", .obj (b + 1))]) := wset_at f1
  have a1 : ((W ++ [Ob.ls []]).set b (.ins cR [(Str.ofString "forms", .obj (b + 1))]))[b + 1]? = some (.ls []) := by rw [wset_ne (by omega)]; exact app_at hlen
  have k1 : Kp b W ((W ++ [Ob.ls []]).set b (.ins cR [(Str.ofString "forms", .obj (b + 1))])) := fun n hn => (wset_ne (by omega)).trans (app_lt (by omega))
  have l1 : ((W ++ [Ob.ls []]).set b (.ins cR [(Str.ofString "forms", .obj (b + 1))])).length = b + 2 := by rw [List.length_set, List.length_append, hlen]; rfl
  generalize (W ++ [Ob.ls []]).set b (.ins cR [(Str.ofString "forms", .obj (b + 1))]) = W1 at g1 a1 k1 l1 ⊢
  walk_at "n"
  have f2 : (W1 ++ [Ob.ls []])[b]? = _ := (app_lt (by omega)).trans g1
  simp only [f2, l1, put_r2]
  refine ⟨by simp, trivial, by simp, ?_⟩
  subst hR
  have g2 : ((W1 ++ [Ob.ls []]).set b (.ins cR [(Str.ofString "forms", .obj (b + 1)), (Str.ofString "pending", .obj (b + 2))]))[b]? = some (.ins cR [(Str.ofString "forms", .obj (b + 1)), (Str.ofString "pending", .obj (b + 2))]) := wset_at f2
  have a2 : ((W1 ++ [Ob.ls []]).set b (.ins cR [(Str.ofString "forms", .obj (b + 1)), (Str.ofString "pending", .obj (b + 2))]))[b + 1]? = some (.ls []) := by rw [wset_ne (by omega), app_lt (by omega)]; exact a1
  have b2 : ((W1 ++ [Ob.ls []]).set b (.ins cR [(Str.ofString "forms", .obj (b + 1)), (Str.ofString "pending", .obj (b + 2))]))[b + 2]? = some (.ls []) := by rw [wset_ne (by omega)]; exact app_at l1
  have k2 : Kp b W ((W1 ++ [Ob.ls []]).set b (.ins cR [(Str.ofString "forms", .obj (b + 1)), (Str.ofString "pending", .obj (b + 2))])) := fun n hn => ((wset_ne (by omega)).trans (app_lt (by omega))).trans (k1 n hn)
  have l2 : ((W1 ++ [Ob.ls []]).set b (.ins cR [(Str.ofString "forms", .obj (b + 1)), (Str.ofString "pending", .obj (b + 2))])).length = b + 3 := by rw [List.length_set, List.length_append, l1]; rfl
  generalize (W1 ++ [Ob.ls []]).set b (.ins cR [(Str.ofString "forms", .obj (b + 1)), (Str.ofString "pending", .obj (b + 2))]) = W2 at g2 a2 b2 k2 l2 ⊢
  walk_at "y"
  have f3 : (W2 ++ [Ob.ls []])[b]? = _ := (app_lt (by omega)).trans g2
  simp only [f3, l2, put_r3]
  refine ⟨by simp, trivial, by simp, ?_⟩
  refine q _ _ (fun n hn => ((wset_ne (by omega)).trans (app_lt (by omega))).trans (k2 n hn)) ⟨?_, ?_, ?_, ?_, trivial⟩
  · exact wset_at f3
  · rw [wset_ne (by omega), app_lt (by omega)]; exact a2
  · rw [wset_ne (by omega), app_lt (by omega)]; exact b2
  · rw [wset_ne (by omega)]; exact app_at l2
theorem kloop (cR cF cE : Addr) {ex : EX} {P : EndP} {l : Tx} {b : Nat} (hl : l.length ≤ 7000) : ∀ (ts : List Tok3) (s : RS) (n : Nat) (ids : List Nat) (W : Sto) (s2 : Sl), RdOk cR cF b ids s W → Sm s n → (∀ t ∈ ts, TokOk l t) → n + 3 * ts.length ≤ 30000 →
    (match takeAll l ts s with
      | .error e => ∀ s2 W', ex (xcR cE e) ⟨[.pa (.im (.str (S l))), .lo (.im (.obj b)), s2], W'⟩
      | .ok s' => ∀ W' ids' s2, Kp b W W' → RdOk cR cF b ids' s' W' → P.nx ⟨[.pa (.im (.str (S l))), .lo (.im (.obj b)), s2], W'⟩) →
    loopS (.one 2) (b_taken_1 (F_rinit cR cF) F_toks (F_tk cR cF cE) cR cE ex) (fun _ => True) P (ts.map tkD) ⟨[.pa (.im (.str (S l))), .lo (.im (.obj b)), s2], W⟩ := by
  have hs : (S l).length ≤ sizeLine := by rw [S_len]; exact szLine (by omega)
  intro ts
  induction ts with
  | nil => intro s n ids W s2 h sm ht hn q; exact ⟨trivial, q W ids s2 Kp.refl h⟩
  | cons t ts ih =>
    intro s n ids W s2 h sm ht hn q
    rw [List.length_cons] at hn
    rw [List.map_cons]
    refine loop_step trivial fun L hL => ?_
    unfold b_taken_1
    walk_at "y"
    simp only [h.rd, rdD]
    refine ⟨trivial, nm_take, by first | exact trivial | rfl, by simp, b, n, l, t, ids, s, rfl, hl, ht t List.mem_cons_self, h, sm, by omega, ?_⟩
    unfold takeAll at q
    cases e : takeF l s t with
    | error x => rw [e] at q; exact fun W' => q _ W'
    | ok s1 =>
      rw [e] at q
      intro W1 fin ids1 kp h1
      refine ⟨rfl, ?_⟩
      (try walk_at "y")
      rw [hL]
      refine ih s1 (n + 3) ids1 W1 _ h1 (take_sm sm e) (fun t' ht' => ht t' (List.mem_cons_of_mem _ ht')) (by omega) ?_
      dsimp only at q
      cases e2 : takeAll l ts s1 with
      | error x => rw [e2] at q; exact q
      | ok s2 => rw [e2] at q; exact fun W' ids' s3 kp2 h2 => q W' ids' s3 (kp.trans kp2) h2
def F_taken (cR cF cE : Addr) : TF := fun ms W G Gx => ∃ l : Tx, ms = [.im (.str (S l))] ∧ l.length ≤ 1000000 ∧ Uni l ∧
  match readM l with
  | .error e => ∀ W', Gx (xcR cE e) W'
  | .ok s => ∀ W' fin b ids, Kp W.length W W' → RdOk cR cF b ids s W' → G (.im (.obj b)) fin W'
theorem body_taken (cR cF cE : Addr) : Body (F_taken cR cF cE) 3 1 fun ex => t_taken (F_rinit cR cF) F_toks (F_tk cR cF cE) cR cE ex := by
  rintro ms W G Gx hl ⟨l, rfl, hll, hu, q⟩
  show t_taken _ _ _ _ _ _ _ ⟨[Sl.pa (.im (.str (S l))), .no, .no], W⟩
  have hs : (S l).length ≤ sizeLine := by rw [S_len]; exact szLine (by omega)
  unfold t_taken
  walk_at "n"
  refine ⟨hs, ?_⟩
  rw [S_len]
  unfold readM at q
  by_cases k1 : 6000 < l.length
  · rw [if_pos k1] at q
    rw [if_pos (by simp; omega)]
    exact ⟨rfl, q _⟩
  rw [if_neg k1] at q
  rw [if_neg (by simp; omega)]
  subst hR
  walk_at "n"
  have f0 : (W ++ [Ob.ins cR []])[W.length]? = some (.ins cR []) := app_at rfl
  refine ⟨rfl, .nil, W.length, rfl, f0, by simp, fun W1 fin1 kp1 h1 => ⟨rfl, ?_⟩⟩
  have kp1' : Kp W.length W W1 := fun n hn => (kp1 n hn).trans (app_lt hn)
  subst hR
  walk_at "n"
  refine ⟨rfl, .nil, l, rfl, by omega, hu, fun fin2 => ⟨rfl, ?_⟩⟩
  walk_at "y"
  refine kloop cR cF cE (by omega) (toksOf l) ⟨[], [], []⟩ 0 [] W1 _ h1 ⟨by simp, by simp, fun f hf => (by cases hf), by simp⟩ (toks_ok l) (by have := lex_len (l.length + 1) 0 l; unfold toksOf; omega) ?_
  cases e : takeAll l (toksOf l) ⟨[], [], []⟩ with
  | error x => rw [e] at q; exact fun s2 W' => q W'
  | ok s' =>
    rw [e] at q
    dsimp only at q
    intro W' ids' s2 kp2 h2
    show R _
    subst hR
    walk_at "n"
    simp only [h2.rd, rdD, lk_pending, h2.pe]
    refine ⟨trivial, ?_⟩
    have hfl := h2.fr.len
    by_cases k2 : s'.pend = []
    · rw [if_pos k2] at q
      have e3 : ids' = [] := by rw [k2] at hfl; exact List.length_eq_zero_iff.mp hfl
      rw [if_neg (by simp [e3])]
      subst hR
      walk_at "y"
      exact q _ _ _ ids' (kp1'.trans kp2) h2
    · rw [if_neg k2] at q
      have e3 : ids' ≠ [] := fun z => k2 (by rw [z] at hfl; exact List.length_eq_zero_iff.mp hfl.symm)
      rw [if_pos (by simp [e3])]
      refine ⟨hs, by first | exact trivial | rfl, ?_⟩
      rw [S_len]
      exact q _
def F_read (cR cF cE : Addr) : TF := fun ms W G Gx => ∃ l : Tx, ms = [.im (.str (S l))] ∧ l.length ≤ 1000000 ∧ Uni l ∧
  match readM l with
  | .error e => ∀ W', Gx (xcR cE e) W'
  | .ok s => ∀ W' fin, Kp W.length W W' → G (.im (.tup s.forms)) fin W'
theorem body_read (cR cF cE : Addr) : Body (F_read cR cF cE) 1 1 fun ex => t_read (F_taken cR cF cE) cR ex := by
  rintro ms W G Gx hl ⟨l, rfl, hll, hu, q⟩
  show t_read _ _ _ _ ⟨[Sl.pa (.im (.str (S l)))], W⟩
  unfold t_read
  walk_at "y"
  refine ⟨rfl, .nil, l, rfl, hll, hu, ?_⟩
  cases e : readM l with
  | error x => rw [e] at q; exact fun W' => q W'
  | ok s =>
    rw [e] at q
    intro W1 fin b ids kp h
    refine ⟨rfl, ?_⟩
    simp only [h.rd, rdD, lk_forms, h.fo]
    exact ⟨trivial, q _ _ kp⟩
def F_offs (cR cF cE : Addr) : TF := fun ms W G Gx => ∃ l : Tx, ms = [.im (.str (S l))] ∧ l.length ≤ 1000000 ∧ Uni l ∧
  match readM l with
  | .error e => ∀ W', Gx (xcR cE e) W'
  | .ok s => ∀ W' fin, Kp W.length W W' → G (.ls (natsD s.starts)) fin W'
theorem body_offs (cR cF cE : Addr) : Body (F_offs cR cF cE) 1 1 fun ex => t_offsets (F_taken cR cF cE) cR ex := by
  rintro ms W G Gx hl ⟨l, rfl, hll, hu, q⟩
  show t_offsets _ _ _ _ ⟨[Sl.pa (.im (.str (S l)))], W⟩
  unfold t_offsets
  walk_at "y"
  refine ⟨rfl, .nil, l, rfl, hll, hu, ?_⟩
  cases e : readM l with
  | error x => rw [e] at q; exact fun W' => q W'
  | ok s =>
    rw [e] at q
    intro W1 fin b ids kp h
    refine ⟨rfl, ?_⟩
    simp only [h.rd, rdD, lk_starts, h.st]
    exact ⟨trivial, q _ _ kp⟩
end Y
namespace Y
set_option hygiene false
open PySem PySem.Spec L2 SX
local macro_rules | `(tactic| walk_at "y") => `(tactic| dsimp only [tGet2, ex0, exB, endB, envOf, Env.set, Env.put, Env.stSet, Env.push, tFldY, sFldY, tMtE, tMethY, tMakeY, callF, tPub, pub, M.ob?, Ob.vw, Ob.toM, sSetE, tMaxD, gIntS, sRaise, sTry, sTryAs, endN, tXfY, tSm, gFind, gJoin, gStr, gStarts, List.zip_cons_cons, List.zip_nil_left, List.reverse_cons, List.reverse_nil, TF.calm, gx0, putFD, tCallV, tCallL, capt, gLtD, gSum, gMax, gSorted2, sNil, sBk, sCt, sDrop, sIf, asg, sAsg, sRet, sRetN, tIm, tNm, tBin, w2, vw, Sl.m?, tTst, tTru, M.tru, tAndQ, tOrQ, tNotQ, tAndX, tOrX, tNotX, tIfX, lNil, lCons, tOn, fInD, fIxD, tGet1, vwD, getOr, M.isD, sPar2, tLc2X, compL2, tChn, tFrz, froz, tTp, tLs, tCl, vws, tMt, Sl.m!, Sl.up, M.res, gLen, gInt, gAdd, gSub, gMul, gMulS, gDiv, gMod, gPow, gII, gI0, gEqs, gEqs2, gIx, gPop, gApp, gRev, gExt, gTuple, gList, gDict, gIs, gIsi, gAll, gIns, gSorted, gSl, M.lq?, M.lst?, M.sq?, M.dat?, M.isNon, gLt, gLe, gGt, gGe, sFor, iSeq, srcOf, iEnm, enmOf, iRg1, iRg2, bnd, setAll, backS, Sl.isP, tSlc, pNo, pSo, sSetI, hasM, setM, tDspK, tDspT, pairG, D.key?, D.keys?, D.tkey?, putAll, tNewK, tNewT, tNeg, sUnp, tCall, argMs, argM, argS, slots, putB, stepB, putS_lo_ls_ls, putS_lo_ls_dk, putS_lo_ls_dt, putS_lo_ls_no, putS_pa_ls_ls, putS_pa_ls_dk, putS_pa_ls_dt, putS_pa_ls_no, putS_lo_rd_ls, putS_lo_rd_dk, putS_lo_rd_dt, putS_lo_rd_no, putS_pa_rd_ls, putS_pa_rd_dk, putS_pa_rd_dt, putS_pa_rd_no, putS_lo_dk_ls, putS_lo_dk_dk, putS_lo_dk_dt, putS_lo_dk_no, putS_pa_dk_ls, putS_pa_dk_dk, putS_pa_dk_dt, putS_pa_dk_no, putS_lo_dt_ls, putS_lo_dt_dk, putS_lo_dt_dt, putS_lo_dt_no, putS_pa_dt_ls, putS_pa_dt_dk, putS_pa_dt_dt, putS_pa_dt_no, putS_lo_im, putS_lo_sq, putS_pa_im, putS_pa_sq, M.own, M.fit, fins, Sl.fin, envOf, tLcX, compL, wipeE, restE, keepS, qYes, kD, dGet, List.getElem?_cons_zero, List.getElem?_cons_succ, List.getElem?_nil, List.set_cons_zero, List.set_cons_succ, List.map_cons, List.map_nil, List.take_succ_cons, List.take_zero, List.length_cons, List.length_nil, List.head?_cons, List.tail_cons, Option.join_some, List.cons_append, List.nil_append, List.replicate])
local macro_rules | `(tactic| walk_at "n") => `(tactic| ((try dsimp only); refine seq_step fun R hR => ?_; walk_at "y"))
local macro_rules | `(tactic| walk_at "i") => `(tactic| simp only [Bool.false_xor, Bool.true_xor, Bool.not_true, Bool.not_false, Bool.false_eq_true, reduceIte, isiT, M.ty, String.reduceBEq, Bool.or_false, Bool.false_or, Bool.and_false, Bool.and_true, Bool.true_and, Bool.false_and, Bool.or_true, List.mem_cons, true_or, or_true, true_and, and_true, String.reduceEq, decide_true, decide_false])
local macro_rules | `(tactic| walk_at "s") => `(tactic| (subst hR; walk_at "n"))
local macro_rules | `(tactic| walk_at "z") => `(tactic| (simp only [List.map_cons, List.map_nil, atI_c0, atI_c1, atI_c2, atI_c3, atI_c4, atI_c5]; (try walk_at "y")))
local macro_rules | `(tactic| walk_at "e") => `(tactic| repeat (first | rw [if_pos (by decide +kernel)] | rw [if_neg (by decide +kernel)]))
def DrawsOk (ds : List Int) : Prop := ∀ d ∈ ds, 0 ≤ d ∧ d < 1000
def F_take : TF := fun ms W G Gx => ∃ (ds : List Int) (lim : Int), ms = [.ls (ds.map D.int), .im (.int lim)] ∧ 0 < lim ∧ DrawsOk ds ∧
  ∀ (r : Int) (ds' : List Int), 0 ≤ r → r < lim → DrawsOk ds' → ds'.length ≤ ds.length → G (.im (.int r)) [some (.ls (ds'.map D.int)), some (.im (.int lim))] W
theorem body_take : Body F_take 2 2 fun _ => t__law_take := by
  rintro ms W G Gx hl ⟨ds, lim, rfl, h0, hd, q⟩
  show t__law_take _ ⟨[Sl.pa (.ls (ds.map D.int)), Sl.pa (.im (.int lim))], W⟩
  unfold t__law_take
  walk_at "n"
  rw [Bool.false_xor, List.length_map]
  by_cases e : ds = []
  · subst e
    rw [if_pos (by rfl)]
    exact q 0 [] (by omega) h0 hd (Nat.le_refl _)
  · rw [if_neg (by cases ds with | nil => exact absurd rfl e | cons a t => simp; omega)]
    obtain ⟨d, hdl⟩ : ∃ d, ds.getLast? = some d := ⟨_, List.getLast?_eq_some_getLast e⟩
    subst hR
    walk_at "y"
    refine ⟨trivial, ?_⟩
    rw [List.getLast?_map, hdl, List.map_dropLast.symm]
    have hm := Int.emod_nonneg d (b := lim) (by omega)
    have hm2 := Int.emod_lt_of_pos d h0
    refine ⟨h0, q _ ds.dropLast hm hm2 (fun x hx => hd x (List.dropLast_subset _ hx)) (by simp)⟩
theorem DrawsOk.snoc {ds : List Int} (h : DrawsOk ds) (x : Int) : DrawsOk (ds ++ [x % 1000]) := fun d hd => by
  rcases List.mem_append.mp hd with hd | hd
  · exact h d hd
  · rw [List.mem_singleton.mp hd]; exact ⟨Int.emod_nonneg _ (by omega), Int.emod_lt_of_pos _ (by omega)⟩
theorem loop_draws {P : EndP} {W : Sto} {ns : List Int} {a : M} : ∀ (n : Nat) (lo : Int) (cells found : List Int) (mixed : Int) (s5 s6 s7 s8 : Sl), 0 ≤ lo → lo + n ≤ 1000 → cells ≠ [] → cells.length ≤ 1000000 → DrawsOk found → found.length = lo → 0 ≤ mixed → mixed < 2147483647 →
    (∀ (cells' found' : List Int) (mixed' : Int) (s5 s6 s7 s8 : Sl), DrawsOk found' → found'.length = lo + n → P.nx ⟨[Sl.pa (.sq (ns.map D.int)), Sl.pa a, .lo (.ls (cells'.map D.int)), .lo (.ls (found'.map D.int)), .lo (.im (.int mixed')), s5, s6, s7, s8], W⟩) →
    loopS (.one 5) b__law_draws_1 (fun _ => True) P (gRng lo n) ⟨[Sl.pa (.sq (ns.map D.int)), Sl.pa a, .lo (.ls (cells.map D.int)), .lo (.ls (found.map D.int)), .lo (.im (.int mixed)), s5, s6, s7, s8], W⟩ := by
  intro n
  induction n with
  | zero =>
    intro lo cells found mixed s5 s6 s7 s8 h1 h2 h3 h4 h5 h6 h7 h8 q
    exact ⟨trivial, q cells found mixed s5 s6 s7 s8 h5 (by omega)⟩
  | succ n ih =>
    intro lo cells found mixed s5 s6 s7 s8 h1 h2 h3 h4 h5 h6 h7 h8 q
    rw [gRng_succ]
    refine loop_step trivial fun L hL => ?_
    have hlen : 0 < (cells.length : Int) := by have := List.length_pos_iff.mpr h3; omega
    have m1 := Int.emod_nonneg lo (b := (cells.length : Int)) (by omega)
    have m2 := Int.emod_lt_of_pos lo hlen
    unfold b__law_draws_1
    walk_at "y"
    walk_at "n"
    rw [List.length_map]
    refine ⟨hlen, ?_⟩
    subst hR
    walk_at "n"
    obtain ⟨cc, hc, _⟩ := atI_ok m1 m2
    rw [atI_map, hc]
    subst hR
    walk_at "n"
    refine ⟨cMul (by omega) (by omega), by omega, cMul (by have := Int.emod_nonneg cc (b := 1000003) (by omega); have := Int.emod_lt_of_pos cc (b := 1000003) (by omega); omega) (by omega), cMul (by omega) (by omega), by omega, ?_⟩
    generalize hm : (mixed * 48271 + cc % 1000003 * 69621 + lo * 7919 + 11) % 2147483647 = mx
    have x1 : 0 ≤ mx := by rw [← hm]; exact Int.emod_nonneg _ (by omega)
    have x2 : mx < 2147483647 := by rw [← hm]; exact Int.emod_lt_of_pos _ (by omega)
    subst hR
    walk_at "n"
    refine ⟨cMul (by omega) (by omega), cMul (by omega) (by omega), by omega, ?_⟩
    generalize (mx * mx + 31 * mx + lo) % 1000003 = ag
    subst hR
    walk_at "y"
    refine ⟨⟨by omega, by decide, by decide⟩, ?_⟩
    have hfl : (found.map D.int).length < sizeLine := by rw [List.length_map, sizeLine_eq]; omega
    have fin : ∀ (cs : List Int) (y : Int), cs.length = cells.length → L ⟨[Sl.pa (.sq (ns.map D.int)), Sl.pa a, .lo (.ls (cs.map D.int)), .lo (.ls (found.map D.int ++ [D.int (y % 1000)])), .lo (.im (.int mx)), .lo (.im (.int lo)), .lo (.im (.int (lo % ↑cells.length))), .lo (.im (.int cc)), .lo (.im (.int ag))], W⟩ := fun cs y hcs => by
      rw [hL, show found.map D.int ++ [D.int (y % 1000)] = (found ++ [y % 1000]).map D.int by simp]
      refine ih (lo + 1) cs (found ++ [y % 1000]) mx _ _ _ _ (by omega) (by omega) (fun z => by rw [z] at hcs; simp at hcs; omega) (by omega) (h5.snoc y) (by simp; omega) x1 x2 fun c' f' m' t5 t6 t7 t8 d1 d2 => q c' f' m' t5 t6 t7 t8 d1 (by omega)
    split
    · walk_at "n"
      refine ⟨trivial, by omega, hfl, ?_⟩
      subst hR
      walk_at "y"
      refine ⟨cDiv (by omega), trivial, ?_⟩
      rw [List.length_map, ixN_ok m1 m2]
      walk_at "y"
      rw [← List.map_set]
      exact fin _ cc (by simp)
    · exact ⟨trivial, by omega, hfl, fin cells ag rfl⟩
def F_draws : TF := fun ms W G Gx => ∃ (ns : List Int) (n : Nat), ms = [.sq (ns.map D.int), .im (.int n)] ∧ n ≤ 1000 ∧ ns.length ≤ 1000000 ∧
  ∀ (ds' : List Int), DrawsOk ds' → ds'.length = n → G (.ls (ds'.map D.int)) [some (.sq (ns.map D.int)), some (.im (.int n))] W
theorem body_draws : Body F_draws 9 2 fun _ => t__law_draws := by
  rintro ms W G Gx hl ⟨ns, n, rfl, hn, hl, q⟩
  show t__law_draws _ ⟨[Sl.pa (.sq (ns.map D.int)), Sl.pa (.im (.int n)), .no, .no, .no, .no, .no, .no, .no], W⟩
  unfold t__law_draws
  walk_at "n"
  subst hR
  walk_at "n"
  have go : ∀ cells : List Int, cells ≠ [] → cells.length ≤ 1000000 → R ⟨[Sl.pa (.sq (ns.map D.int)), Sl.pa (.im (.int n)), .lo (.ls (cells.map D.int)), .no, .no, .no, .no, .no, .no], W⟩ := by
    intro cells hc hcl
    subst hR
    walk_at "n"
    refine ⟨by rw [sizeLine_eq]; omega, ?_⟩
    subst hR
    walk_at "n"
    subst hR
    walk_at "n"
    refine ⟨by omega, by omega, ?_⟩
    refine loop_draws (found := []) _ _ cells 12345 _ _ _ _ (by omega) (by omega) hc hcl (fun d hd => by cases hd) rfl (by omega) (by omega) fun c' f' m' t5 t6 t7 t8 d1 d2 => ?_
    subst hR
    walk_at "n"
    refine ⟨trivial, ?_⟩
    subst hR
    walk_at "y"
    rw [← List.map_reverse]
    exact q _ (fun d hd => d1 d (List.mem_reverse.mp hd)) (by simp at d2 ⊢; omega)
  split
  · exact ⟨by rw [sizeLine_eq]; omega, go [7] (by simp) (by simp)⟩
  · rename_i hz
    exact go ns (fun e => hz (by rw [e]; rfl)) hl
end Y
namespace Y
set_option hygiene false
open PySem PySem.Spec L2 SX
local macro_rules | `(tactic| walk_at "y") => `(tactic| dsimp only [tGet2, ex0, exB, endB, envOf, Env.set, Env.put, Env.stSet, Env.push, tFldY, sFldY, tMtE, tMethY, tMakeY, callF, tPub, pub, M.ob?, Ob.vw, Ob.toM, sSetE, tMaxD, gIntS, sRaise, sTry, sTryAs, endN, tXfY, tSm, gFind, gJoin, gStr, gStarts, List.zip_cons_cons, List.zip_nil_left, List.reverse_cons, List.reverse_nil, TF.calm, gx0, putFD, tCallV, tCallL, capt, gLtD, gSum, gMax, gSorted2, sNil, sBk, sCt, sDrop, sIf, asg, sAsg, sRet, sRetN, tIm, tNm, tBin, w2, vw, Sl.m?, tTst, tTru, M.tru, tAndQ, tOrQ, tNotQ, tAndX, tOrX, tNotX, tIfX, lNil, lCons, tOn, fInD, fIxD, tGet1, vwD, getOr, M.isD, sPar2, tLc2X, compL2, tChn, tFrz, froz, tTp, tLs, tCl, vws, tMt, Sl.m!, Sl.up, M.res, gLen, gInt, gAdd, gSub, gMul, gMulS, gDiv, gMod, gPow, gII, gI0, gEqs, gEqs2, gIx, gPop, gApp, gRev, gExt, gTuple, gList, gDict, gIs, gIsi, gAll, gIns, gSorted, gSl, M.lq?, M.lst?, M.sq?, M.dat?, M.isNon, gLt, gLe, gGt, gGe, sFor, iSeq, srcOf, iEnm, enmOf, iRg1, iRg2, bnd, setAll, backS, Sl.isP, tSlc, pNo, pSo, sSetI, hasM, setM, tDspK, tDspT, pairG, D.key?, D.keys?, D.tkey?, putAll, tNewK, tNewT, tNeg, sUnp, tCall, argMs, argM, argS, slots, putB, stepB, putS_lo_ls_ls, putS_lo_ls_dk, putS_lo_ls_dt, putS_lo_ls_no, putS_pa_ls_ls, putS_pa_ls_dk, putS_pa_ls_dt, putS_pa_ls_no, putS_lo_rd_ls, putS_lo_rd_dk, putS_lo_rd_dt, putS_lo_rd_no, putS_pa_rd_ls, putS_pa_rd_dk, putS_pa_rd_dt, putS_pa_rd_no, putS_lo_dk_ls, putS_lo_dk_dk, putS_lo_dk_dt, putS_lo_dk_no, putS_pa_dk_ls, putS_pa_dk_dk, putS_pa_dk_dt, putS_pa_dk_no, putS_lo_dt_ls, putS_lo_dt_dk, putS_lo_dt_dt, putS_lo_dt_no, putS_pa_dt_ls, putS_pa_dt_dk, putS_pa_dt_dt, putS_pa_dt_no, putS_lo_im, putS_lo_sq, putS_pa_im, putS_pa_sq, M.own, M.fit, fins, Sl.fin, envOf, tLcX, compL, wipeE, restE, keepS, qYes, kD, dGet, List.getElem?_cons_zero, List.getElem?_cons_succ, List.getElem?_nil, List.set_cons_zero, List.set_cons_succ, List.map_cons, List.map_nil, List.take_succ_cons, List.take_zero, List.length_cons, List.length_nil, List.head?_cons, List.tail_cons, Option.join_some, List.cons_append, List.nil_append, List.replicate])
local macro_rules | `(tactic| walk_at "n") => `(tactic| ((try dsimp only); refine seq_step fun R hR => ?_; walk_at "y"))
local macro_rules | `(tactic| walk_at "i") => `(tactic| simp only [Bool.false_xor, Bool.true_xor, Bool.not_true, Bool.not_false, Bool.false_eq_true, reduceIte, isiT, M.ty, String.reduceBEq, Bool.or_false, Bool.false_or, Bool.and_false, Bool.and_true, Bool.true_and, Bool.false_and, Bool.or_true, List.mem_cons, true_or, or_true, true_and, and_true, String.reduceEq, decide_true, decide_false])
local macro_rules | `(tactic| walk_at "s") => `(tactic| (subst hR; walk_at "n"))
local macro_rules | `(tactic| walk_at "z") => `(tactic| (simp only [List.map_cons, List.map_nil, atI_c0, atI_c1, atI_c2, atI_c3, atI_c4, atI_c5]; (try walk_at "y")))
local macro_rules | `(tactic| walk_at "e") => `(tactic| repeat (first | rw [if_pos (by decide +kernel)] | rw [if_neg (by decide +kernel)]))
mutual
def D.sane : Nat → D → Bool
  | 0, _ => false
  | _ + 1, .raw _ => false
  | _ + 1, .obj _ => false
  | _ + 1, .fnv _ _ _ _ _ => false
  | n + 1, .tup ds => decide (ds.length ≤ 100000) && D.sanes n ds
  | n + 1, .lst ds => decide (ds.length ≤ 100000) && D.sanes n ds
  | _ + 1, _ => true
def D.sanes : Nat → List D → Bool
  | _, [] => true
  | n, d :: ds => D.sane n d && D.sanes n ds
end
theorem D.sanes_all (n : Nat) : ∀ ds : List D, D.sanes n ds = ds.all (D.sane n)
  | [] => rfl
  | d :: ds => by simp only [D.sanes, List.all_cons]; rw [D.sanes_all n ds]
def F_same (n : Nat) : TF := fun ms W G Gx => ∃ m, ms = [m, m] ∧ (match m with
  | .im d => D.sane n d = true
  | .ls ds => D.sane n (.lst ds) = true
  | _ => False) ∧ ∀ fin, G (.im (.bl true)) fin W
theorem bls_rep : ∀ n : Nat, D.bls? (List.replicate n (.bl true)) = some (List.replicate n true)
  | 0 => rfl
  | n + 1 => by rw [List.replicate_succ, List.replicate_succ]; unfold D.bls?; rw [bls_rep n]; rfl
theorem same_comp {W : Sto} {n : Nat} {m : M} {ds : List D} {k : List D → Env → Prop} (hm : (∃ d, m = .im (.tup d)) ∨ (∃ d, m = .im (.lst d)) ∨ ∃ ds, m = .ls ds) (hix : ∀ (i : Int) x (G : M → Prop), atI ds i = some x → G (.im x) → gIx m (.im (.int i)) G) (hs : ∀ x ∈ ds, D.sane n x = true) (hl : ds.length ≤ 100000)
    (q : k (List.replicate ds.length (.bl true)) ⟨[Sl.pa m, Sl.pa m, .no], W⟩) : ∀ (j lo : Nat), lo + j = ds.length →
    compL (.one 2) qYes (tCall ex0 (F_same n) 2 (lCons (tBin gIx (tNm 0) (tNm 2)) (lCons (tBin gIx (tNm 1) (tNm 2)) lNil))) [2] (fun _ => True) k (gRng lo j) (List.replicate lo (.bl true)) ⟨[Sl.pa m, Sl.pa m, .no], W⟩ := by
  intro j
  induction j with
  | zero =>
    intro lo e
    rw [← e] at q
    exact ⟨trivial, q⟩
  | succ j ih =>
    intro lo e
    rw [gRng_succ]
    refine comp_step trivial fun L hL => ?_
    obtain ⟨x, hx, hx2⟩ := atI_ok (xs := ds) (i := (lo : Int)) (by omega) (by omega)
    have mem : x ∈ ds := List.mem_of_getElem? hx2
    dsimp only [bnd, qYes, List.set_cons_succ, List.set_cons_zero]
    rw [if_pos rfl]
    have go : tFrz (lCons (tCall ex0 (F_same n) 2 (lCons (tBin gIx (tNm 0) (tNm 2)) (lCons (tBin gIx (tNm 1) (tNm 2)) lNil))) lNil) (fun xs ρ3 => match xs with
      | [x] => (List.replicate lo (D.bl true)).length < sizeLine ∧ L (List.replicate lo (D.bl true) ++ [x]) (wipeE ρ3 [2])
      | _ => False) ⟨[Sl.pa m, Sl.pa m, .lo (.im (.int lo))], W⟩ := by
      have fin : (List.replicate lo (D.bl true)).length < sizeLine ∧ L (List.replicate lo (D.bl true) ++ [.bl true]) ⟨[Sl.pa m, Sl.pa m, .no], W⟩ := by
        refine ⟨by simp [sizeLine_eq]; omega, ?_⟩
        rw [← List.replicate_succ', hL]
        exact ih (lo + 1) (by omega)
      rcases hm with ⟨d, rfl⟩ | ⟨d, rfl⟩ | ⟨es, rfl⟩
      · dsimp only [tFrz, lCons, tCall, tBin, tNm, w2, vw, Sl.m?, List.getElem?_cons_zero, List.getElem?_cons_succ, lNil]
        refine hix _ x _ hx (hix _ x _ hx ?_)
        exact ⟨rfl, List.nodup_nil, .im x, rfl, hs x mem, fun _ => ⟨rfl, fin⟩⟩
      · dsimp only [tFrz, lCons, tCall, tBin, tNm, w2, vw, Sl.m?, List.getElem?_cons_zero, List.getElem?_cons_succ, lNil]
        refine hix _ x _ hx (hix _ x _ hx ?_)
        exact ⟨rfl, List.nodup_nil, .im x, rfl, hs x mem, fun _ => ⟨rfl, fin⟩⟩
      · dsimp only [tFrz, lCons, tCall, tBin, tNm, w2, vw, Sl.m?, List.getElem?_cons_zero, List.getElem?_cons_succ, lNil]
        refine hix _ x _ hx (hix _ x _ hx ?_)
        exact ⟨rfl, List.nodup_nil, .im x, rfl, hs x mem, fun _ => ⟨rfl, fin⟩⟩
    exact go
theorem all_rep (n : Nat) : (List.replicate n true).all id = true := by simp
theorem body_same (n : Nat) : Body (F_same (n + 1)) 3 2 fun _ => t__law_same (F_same n) := by
  rintro ms W G Gx hl ⟨m, rfl, hm, q⟩
  show t__law_same _ _ ⟨[Sl.pa m, Sl.pa m, .no], W⟩
  unfold t__law_same
  have o1 : ∀ b, D.ok 64 (.bl b) = true := fun b => rfl
  have e1 : ∀ b, (!(D.bl b).eqv (D.bl b)) = false := fun b => by cases b <;> rfl
  cases m with
  | im d =>
    cases d with
    | non =>
      walk_at "n"
      walk_at "i"
      exact q _
    | bl b =>
      walk_at "n"; walk_at "i"
      walk_at "s"; walk_at "i"
      rw [show (D.bl b).eqv (D.bl b) = true by cases b <;> rfl]
      exact ⟨o1 _, o1 _, q _⟩
    | int i =>
      walk_at "n"; walk_at "i"
      walk_at "s"; walk_at "i"
      walk_at "s"; walk_at "i"
      exact q _
    | str z =>
      walk_at "n"; walk_at "i"
      walk_at "s"; walk_at "i"
      walk_at "s"; walk_at "i"
      walk_at "s"; walk_at "i"
      exact q _
    | tup ds =>
      simp only [D.sane, D.sanes_all, Bool.and_eq_true, decide_eq_true_eq, List.all_eq_true] at hm
      walk_at "n"; walk_at "i"
      walk_at "s"; walk_at "i"
      walk_at "s"; walk_at "i"
      walk_at "s"; walk_at "i"
      walk_at "s"; walk_at "i"
      subst hR; walk_at "y"
      refine ⟨o1 _, o1 _, ?_⟩
      rw [if_neg (by rw [e1]; decide)]
      refine ⟨o1 _, o1 _, ?_⟩
      rw [if_neg (by rw [e1]; decide), if_pos (by simp)]
      refine ⟨by omega, by omega, ?_⟩
      exact same_comp (m := .im (.tup ds)) (.inl ⟨_, rfl⟩) (fun i x G h g => by dsimp only [gIx]; rw [h]; exact g) hm.2 hm.1 (by
        walk_at "y"
        rw [bls_rep]; dsimp only; rw [all_rep]
        exact q _) _ 0 (by simp)
    | lst ds =>
      simp only [D.sane, D.sanes_all, Bool.and_eq_true, decide_eq_true_eq, List.all_eq_true] at hm
      walk_at "n"; walk_at "i"
      walk_at "s"; walk_at "i"
      walk_at "s"; walk_at "i"
      walk_at "s"; walk_at "i"
      walk_at "s"; walk_at "i"
      subst hR; walk_at "y"
      refine ⟨o1 _, o1 _, ?_⟩
      rw [if_neg (by rw [e1]; decide)]
      refine ⟨o1 _, o1 _, ?_⟩
      rw [if_neg (by rw [e1]; decide), if_pos (by simp)]
      refine ⟨by omega, by omega, ?_⟩
      exact same_comp (m := .im (.lst ds)) (.inr (.inl ⟨_, rfl⟩)) (fun i x G h g => by dsimp only [gIx, M.lq?]; rw [h]; exact g) hm.2 hm.1 (by
        walk_at "y"
        rw [bls_rep]; dsimp only; rw [all_rep]
        exact q _) _ 0 (by simp)
    | raw v => simp [D.sane] at hm
    | obj v => simp [D.sane] at hm
    | fnv _ _ _ _ _ => simp [D.sane] at hm
  | ls ds =>
    simp only [D.sane, D.sanes_all, Bool.and_eq_true, decide_eq_true_eq, List.all_eq_true] at hm
    walk_at "n"; walk_at "i"
    walk_at "s"; walk_at "i"
    walk_at "s"; walk_at "i"
    walk_at "s"; walk_at "i"
    walk_at "s"; walk_at "i"
    subst hR; walk_at "y"
    refine ⟨o1 _, o1 _, ?_⟩
    rw [if_neg (by rw [e1]; decide)]
    refine ⟨o1 _, o1 _, ?_⟩
    rw [if_neg (by rw [e1]; decide), if_pos (by simp)]
    refine ⟨by omega, by omega, ?_⟩
    exact same_comp (m := .ls ds) (.inr (.inr ⟨_, rfl⟩)) (fun i x G h g => by dsimp only [gIx, M.lq?]; rw [h]; exact g) hm.2 hm.1 (by
      walk_at "y"
      rw [bls_rep]; dsimp only; rw [all_rep]
      exact q _) _ 0 (by simp)
  | _ => exact hm.elim
end Y
namespace Y
set_option hygiene false
open PySem PySem.Spec L2 SX
local macro_rules | `(tactic| walk_at "y") => `(tactic| dsimp only [tGet2, ex0, exB, endB, envOf, Env.set, Env.put, Env.stSet, Env.push, tFldY, sFldY, tMtE, tMethY, tMakeY, callF, tPub, pub, M.ob?, Ob.vw, Ob.toM, sSetE, tMaxD, gIntS, sRaise, sTry, sTryAs, endN, tXfY, tSm, gFind, gJoin, gStr, gStarts, List.zip_cons_cons, List.zip_nil_left, List.reverse_cons, List.reverse_nil, TF.calm, gx0, putFD, tCallV, tCallL, capt, gLtD, gSum, gMax, gSorted2, sNil, sBk, sCt, sDrop, sIf, asg, sAsg, sRet, sRetN, tIm, tNm, tBin, w2, vw, Sl.m?, tTst, tTru, M.tru, tAndQ, tOrQ, tNotQ, tAndX, tOrX, tNotX, tIfX, lNil, lCons, tOn, fInD, fIxD, tGet1, vwD, getOr, M.isD, sPar2, tLc2X, compL2, tChn, tFrz, froz, tTp, tLs, tCl, vws, tMt, Sl.m!, Sl.up, M.res, gLen, gInt, gAdd, gSub, gMul, gMulS, gDiv, gMod, gPow, gII, gI0, gEqs, gEqs2, gIx, gPop, gApp, gRev, gExt, gTuple, gList, gDict, gIs, gIsi, gAll, gIns, gSorted, gSl, M.lq?, M.lst?, M.sq?, M.dat?, M.isNon, gLt, gLe, gGt, gGe, sFor, iSeq, srcOf, iEnm, enmOf, iRg1, iRg2, bnd, setAll, backS, Sl.isP, tSlc, pNo, pSo, sSetI, hasM, setM, tDspK, tDspT, pairG, D.key?, D.keys?, D.tkey?, putAll, tNewK, tNewT, tNeg, sUnp, tCall, argMs, argM, argS, slots, putB, stepB, putS_lo_ls_ls, putS_lo_ls_dk, putS_lo_ls_dt, putS_lo_ls_no, putS_pa_ls_ls, putS_pa_ls_dk, putS_pa_ls_dt, putS_pa_ls_no, putS_lo_rd_ls, putS_lo_rd_dk, putS_lo_rd_dt, putS_lo_rd_no, putS_pa_rd_ls, putS_pa_rd_dk, putS_pa_rd_dt, putS_pa_rd_no, putS_lo_dk_ls, putS_lo_dk_dk, putS_lo_dk_dt, putS_lo_dk_no, putS_pa_dk_ls, putS_pa_dk_dk, putS_pa_dk_dt, putS_pa_dk_no, putS_lo_dt_ls, putS_lo_dt_dk, putS_lo_dt_dt, putS_lo_dt_no, putS_pa_dt_ls, putS_pa_dt_dk, putS_pa_dt_dt, putS_pa_dt_no, putS_lo_im, putS_lo_sq, putS_pa_im, putS_pa_sq, M.own, M.fit, fins, Sl.fin, envOf, tLcX, compL, wipeE, restE, keepS, qYes, kD, dGet, List.getElem?_cons_zero, List.getElem?_cons_succ, List.getElem?_nil, List.set_cons_zero, List.set_cons_succ, List.map_cons, List.map_nil, List.take_succ_cons, List.take_zero, List.length_cons, List.length_nil, List.head?_cons, List.tail_cons, Option.join_some, List.cons_append, List.nil_append, List.replicate])
local macro_rules | `(tactic| walk_at "n") => `(tactic| ((try dsimp only); refine seq_step fun R hR => ?_; walk_at "y"))
local macro_rules | `(tactic| walk_at "i") => `(tactic| simp only [Bool.false_xor, Bool.true_xor, Bool.not_true, Bool.not_false, Bool.false_eq_true, reduceIte, isiT, M.ty, String.reduceBEq, Bool.or_false, Bool.false_or, Bool.and_false, Bool.and_true, Bool.true_and, Bool.false_and, Bool.or_true, List.mem_cons, true_or, or_true, true_and, and_true, String.reduceEq, decide_true, decide_false])
local macro_rules | `(tactic| walk_at "s") => `(tactic| (subst hR; walk_at "n"))
local macro_rules | `(tactic| walk_at "z") => `(tactic| (simp only [List.map_cons, List.map_nil, atI_c0, atI_c1, atI_c2, atI_c3, atI_c4, atI_c5]; (try walk_at "y")))
local macro_rules | `(tactic| walk_at "e") => `(tactic| repeat (first | rw [if_pos (by decide +kernel)] | rw [if_neg (by decide +kernel)]))
/-! ### forms and their texts -/
inductive At where
  | nm (w : Tx) | nu (i : Int) | fl (b : Bool) | tx (w : Tx) | dots | wild
inductive Tr where
  | at (a : At) | ls (ts : List Tr)
def At.kind : At → Str
  | .nm _ => "name" | .nu _ => "number" | .fl _ => "flag" | .tx _ => "text" | .dots => "dots" | .wild => "wild"
def At.val : At → D
  | .nm w => .str (S w) | .nu i => .int i | .fl b => .bl b | .tx w => .str (S w) | .dots => .non | .wild => .non
def intL (i : Int) : Tx := if i < 0 then 45 :: TL.numL i.natAbs else TL.numL i.natAbs
def At.txt : At → Tx
  | .nm w => w | .nu i => intL i | .fl b => if b = true then [35, 116] else [35, 102] | .tx w => 34 :: (w ++ [34]) | .dots => [46, 46, 46] | .wild => [95]
def At.srt : At → Str
  | .nm _ => "name" | .nu _ => "number" | .fl _ => "flag" | .tx _ => "string" | .dots => "dots" | .wild => "wild"
mutual
def Tr.law : Tr → D
  | .at a => .tup [.str a.kind, a.val]
  | .ls ts => .tup [.str "list", .lst (Tr.laws ts)]
def Tr.laws : List Tr → List D
  | [] => []
  | t :: ts => t.law :: Tr.laws ts
end
mutual
def Tr.sz : Tr → Nat
  | .at _ => 1
  | .ls ts => 1 + Tr.szs ts
def Tr.szs : List Tr → Nat
  | [] => 0
  | t :: ts => t.sz + Tr.szs ts
end
mutual
def Tr.dep : Tr → Nat
  | .at _ => 0
  | .ls ts => 1 + Tr.deps ts
def Tr.deps : List Tr → Nat
  | [] => 0
  | t :: ts => max t.dep (Tr.deps ts)
end
mutual
def Tr.dat : Tr → Nat → D
  | .at a, n => .tup [.str a.kind, a.val, .int n]
  | .ls ts, n => lsD (Tr.dats ts (n + 1)) n
def Tr.dats : List Tr → Nat → List D
  | [], _ => []
  | t :: ts, n => t.dat n :: Tr.dats ts (n + t.sz)
end
mutual
def Tr.txt : Tr → Tx
  | .at a => a.txt
  | .ls ts => 40 :: (TL.joinL [32] (Tr.txts ts) ++ [41])
def Tr.txts : List Tr → List Tx
  | [] => []
  | t :: ts => t.txt :: Tr.txts ts
end
def Ltxt : Tx := [97, 98, 32, 59, 40, 41, 39, 35, 92, 46, 57]
structure NmOk (w : Tx) : Prop where
  ne : w ≠ []
  len : w.length ≤ 20
  all : ∀ c ∈ w, c ∈ Lname
  hd : ∀ c, w.head? = some c → c ∉ Lfig ∧ c ≠ 45
  nd : w ≠ [46, 46, 46]
  nw : w ≠ [95]
def GoodAt : At → Prop
  | .nm w => NmOk w
  | .nu i => i.natAbs < 10 ^ 30
  | .tx w => w.length ≤ 100 ∧ ∀ c ∈ w, c ∈ Ltxt
  | _ => True
mutual
def Good : Tr → Prop
  | .at a => GoodAt a
  | .ls ts => Goods ts
def Goods : List Tr → Prop
  | [] => True
  | t :: ts => Good t ∧ Goods ts
end
/-! ### one token after the other -/
def Lx (p : Nat) (s : Tx) : List Tok3 := lex (s.length + 1) p s
theorem lx_nil {p : Nat} : Lx p [] = [] := rfl
theorem lx_bl {p c : Nat} {r : Tx} (h : c = 32 ∨ c = 10) : Lx p (c :: r) = Lx (p + 1) r := by
  unfold Lx
  rw [List.length_cons, lex, if_pos h]
theorem lx_com {p : Nat} {r : Tx} : Lx p (59 :: r) = Lx (p + line (59 :: r)) ((59 :: r).drop (line (59 :: r))) := by
  unfold Lx
  have := line_pos (c := 59) (r := r) (by decide)
  rw [List.length_cons, lex, if_neg (by decide), if_pos rfl]
  exact lex_fuel _ _ _ _ (by rw [List.length_drop, List.length_cons]; omega) (by omega)
theorem lx_tok {p c : Nat} {r : Tx} (h1 : c ≠ 32) (h2 : c ≠ 10) (h3 : c ≠ 59) : Lx p (c :: r) = ((tokOf (c :: r)).1, p, p + (tokOf (c :: r)).2) :: Lx (p + (tokOf (c :: r)).2) ((c :: r).drop (tokOf (c :: r)).2) := by
  have := tok_pos (r := r) h1 h2 h3
  unfold Lx
  rw [List.length_cons, lex, if_neg (by omega), if_neg h3]
  congr 1
  exact lex_fuel _ _ _ _ (by rw [List.length_drop, List.length_cons]; omega) (by omega)
def gaps : List Tx := [[], [32], [10], [32, 32], [32, 59, 120, 40, 10], [10, 59, 59, 39, 32, 34, 10, 32]]
theorem lx_gap {p : Nat} {g r : Tx} (h : g ∈ gaps) : Lx p (g ++ r) = Lx (p + g.length) r := by
  have b : ∀ {p c : Nat} {r : Tx}, (c = 32 ∨ c = 10) → Lx p (c :: r) = Lx (p + 1) r := lx_bl
  simp only [gaps, List.mem_cons, List.not_mem_nil, or_false] at h
  rcases h with rfl | rfl | rfl | rfl | rfl | rfl
  · rfl
  · exact b (.inl rfl)
  · exact b (.inr rfl)
  · exact (b (.inl rfl)).trans (b (.inl rfl))
  · refine (b (.inl rfl)).trans (lx_com.trans ?_)
    have e : line (59 :: ([120, 40, 10] ++ r)) = 3 := by simp [line, till]
    show Lx (p + 1 + line (59 :: ([120, 40, 10] ++ r))) ((59 :: ([120, 40, 10] ++ r)).drop (line (59 :: ([120, 40, 10] ++ r)))) = _
    rw [e]
    exact b (.inr rfl)
  · refine (b (.inr rfl)).trans (lx_com.trans ?_)
    have e : line (59 :: ([59, 39, 32, 34, 10, 32] ++ r)) = 5 := by simp [line, till]
    show Lx (p + 1 + line (59 :: ([59, 39, 32, 34, 10, 32] ++ r))) ((59 :: ([59, 39, 32, 34, 10, 32] ++ r)).drop (line (59 :: ([59, 39, 32, 34, 10, 32] ++ r)))) = _
    rw [e]
    exact (b (.inr rfl)).trans (b (.inl rfl))
def Safe (s : Tx) : Prop := ∀ c, s.head? = some c → c ∈ Lend
theorem safe_gap {g r : Tx} (h : g ∈ gaps) (hne : g ≠ []) : Safe (g ++ r) := by
  simp only [gaps, List.mem_cons, List.not_mem_nil, or_false] at h
  rcases h with rfl | rfl | rfl | rfl | rfl | rfl
  · exact absurd rfl hne
  all_goals
    intro c hc
    cases hc
    decide
theorem wordN_app {w post : Tx} (h : ∀ c ∈ w, c ∉ Lend) (hs : Safe post) : wordN (w ++ post) = w.length := by
  unfold wordN
  induction w with
  | nil =>
    cases post with
    | nil => rfl
    | cons c r =>
      have := hs c rfl
      rw [List.nil_append, List.takeWhile_cons, if_neg (by simp [this])]
  | cons c w ih =>
    rw [List.cons_append, List.takeWhile_cons, if_pos (by simp [h c List.mem_cons_self]), List.length_cons, ih fun d hd => h d (List.mem_cons_of_mem _ hd)]; rfl
theorem lx_word {p : Nat} {w post : Tx} (hne : w ≠ []) (h : ∀ c ∈ w, c ∉ Lend) (hx : w ≠ [35]) (hs : Safe post) : Lx p (w ++ post) = (sortOf w, p, p + w.length) :: Lx (p + w.length) post := by
  have e := wordN_app h hs
  cases w with
  | nil => exact absurd rfl hne
  | cons c w =>
    have hc := h c List.mem_cons_self
    simp only [Lend, List.mem_cons, List.not_mem_nil, or_false, not_or] at hc
    have et : tokOf (c :: (w ++ post)) = (sortOf (c :: w), (c :: w).length) := by
      rw [tokOf_cons, if_neg (by omega), if_neg (by omega)]
      unfold wordTok
      rw [show c :: (w ++ post) = (c :: w) ++ post from rfl, e, List.take_left, if_neg fun z => hx z.1]
    rw [List.cons_append, lx_tok (by omega) (by omega) (by omega), et]
    congr 1
    show Lx _ (((c :: w) ++ post).drop (c :: w).length) = _
    rw [List.drop_left]
theorem name_end {c : Nat} (h : c ∈ Lname) : c ∉ Lend := by
  revert c; decide
theorem sort_nm {w : Tx} (h : NmOk w) : sortOf w = "name" := by
  obtain ⟨c, r, rfl⟩ := List.exists_cons_of_ne_nil h.ne
  have hc := h.hd c rfl
  have hb : bodyOf (c :: r) = c :: r := by unfold bodyOf; rw [if_neg]; simp; exact hc.2
  have hn : isNum (c :: r) = false := by
    unfold isNum
    rw [if_pos]
    refine .inl (.inr ?_)
    rw [hb]
    unfold allFig
    simp [hc.1]
  have hm : isNm (c :: r) = true := by
    unfold isNm
    rw [if_neg (by
      rintro (z | z | z)
      · exact z ⟨by simp, h.len⟩
      · exact h.nd z
      · exact h.nw z), if_neg (by
      have : ((c :: r).all fun c => decide (c ∈ Lname)) = true := List.all_eq_true.mpr fun d hd => decide_eq_true (h.all d hd)
      rw [this]; simp)]
    rw [firstOf_cons, if_neg hc.2]
    simp [hc.1]
  unfold sortOf
  rw [hn, if_neg (by simp), if_neg (by
    rintro (z | z)
    · have := h.all 35 (by rw [z]; simp); revert this; decide
    · have := h.all 35 (by rw [z]; simp); revert this; decide), if_neg h.nd, if_neg h.nw, hm, if_pos rfl]
theorem numL_hd : ∀ n : Nat, 0 < n → (TL.numL n).head? ≠ some 48 := by
  intro n
  induction n using Nat.strongRecOn with
  | ind n ih =>
    intro hn
    by_cases h : n < 10
    · rw [TL.numL_lt h]; simp; omega
    · rw [TL.numL_step (by omega)]
      have hq : 0 < n / 10 := by omega
      have := ih (n / 10) (by omega) hq
      cases e : TL.numL (n / 10) with
      | nil => exact absurd e (TL.numL_ne _)
      | cons x y => rw [e] at this; simpa using this
theorem numL_fig {n c : Nat} (h : c ∈ TL.numL n) : c ∈ Lfig := by
  have := TL.numL_digits n c h
  simp only [Lfig, List.mem_cons, List.not_mem_nil, or_false]
  omega
theorem sort_nu {i : Int} (h : i.natAbs < 10 ^ 30) : sortOf (intL i) = "number" ∧ numV (intL i) = i ∧ (∀ c ∈ intL i, c ∉ Lend) ∧ intL i ≠ [] ∧ intL i ≠ [35] ∧ (intL i).length ≤ 31 := by
  have hl := TL.numL_len (k := 30) (by decide) h
  have fe : ∀ c, c ∈ Lfig → c ∉ Lend := by decide
  have hall : allFig (TL.numL i.natAbs) = true := List.all_eq_true.mpr fun c hc => decide_eq_true (numL_fig hc)
  have hd45 : (TL.numL i.natAbs).take 1 ≠ [45] := by
    cases e : TL.numL i.natAbs with
    | nil => simp
    | cons x y =>
      have : x ∈ Lfig := numL_fig (n := i.natAbs) (by rw [e]; exact List.mem_cons_self)
      intro z
      have z : x = 45 := by simpa using z
      subst z; revert this; decide
  unfold intL
  by_cases hn : i < 0
  · rw [if_pos hn]
    have hb : bodyOf (45 :: TL.numL i.natAbs) = TL.numL i.natAbs := by unfold bodyOf; rw [if_pos (show List.take 1 (45 :: TL.numL i.natAbs) = [45] from rfl)]; rfl
    refine ⟨?_, ?_, ?_, by simp, by simp, by simp; omega⟩
    · have : isNum (45 :: TL.numL i.natAbs) = true := by
        unfold isNum
        rw [hb, if_neg (by rintro ((z | z) | z); exact TL.numL_ne _ z; rw [hall] at z; cases z; omega)]
        have := numL_hd i.natAbs (by omega)
        simp [this]
      unfold sortOf; rw [this, if_pos rfl]
    · unfold numV
      rw [if_pos (show List.take 1 (45 :: TL.numL i.natAbs) = [45] from rfl)]
      show -((NumText.digitsVal (TL.numL i.natAbs) : Nat) : Int) = i
      rw [TL.numL_val]; omega
    · intro c hc
      rcases List.mem_cons.mp hc with rfl | hc
      · decide
      · exact fe c (numL_fig hc)
  · rw [if_neg hn]
    have hb : bodyOf (TL.numL i.natAbs) = TL.numL i.natAbs := by unfold bodyOf; rw [if_neg hd45]
    refine ⟨?_, ?_, fun c hc => fe c (numL_fig hc), TL.numL_ne _, ?_, by omega⟩
    · have : isNum (TL.numL i.natAbs) = true := by
        unfold isNum
        rw [hb, if_neg (by rintro ((z | z) | z); exact TL.numL_ne _ z; rw [hall] at z; cases z; omega)]
        by_cases z : i.natAbs = 0
        · rw [z]; decide +kernel
        · have := numL_hd i.natAbs (by omega)
          simp [this]
      unfold sortOf; rw [this, if_pos rfl]
    · unfold numV
      rw [if_neg hd45, TL.numL_val]; omega
    · intro z
      have : (35 : Nat) ∈ Lfig := numL_fig (n := i.natAbs) (by rw [z]; simp)
      revert this; decide
end Y
namespace Y
set_option hygiene false
open PySem PySem.Spec L2 SX
local macro_rules | `(tactic| walk_at "y") => `(tactic| dsimp only [tGet2, ex0, exB, endB, envOf, Env.set, Env.put, Env.stSet, Env.push, tFldY, sFldY, tMtE, tMethY, tMakeY, callF, tPub, pub, M.ob?, Ob.vw, Ob.toM, sSetE, tMaxD, gIntS, sRaise, sTry, sTryAs, endN, tXfY, tSm, gFind, gJoin, gStr, gStarts, List.zip_cons_cons, List.zip_nil_left, List.reverse_cons, List.reverse_nil, TF.calm, gx0, putFD, tCallV, tCallL, capt, gLtD, gSum, gMax, gSorted2, sNil, sBk, sCt, sDrop, sIf, asg, sAsg, sRet, sRetN, tIm, tNm, tBin, w2, vw, Sl.m?, tTst, tTru, M.tru, tAndQ, tOrQ, tNotQ, tAndX, tOrX, tNotX, tIfX, lNil, lCons, tOn, fInD, fIxD, tGet1, vwD, getOr, M.isD, sPar2, tLc2X, compL2, tChn, tFrz, froz, tTp, tLs, tCl, vws, tMt, Sl.m!, Sl.up, M.res, gLen, gInt, gAdd, gSub, gMul, gMulS, gDiv, gMod, gPow, gII, gI0, gEqs, gEqs2, gIx, gPop, gApp, gRev, gExt, gTuple, gList, gDict, gIs, gIsi, gAll, gIns, gSorted, gSl, M.lq?, M.lst?, M.sq?, M.dat?, M.isNon, gLt, gLe, gGt, gGe, sFor, iSeq, srcOf, iEnm, enmOf, iRg1, iRg2, bnd, setAll, backS, Sl.isP, tSlc, pNo, pSo, sSetI, hasM, setM, tDspK, tDspT, pairG, D.key?, D.keys?, D.tkey?, putAll, tNewK, tNewT, tNeg, sUnp, tCall, argMs, argM, argS, slots, putB, stepB, putS_lo_ls_ls, putS_lo_ls_dk, putS_lo_ls_dt, putS_lo_ls_no, putS_pa_ls_ls, putS_pa_ls_dk, putS_pa_ls_dt, putS_pa_ls_no, putS_lo_rd_ls, putS_lo_rd_dk, putS_lo_rd_dt, putS_lo_rd_no, putS_pa_rd_ls, putS_pa_rd_dk, putS_pa_rd_dt, putS_pa_rd_no, putS_lo_dk_ls, putS_lo_dk_dk, putS_lo_dk_dt, putS_lo_dk_no, putS_pa_dk_ls, putS_pa_dk_dk, putS_pa_dk_dt, putS_pa_dk_no, putS_lo_dt_ls, putS_lo_dt_dk, putS_lo_dt_dt, putS_lo_dt_no, putS_pa_dt_ls, putS_pa_dt_dk, putS_pa_dt_dt, putS_pa_dt_no, putS_lo_im, putS_lo_sq, putS_pa_im, putS_pa_sq, M.own, M.fit, fins, Sl.fin, envOf, tLcX, compL, wipeE, restE, keepS, qYes, kD, dGet, List.getElem?_cons_zero, List.getElem?_cons_succ, List.getElem?_nil, List.set_cons_zero, List.set_cons_succ, List.map_cons, List.map_nil, List.take_succ_cons, List.take_zero, List.length_cons, List.length_nil, List.head?_cons, List.tail_cons, Option.join_some, List.cons_append, List.nil_append, List.replicate])
local macro_rules | `(tactic| walk_at "n") => `(tactic| ((try dsimp only); refine seq_step fun R hR => ?_; walk_at "y"))
local macro_rules | `(tactic| walk_at "i") => `(tactic| simp only [Bool.false_xor, Bool.true_xor, Bool.not_true, Bool.not_false, Bool.false_eq_true, reduceIte, isiT, M.ty, String.reduceBEq, Bool.or_false, Bool.false_or, Bool.and_false, Bool.and_true, Bool.true_and, Bool.false_and, Bool.or_true, List.mem_cons, true_or, or_true, true_and, and_true, String.reduceEq, decide_true, decide_false])
local macro_rules | `(tactic| walk_at "s") => `(tactic| (subst hR; walk_at "n"))
local macro_rules | `(tactic| walk_at "z") => `(tactic| (simp only [List.map_cons, List.map_nil, atI_c0, atI_c1, atI_c2, atI_c3, atI_c4, atI_c5]; (try walk_at "y")))
local macro_rules | `(tactic| walk_at "e") => `(tactic| repeat (first | rw [if_pos (by decide +kernel)] | rw [if_neg (by decide +kernel)]))
/-! ### the law's own words -/
theorem starts_S (w : Tx) (c : Nat) : Txt.startswith (S w) (S [c]) = decide (w.take 1 = [c]) := by
  have h := StrLaws.subAt_one (S w) c 0
  have e1 : (S [c] : Str).length = 1 := rfl
  have e2 : (S w).cps.toList[0]? = w[0]? := rfl
  rw [e2] at h
  unfold Txt.startswith
  cases w with
  | nil =>
    rw [S_len, S_len]; simp
  | cons x r =>
    have h3 : StrLaws.At (S (x :: r)) ⟨#[c]⟩ (S (x :: r)).length 0 ↔ Builtin.Str.subAt (S (x :: r)) (S [c]) 0 = true := by
      constructor
      · intro z; exact z.2
      · intro z; exact ⟨by show 0 + 1 ≤ (S (x :: r)).length; rw [S_len]; simp, z⟩
    have e : (decide (0 + (S [c]).length ≤ (S (x :: r)).length)) = true := by rw [S_len, S_len]; simp
    rw [e, Bool.true_and]
    by_cases hx : x = c
    · subst hx
      rw [h3.mp (h.mpr rfl)]; simp
    · have : ¬ Builtin.Str.subAt (S (x :: r)) (S [c]) 0 = true := fun z => hx (by have := h.mp (h3.mpr z); simpa using this)
      rw [Bool.not_eq_true] at this
      rw [this]; simp [hx]
theorem sort_A {w : Tx} (h1 : bodyOf w ≠ []) (h2 : allFig (bodyOf w) = true) : sortOf w = if w = [48] ∨ ((bodyOf w).head? ≠ some 48 ∧ (bodyOf w).length < 31) then ("number" : Str) else ("wrong" : Str) := by
  have hw : w ≠ [] := fun z => h1 (by rw [z]; rfl)
  have notA : ∀ v : Tx, bodyOf v = v → allFig v = false → w ≠ v := fun v e1 e2 z => by rw [z, e1, e2] at h2; cases h2
  have hn : isNum w = decide (w = [48] ∨ ((bodyOf w).head? ≠ some 48 ∧ (bodyOf w).length < 31)) := by
    unfold isNum
    by_cases h3 : 30 < (bodyOf w).length
    · rw [if_pos (.inr h3)]
      symm
      apply decide_eq_false
      rintro (z | z)
      · rw [z] at h3; revert h3; decide
      · omega
    · rw [if_neg (by rintro ((z | z) | z); exact h1 z; rw [h2] at z; cases z; exact h3 z)]
      by_cases z : w = [48]
      · simp [z]
      · have : (bodyOf w).length < 31 := by omega
        simp [z, this]
  unfold sortOf
  rw [hn]
  by_cases h3 : w = [48] ∨ ((bodyOf w).head? ≠ some 48 ∧ (bodyOf w).length < 31)
  · rw [if_pos h3, if_pos (by simp [h3])]
  · rw [if_neg h3, if_neg (by simpa using h3)]
    have hm : isNm w = false := by
      unfold isNm
      split
      · rfl
      · split
        · rfl
        · obtain ⟨c, r, rfl⟩ := List.exists_cons_of_ne_nil hw
          have hf : ∃ d, firstOf (c :: r) = [d] ∧ d ∈ Lfig := by
            rw [firstOf_cons]
            unfold allFig at h2
            unfold bodyOf at h1 h2
            by_cases hc : c = 45
            · rw [if_pos (by simp [hc])] at h1 h2
              rw [if_pos hc]
              cases r with
              | nil => exact absurd rfl h1
              | cons d r =>
                refine ⟨d, rfl, ?_⟩
                have := List.all_eq_true.mp h2 d (by simp)
                simpa using this
            · rw [if_neg (by simp [hc])] at h1 h2
              rw [if_neg hc]
              refine ⟨c, rfl, ?_⟩
              have := List.all_eq_true.mp h2 c (by simp)
              simpa using this
          obtain ⟨d, e, hd⟩ := hf
          rw [e]
          simp [hd]
    rw [if_neg (by rintro (z | z); exact notA _ rfl (by decide) z; exact notA _ rfl (by decide) z), if_neg (notA _ rfl (by decide)), if_neg (notA _ rfl (by decide)), hm, if_neg (by simp)]
theorem sort_B {w : Tx} (hw : w ≠ []) (h : bodyOf w = [] ∨ allFig (bodyOf w) = false) : sortOf w = if w = [35, 116] ∨ w = [35, 102] then ("flag" : Str) else if w = [46, 46, 46] then ("dots" : Str) else if w = [95] then ("wild" : Str) else
    if (w.all fun c => decide (c ∈ Lname)) = false then ("wrong" : Str) else if 20 < w.length ∨ (∃ c ∈ Lfig, (bodyOf w).take 1 = [c]) then ("wrong" : Str) else ("name" : Str) := by
  have hn : isNum w = false := by unfold isNum; rw [if_pos (.inl h)]
  unfold sortOf
  rw [hn, if_neg (by simp)]
  by_cases k1 : w = [35, 116] ∨ w = [35, 102]
  · rw [if_pos k1, if_pos k1]
  rw [if_neg k1, if_neg k1]
  by_cases k2 : w = [46, 46, 46]
  · rw [if_pos k2, if_pos k2]
  rw [if_neg k2, if_neg k2]
  by_cases k3 : w = [95]
  · rw [if_pos k3, if_pos k3]
  rw [if_neg k3, if_neg k3]
  have hl : 1 ≤ w.length := List.length_pos_iff.mpr hw
  have hf : firstOf w = (bodyOf w).take 1 := by
    obtain ⟨c, r, rfl⟩ := List.exists_cons_of_ne_nil hw
    rw [firstOf_cons]
    unfold bodyOf
    by_cases hc : c = 45
    · rw [if_pos hc, if_pos (by simp [hc])]; rfl
    · rw [if_neg hc, if_neg (by simp [hc])]; rfl
  by_cases k4 : w.length ≤ 20
  · have c1 : ¬ (¬ (1 ≤ w.length ∧ w.length ≤ 20) ∨ w = [46, 46, 46] ∨ w = [95]) := by rintro (z | z | z); exact z ⟨hl, k4⟩; exact k2 z; exact k3 z
    by_cases k5 : (w.all fun c => decide (c ∈ Lname)) = false
    · have : isNm w = false := by unfold isNm; rw [if_neg c1, if_pos k5]
      rw [this, if_neg (by simp), if_pos k5]
    · have e0 : isNm w = (decide (firstOf w = []) || decide (∀ c, (firstOf w).head? = some c → c ∉ Lfig)) := by unfold isNm; rw [if_neg c1, if_neg k5]
      rw [e0, hf, if_neg k5]
      by_cases k6 : ∃ c ∈ Lfig, (bodyOf w).take 1 = [c]
      · rw [if_pos (Or.inr k6)]
        obtain ⟨c, hc, e⟩ := k6
        rw [e, if_neg (by simp [hc])]
      · rw [if_neg (show ¬(20 < w.length ∨ _) by rintro (z | z); omega; exact k6 z), if_pos]
        cases e : (bodyOf w).take 1 with
        | nil => simp
        | cons c r =>
          have hr : r = [] := by
            have := congrArg List.length e
            rw [List.length_take, List.length_cons] at this
            exact List.length_eq_zero_iff.mp (by omega)
          subst hr
          have : c ∉ Lfig := fun z => k6 ⟨c, z, e⟩
          simp [this]
  · have : isNm w = false := by unfold isNm; rw [if_pos (Or.inl fun z => k4 z.2)]
    rw [this, if_neg (by simp)]
    by_cases k5 : (w.all fun c => decide (c ∈ Lname)) = false
    · rw [if_pos k5]
    · rw [if_neg k5, if_pos (Or.inl (by omega))]
def F_lsort : TF := fun ms W G Gx => ∃ w : Tx, ms = [.im (.str (S w))] ∧ w ≠ [] ∧ w.length ≤ 7000 ∧ Uni w ∧ ∀ fin, G (.im (.str (sortOf w))) fin W
theorem sgn_loop {W : Sto} {P : EndP} {s0 s1 : Sl} : ∀ (w : Tx) (s2 : Sl), ((w.all fun c => decide (c ∈ Lname)) = true → ∀ s2, P.nx ⟨[s0, s1, s2], W⟩) → ((w.all fun c => decide (c ∈ Lname)) = false → ∀ s2, P.rt (.im (.str "wrong")) ⟨[s0, s1, s2], W⟩) →
    loopS (.one 2) b__law_sort_1 (fun _ => True) P (w.map fun n => D.str ⟨#[n]⟩) ⟨[s0, s1, s2], W⟩
  | [], s2, q, _ => ⟨trivial, q rfl s2⟩
  | c :: w, s2, q, q2 => by
    rw [List.map_cons]
    refine loop_step trivial fun L hL => ?_
    unfold b__law_sort_1
    walk_at "y"
    rw [lit_name, in_S, Bool.true_xor]
    by_cases hc : c ∈ Lname
    · rw [if_neg (by simp [hc]), hL]
      exact sgn_loop w _ (fun h => q (by simp [hc]; simpa using h)) fun h => q2 (by rw [List.all_cons, h, Bool.and_false])
    · rw [if_pos (by simp [hc])]
      exact q2 (by simp [hc]) _
theorem body_lsort : Body F_lsort 3 1 fun _ => t__law_sort := by
  rintro ms W G Gx hl ⟨w, rfl, hne, hw, hu, q⟩
  show t__law_sort _ ⟨[Sl.pa (.im (.str (S w))), .no, .no], W⟩
  unfold t__law_sort
  have hs : (S w).length ≤ sizeLine := by rw [S_len]; exact szLine (by omega)
  have hbl : (bodyOf w).length ≤ 7000 := by unfold bodyOf; split; (rw [List.length_drop]; omega); omega
  walk_at "n"
  rw [lit_neg, starts_S]
  have go : R ⟨[Sl.pa (.im (.str (S w))), .lo (.im (.str (S (bodyOf w)))), .no], W⟩ := by
    subst hR
    walk_at "n"
    rw [str_nil, Bool.true_xor]
    have rest : (bodyOf w = [] ∨ allFig (bodyOf w) = false) → R ⟨[Sl.pa (.im (.str (S w))), .lo (.im (.str (S (bodyOf w)))), .no], W⟩ := fun hB => by
      rw [sort_B hne hB] at q
      subst hR
      walk_at "n"
      rw [show Str.ofString "#t" = S [35, 116] by decide +kernel, show Str.ofString "#f" = S [35, 102] by decide +kernel, S_eqD, S_eqD]
      have k1 : (w = [35, 116] ∨ w = [35, 102]) → ∀ fin, G (.im (.str "flag")) fin W := fun z fin => by rw [if_pos z] at q; exact q fin
      by_cases z1 : w = [35, 116]
      · rw [if_pos (by simp [z1]), if_pos rfl]; exact k1 (.inl z1) _
      rw [if_neg (by simp [z1])]
      by_cases z2 : w = [35, 102]
      · rw [if_pos (by simp [z2])]; exact k1 (.inr z2) _
      rw [if_neg (by simp [z2])]
      rw [if_neg (by rintro (z | z); exact z1 z; exact z2 z)] at q
      subst hR
      walk_at "n"
      rw [lit_dots, lit_wild, S_eqD, S_eqD]
      by_cases z3 : w = [46, 46, 46]
      · rw [if_pos z3] at q
        rw [if_pos (by simp [z3]), if_pos rfl]
        refine ⟨by simp [sizeLine_eq], ?_⟩
        rw [if_neg (by rw [z3]; decide), atI_c0]
        exact q _
      rw [if_neg (by simp [z3])]
      rw [if_neg z3] at q
      by_cases z4 : w = [95]
      · rw [if_pos z4] at q
        rw [if_pos (by simp [z4])]
        refine ⟨by simp [sizeLine_eq], ?_⟩
        rw [if_pos (by simp [z4]), atI_c1]
        exact q _
      rw [if_neg (by simp [z4])]
      rw [if_neg z4] at q
      subst hR
      refine seq_step fun R hR => ?_
      dsimp only [sFor, iSeq, tNm, srcOf, List.getElem?_cons_zero, Sl.m?]
      refine sgn_loop w _ (fun hall s2 => ?_) (fun hall s2 => ?_)
      · rw [if_neg (by rw [hall]; simp)] at q
        show R _
        subst hR
        walk_at "n"
        refine ⟨hs, ?_⟩
        rw [S_len]
        by_cases z5 : 20 < w.length
        · rw [if_pos (Or.inl z5)] at q
          rw [if_pos (by simp; omega), if_pos rfl]
          exact q _
        rw [if_neg (by simp; omega)]
        refine ⟨by rw [S_len]; exact szLine (by omega), ?_⟩
        rw [slice_1, lit_fig]
        refine ⟨by rw [S_len]; exact szLine (by simp [Lfig]), ok_str ((hu.sub fun c hc => by
          have : c ∈ bodyOf w := List.mem_of_mem_take hc
          unfold bodyOf at this
          split at this
          · exact List.mem_of_mem_drop this
          · exact this)) 63, ?_, ?_⟩
        · rw [D.oks_all, List.all_eq_true]
          intro d hd
          obtain ⟨c, hc, rfl⟩ := List.mem_map.mp hd
          have hc : c ∈ Lfig := hc
          exact ok_str (w := [c]) (fun x hx => by
            rw [List.mem_singleton.mp hx]
            have fe : ∀ c, c ∈ Lfig → c < 1114112 := by decide
            exact fe c hc) 62
        have ea : ((S Lfig).cps.toList.map (fun c => D.str ⟨#[c]⟩)).any (fun z => z.eqv (D.str (S ((bodyOf w).take 1)))) = decide (∃ c ∈ Lfig, (bodyOf w).take 1 = [c]) := by
          show (Lfig.map (fun c => D.str ⟨#[c]⟩)).any _ = _
          rw [List.any_map]
          rw [Bool.eq_iff_iff, List.any_eq_true, decide_eq_true_eq]
          constructor
          · rintro ⟨c, hc, e⟩
            have e : (D.str (S [c])).eqv (D.str (S ((bodyOf w).take 1))) = true := e
            rw [eqv_str, S_eqD] at e
            exact ⟨c, hc, (of_decide_eq_true e).symm⟩
          · rintro ⟨c, hc, e⟩
            refine ⟨c, hc, ?_⟩
            show (D.str (S [c])).eqv (D.str (S ((bodyOf w).take 1))) = true
            rw [eqv_str, S_eqD, e]; simp
        rw [ea, Bool.false_xor]
        by_cases z6 : ∃ c ∈ Lfig, (bodyOf w).take 1 = [c]
        · rw [if_pos (Or.inr z6)] at q
          rw [if_pos (decide_eq_true z6)]
          exact q _
        · rw [if_neg (show ¬(20 < w.length ∨ _) by rintro (z | z); exact z5 z; exact z6 z)] at q
          rw [if_neg (by rw [decide_eq_false z6]; simp)]
          subst hR
          walk_at "y"
          exact q _
      · rw [if_pos hall] at q
        exact q _
    by_cases hA : bodyOf w = []
    · rw [if_neg (by simp [hA])]
      rw [if_neg (by simp)]
      exact rest (.inl hA)
    rw [if_pos (by simp [hA])]
    refine comp_signs lit_fig rfl (by omega) ?_
    rw [bls_map]
    dsimp only
    rw [all_id]
    by_cases hF : allFig (bodyOf w) = true
    · rw [show ((bodyOf w).all fun a => decide (a ∈ Lfig)) = true from hF]
      rw [sort_A hA hF] at q
      rw [if_pos rfl]
      walk_at "y"
      rw [lit_0, S_eqD, Bool.false_xor]
      by_cases k1 : w = [48]
      · rw [if_pos (.inl k1)] at q
        rw [if_pos (by simp [k1])]
        exact q _
      rw [if_neg (by simp [k1])]
      obtain ⟨c, r, hc⟩ := List.exists_cons_of_ne_nil hA
      rw [S_at, hc, atI_c0]
      refine ⟨by rw [← hc, S_len]; exact szLine (by omega), ?_⟩
      dsimp only
      rw [show decide (({ cps := #[c] } : Str) = S [48]) = decide (c = 48) by rw [show ({ cps := #[c] } : Str) = S [c] from rfl, S_eqD]; simp, Bool.true_xor]
      rw [hc] at q
      by_cases k2 : c = 48
      · rw [if_neg (by rintro (z | z); exact k1 z; exact z.1 (by rw [k2]; rfl))] at q
        rw [if_neg (by simp [k2]), if_neg (by simp)]
        exact q _
      · rw [if_pos (by simp [k2])]
        rw [S_len]
        refine ⟨by rw [← hc]; exact szLine (by omega), ?_⟩
        by_cases k3 : (c :: r).length < 31
        · rw [if_pos (.inr ⟨by simpa using k2, k3⟩)] at q
          rw [if_pos (by simp at k3 ⊢; omega)]
          exact q _
        · rw [if_neg (by rintro (z | z); exact k1 z; exact k3 z.2)] at q
          rw [if_neg (by simp at k3 ⊢; omega)]
          exact q _
    · rw [Bool.not_eq_true] at hF
      rw [show ((bodyOf w).all fun a => decide (a ∈ Lfig)) = false from hF, if_neg (by simp)]
      exact rest (.inr hF)
  rw [slice_f1]
  by_cases h : w.take 1 = [45]
  · rw [if_pos (by simp [h])]
    rw [show bodyOf w = w.drop 1 from if_pos h] at go
    exact ⟨hs, go⟩
  · rw [if_neg (by simp [h])]
    rw [show bodyOf w = w from if_neg h] at go
    exact go
end Y
namespace Y
set_option hygiene false
open PySem PySem.Spec L2 SX
local macro_rules | `(tactic| walk_at "y") => `(tactic| dsimp only [tGet2, ex0, exB, endB, envOf, Env.set, Env.put, Env.stSet, Env.push, tFldY, sFldY, tMtE, tMethY, tMakeY, callF, tPub, pub, M.ob?, Ob.vw, Ob.toM, sSetE, tMaxD, gIntS, sRaise, sTry, sTryAs, endN, tXfY, tSm, gFind, gJoin, gStr, gStarts, List.zip_cons_cons, List.zip_nil_left, List.reverse_cons, List.reverse_nil, TF.calm, gx0, putFD, tCallV, tCallL, capt, gLtD, gSum, gMax, gSorted2, sNil, sBk, sCt, sDrop, sIf, asg, sAsg, sRet, sRetN, tIm, tNm, tBin, w2, vw, Sl.m?, tTst, tTru, M.tru, tAndQ, tOrQ, tNotQ, tAndX, tOrX, tNotX, tIfX, lNil, lCons, tOn, fInD, fIxD, tGet1, vwD, getOr, M.isD, sPar2, tLc2X, compL2, tChn, tFrz, froz, tTp, tLs, tCl, vws, tMt, Sl.m!, Sl.up, M.res, gLen, gInt, gAdd, gSub, gMul, gMulS, gDiv, gMod, gPow, gII, gI0, gEqs, gEqs2, gIx, gPop, gApp, gRev, gExt, gTuple, gList, gDict, gIs, gIsi, gAll, gIns, gSorted, gSl, M.lq?, M.lst?, M.sq?, M.dat?, M.isNon, gLt, gLe, gGt, gGe, sFor, iSeq, srcOf, iEnm, enmOf, iRg1, iRg2, bnd, setAll, backS, Sl.isP, tSlc, pNo, pSo, sSetI, hasM, setM, tDspK, tDspT, pairG, D.key?, D.keys?, D.tkey?, putAll, tNewK, tNewT, tNeg, sUnp, tCall, argMs, argM, argS, slots, putB, stepB, putS_lo_ls_ls, putS_lo_ls_dk, putS_lo_ls_dt, putS_lo_ls_no, putS_pa_ls_ls, putS_pa_ls_dk, putS_pa_ls_dt, putS_pa_ls_no, putS_lo_rd_ls, putS_lo_rd_dk, putS_lo_rd_dt, putS_lo_rd_no, putS_pa_rd_ls, putS_pa_rd_dk, putS_pa_rd_dt, putS_pa_rd_no, putS_lo_dk_ls, putS_lo_dk_dk, putS_lo_dk_dt, putS_lo_dk_no, putS_pa_dk_ls, putS_pa_dk_dk, putS_pa_dk_dt, putS_pa_dk_no, putS_lo_dt_ls, putS_lo_dt_dk, putS_lo_dt_dt, putS_lo_dt_no, putS_pa_dt_ls, putS_pa_dt_dk, putS_pa_dt_dt, putS_pa_dt_no, putS_lo_im, putS_lo_sq, putS_pa_im, putS_pa_sq, M.own, M.fit, fins, Sl.fin, envOf, tLcX, compL, wipeE, restE, keepS, qYes, kD, dGet, List.getElem?_cons_zero, List.getElem?_cons_succ, List.getElem?_nil, List.set_cons_zero, List.set_cons_succ, List.map_cons, List.map_nil, List.take_succ_cons, List.take_zero, List.length_cons, List.length_nil, List.head?_cons, List.tail_cons, Option.join_some, List.cons_append, List.nil_append, List.replicate])
local macro_rules | `(tactic| walk_at "n") => `(tactic| ((try dsimp only); refine seq_step fun R hR => ?_; walk_at "y"))
local macro_rules | `(tactic| walk_at "i") => `(tactic| simp only [Bool.false_xor, Bool.true_xor, Bool.not_true, Bool.not_false, Bool.false_eq_true, reduceIte, isiT, M.ty, String.reduceBEq, Bool.or_false, Bool.false_or, Bool.and_false, Bool.and_true, Bool.true_and, Bool.false_and, Bool.or_true, List.mem_cons, true_or, or_true, true_and, and_true, String.reduceEq, decide_true, decide_false])
local macro_rules | `(tactic| walk_at "s") => `(tactic| (subst hR; walk_at "n"))
local macro_rules | `(tactic| walk_at "z") => `(tactic| (simp only [List.map_cons, List.map_nil, atI_c0, atI_c1, atI_c2, atI_c3, atI_c4, atI_c5]; (try walk_at "y")))
local macro_rules | `(tactic| walk_at "e") => `(tactic| repeat (first | rw [if_pos (by decide +kernel)] | rw [if_neg (by decide +kernel)]))
theorem scan {q : TQ} {t : TSX} {P : EndP} {ρ : Nat → Env} {stop : Nat} (hgo : ∀ k, k < stop → ∀ Q : Bool → Env → Prop, Q true (ρ k) → q (ρ k) Q) (hst : ∀ Q : Bool → Env → Prop, Q false (ρ stop) → q (ρ stop) Q) (hb : ∀ k, k < stop → ∀ P' : EndP, P'.nx (ρ (k + 1)) → t P' (ρ k)) (h : P.nx (ρ stop)) : ∀ n k, k + n = stop → whileS q t P (n + 1) (ρ k)
  | 0, k, e => by
    obtain rfl : k = stop := by omega
    exact hst _ (by rw [if_neg (by simp)]; exact h)
  | n + 1, k, e => by
    refine hgo k (by omega) _ ?_
    rw [if_pos rfl]
    exact hb k (by omega) _ (scan hgo hst hb h n (k + 1) (by omega))
/-- the while's reading, from the start on -/
theorem scan0 {q : TQ} {t : TSX} {P : EndP} {ρ : Nat → Env} {stop : Nat} (hgo : ∀ k, k < stop → ∀ Q : Bool → Env → Prop, Q true (ρ k) → q (ρ k) Q) (hst : ∀ Q : Bool → Env → Prop, Q false (ρ stop) → q (ρ stop) Q) (hb : ∀ k, k < stop → ∀ P' : EndP, P'.nx (ρ (k + 1)) → t P' (ρ k)) (h : P.nx (ρ stop)) : sWhile q t P (ρ 0) :=
  ⟨stop + 1, scan hgo hst hb h stop 0 (by omega)⟩
section
variable {W : Sto} {l : Tx} {s1 s2 s3 s4 s6 : Sl} {p : Nat} {c : Nat} {r : Tx} {P : EndP} {F : TF}
abbrev eE (W : Sto) (l : Tx) (s1 s2 s3 s4 s6 : Sl) (p k : Nat) : Env := ⟨[.pa (.im (.str (S l))), s1, s2, s3, s4, .lo (.im (.int ((p + 1 + k : Nat) : Int))), s6], W⟩
theorem at_tail (hd : l.drop p = c :: r) (k : Nat) : l[p + 1 + k]? = r[k]? := by
  have : (l.drop p)[k + 1]? = r[k]? := by rw [hd]; rfl
  rw [List.getElem?_drop] at this
  rw [← this]; congr 1; omega
theorem len_tail (hd : l.drop p = c :: r) (hp : p ≤ l.length) : p + 1 + r.length = l.length := by
  have := congrArg List.length hd
  rw [List.length_drop, List.length_cons] at this; omega
/-- at an index that stands -/
theorem txt_at {i : Nat} {d : Nat} (h : l[i]? = some d) : atI (S l).cps.toList ((i : Nat) : Int) = some d := by
  have hi := (List.getElem?_eq_some_iff.mp h).1
  rw [S_at]
  obtain ⟨x, hx, hx2⟩ := atI_ok (xs := l) (i := ((i : Nat) : Int)) (by omega) (by omega)
  rw [Int.toNat_natCast, h] at hx2
  cases hx2
  exact hx
theorem bump (k : Nat) (P' : EndP) (h : P'.nx (eE W l s1 s2 s3 s4 s6 p (k + 1))) : sAsg 5 (tBin gAdd (tNm 5) (tIm (.int 1))) P' (eE W l s1 s2 s3 s4 s6 p k) := by
  unfold eE at h ⊢
  walk_at "y"
  rw [show ((p + 1 + k : Nat) : Int) + 1 = ((p + 1 + (k + 1) : Nat) : Int) by omega]
  exact h
theorem scan_nl (hd : l.drop p = c :: r) (hp : p ≤ l.length) (hl : l.length ≤ 7000) (h : P.nx (eE W l s1 s2 s3 s4 s6 p (till 10 r))) :
    sWhile (tAndQ (tTst (tBin (gLt) (tNm 5) (tCl (gLen) (lCons (tNm 0) (lNil))))) (tTst (tBin (gEqs true) (tBin gIx (tNm 0) (tNm 5)) (tIm (.str "\n"))))) (b__law_tokens_2 F) P (eE W l s1 s2 s3 s4 s6 p 0) := by
  have hs : (S l).length ≤ sizeLine := by rw [S_len]; exact szLine (by omega)
  have hn := len_tail hd hp
  refine scan0 (ρ := eE W l s1 s2 s3 s4 s6 p) (stop := till 10 r) (fun k hk Q hQ => ?_) (fun Q hQ => ?_) (fun k hk P' h => bump k P' h) h
  · obtain ⟨d, e1, e2⟩ := till_lt hk
    have e1' := (at_tail hd k).trans e1
    have hi := (List.getElem?_eq_some_iff.mp e1').1
    unfold eE at hQ ⊢
    walk_at "y"
    rw [S_len] at hs ⊢
    refine ⟨hs, ?_⟩
    rw [if_pos (by simp; omega)]
    refine ⟨hs, ?_⟩
    rw [txt_at e1']
    dsimp only
    rw [lit_nl, show decide (({ cps := #[d] } : Str) = S [10]) = decide (d = 10) by rw [show ({ cps := #[d] } : Str) = S [d] from rfl, S_eqD]; simp, decide_eq_false e2]
    exact hQ
  · unfold eE at hQ ⊢
    walk_at "y"
    rw [S_len] at hs ⊢
    refine ⟨hs, ?_⟩
    by_cases hm : 10 ∈ r
    · have e1' := (at_tail hd (till 10 r)).trans (till_mem hm)
      have hi := (List.getElem?_eq_some_iff.mp e1').1
      rw [if_pos (by simp; omega)]
      refine ⟨hs, ?_⟩
      rw [txt_at e1']
      dsimp only
      rw [lit_nl, show decide (({ cps := #[10] } : Str) = S [10]) = true by decide]
      exact hQ
    · rw [till_non hm] at hQ ⊢
      rw [if_neg (by simp; omega)]
      exact hQ
def qtN (r : Tx) : Nat := (r.takeWhile fun c => !decide (c = 10) && !decide (c = 34)).length
theorem scan_q (hd : l.drop p = c :: r) (hp : p ≤ l.length) (hl : l.length ≤ 7000) (h : P.nx (eE W l s1 s2 s3 s4 s6 p (qtN r))) :
    sWhile (tAndQ (tTst (tBin (gLt) (tNm 5) (tCl (gLen) (lCons (tNm 0) (lNil))))) (tAndQ (tTst (tBin (gEqs true) (tBin gIx (tNm 0) (tNm 5)) (tIm (.str "\n")))) (tTst (tBin (gEqs true) (tBin gIx (tNm 0) (tNm 5)) (tIm (.str "\"")))))) (b__law_tokens_3 F) P (eE W l s1 s2 s3 s4 s6 p 0) := by
  have hs : (S l).length ≤ sizeLine := by rw [S_len]; exact szLine (by omega)
  have hn := len_tail hd hp
  have dc : ∀ d x : Nat, decide (({ cps := #[d] } : Str) = S [x]) = decide (d = x) := fun d x => by rw [show ({ cps := #[d] } : Str) = S [d] from rfl, S_eqD]; simp
  refine scan0 (ρ := eE W l s1 s2 s3 s4 s6 p) (stop := qtN r) (fun k hk Q hQ => ?_) (fun Q hQ => ?_) (fun k hk P' h => bump k P' h) h
  · obtain ⟨d, e1, e2⟩ := tw_lt hk
    have e1' := (at_tail hd k).trans e1
    have hi := (List.getElem?_eq_some_iff.mp e1').1
    simp only [Bool.and_eq_true, Bool.not_eq_true', decide_eq_false_iff_not] at e2
    unfold eE at hQ ⊢
    walk_at "y"
    rw [S_len] at hs ⊢
    refine ⟨hs, ?_⟩
    rw [if_pos (by simp; omega)]
    refine ⟨hs, ?_⟩
    rw [txt_at e1']
    dsimp only
    rw [lit_nl, dc, decide_eq_false e2.1, if_pos (by simp), lit_quo, dc, decide_eq_false e2.2]
    exact ⟨hs, hQ⟩
  · unfold eE at hQ ⊢
    walk_at "y"
    rw [S_len] at hs ⊢
    refine ⟨hs, ?_⟩
    rcases tw_at (P := fun c => !decide (c = 10) && !decide (c = 34)) (s := r) with e | ⟨d, e1, e2⟩
    · have e : qtN r = r.length := e
      rw [e] at hQ ⊢
      rw [if_neg (by simp; omega)]
      exact hQ
    · have e1' := (at_tail hd (qtN r)).trans e1
      have hi := (List.getElem?_eq_some_iff.mp e1').1
      rw [if_pos (by simp; omega)]
      refine ⟨hs, ?_⟩
      rw [txt_at e1']
      dsimp only
      rw [lit_nl, dc]
      by_cases h10 : d = 10
      · rw [decide_eq_true h10, if_neg (by simp)]
        exact hQ
      · have h34 : d = 34 := by simpa [h10] using e2
        rw [decide_eq_false h10, if_pos (by simp), lit_quo, dc, decide_eq_true h34]
        exact ⟨hs, hQ⟩
theorem scan_w (hd : l.drop p = c :: r) (hp : p ≤ l.length) (hl : l.length ≤ 7000) (h : P.nx (eE W l s1 s2 s3 s4 s6 p (wordN r))) :
    sWhile (tAndQ (tTst (tBin (gLt) (tNm 5) (tCl (gLen) (lCons (tNm 0) (lNil))))) (tTst (tBin (gIns true) (tBin gIx (tNm 0) (tNm 5)) (tIm (.str " \n()'\";"))))) (b__law_tokens_4 F) P (eE W l s1 s2 s3 s4 s6 p 0) := by
  have hs : (S l).length ≤ sizeLine := by rw [S_len]; exact szLine (by omega)
  have hn := len_tail hd hp
  refine scan0 (ρ := eE W l s1 s2 s3 s4 s6 p) (stop := wordN r) (fun k hk Q hQ => ?_) (fun Q hQ => ?_) (fun k hk P' h => bump k P' h) h
  · obtain ⟨d, e1, e2⟩ := tw_lt hk
    have e1' := (at_tail hd k).trans e1
    have hi := (List.getElem?_eq_some_iff.mp e1').1
    unfold eE at hQ ⊢
    walk_at "y"
    rw [S_len] at hs ⊢
    refine ⟨hs, ?_⟩
    rw [if_pos (by simp; omega)]
    refine ⟨hs, ?_⟩
    rw [txt_at e1']
    dsimp only
    rw [lit_end, in_S, decide_eq_false (by simpa using e2)]
    exact hQ
  · unfold eE at hQ ⊢
    walk_at "y"
    rw [S_len] at hs ⊢
    refine ⟨hs, ?_⟩
    rcases tw_at (P := fun c => !decide (c ∈ Lend)) (s := r) with e | ⟨d, e1, e2⟩
    · have e : wordN r = r.length := e
      rw [e] at hQ ⊢
      rw [if_neg (by simp; omega)]
      exact hQ
    · have e1' := (at_tail hd (wordN r)).trans e1
      have hi := (List.getElem?_eq_some_iff.mp e1').1
      rw [if_pos (by simp; omega)]
      refine ⟨hs, ?_⟩
      rw [txt_at e1']
      dsimp only
      rw [lit_end, in_S, decide_eq_true (by simpa using e2)]
      exact hQ
end
end Y
namespace Y
set_option hygiene false
open PySem PySem.Spec L2 SX
local macro_rules | `(tactic| walk_at "y") => `(tactic| dsimp only [tGet2, ex0, exB, endB, envOf, Env.set, Env.put, Env.stSet, Env.push, tFldY, sFldY, tMtE, tMethY, tMakeY, callF, tPub, pub, M.ob?, Ob.vw, Ob.toM, sSetE, tMaxD, gIntS, sRaise, sTry, sTryAs, endN, tXfY, tSm, gFind, gJoin, gStr, gStarts, List.zip_cons_cons, List.zip_nil_left, List.reverse_cons, List.reverse_nil, TF.calm, gx0, putFD, tCallV, tCallL, capt, gLtD, gSum, gMax, gSorted2, sNil, sBk, sCt, sDrop, sIf, asg, sAsg, sRet, sRetN, tIm, tNm, tBin, w2, vw, Sl.m?, tTst, tTru, M.tru, tAndQ, tOrQ, tNotQ, tAndX, tOrX, tNotX, tIfX, lNil, lCons, tOn, fInD, fIxD, tGet1, vwD, getOr, M.isD, sPar2, tLc2X, compL2, tChn, tFrz, froz, tTp, tLs, tCl, vws, tMt, Sl.m!, Sl.up, M.res, gLen, gInt, gAdd, gSub, gMul, gMulS, gDiv, gMod, gPow, gII, gI0, gEqs, gEqs2, gIx, gPop, gApp, gRev, gExt, gTuple, gList, gDict, gIs, gIsi, gAll, gIns, gSorted, gSl, M.lq?, M.lst?, M.sq?, M.dat?, M.isNon, gLt, gLe, gGt, gGe, sFor, iSeq, srcOf, iEnm, enmOf, iRg1, iRg2, bnd, setAll, backS, Sl.isP, tSlc, pNo, pSo, sSetI, hasM, setM, tDspK, tDspT, pairG, D.key?, D.keys?, D.tkey?, putAll, tNewK, tNewT, tNeg, sUnp, tCall, argMs, argM, argS, slots, putB, stepB, putS_lo_ls_ls, putS_lo_ls_dk, putS_lo_ls_dt, putS_lo_ls_no, putS_pa_ls_ls, putS_pa_ls_dk, putS_pa_ls_dt, putS_pa_ls_no, putS_lo_rd_ls, putS_lo_rd_dk, putS_lo_rd_dt, putS_lo_rd_no, putS_pa_rd_ls, putS_pa_rd_dk, putS_pa_rd_dt, putS_pa_rd_no, putS_lo_dk_ls, putS_lo_dk_dk, putS_lo_dk_dt, putS_lo_dk_no, putS_pa_dk_ls, putS_pa_dk_dk, putS_pa_dk_dt, putS_pa_dk_no, putS_lo_dt_ls, putS_lo_dt_dk, putS_lo_dt_dt, putS_lo_dt_no, putS_pa_dt_ls, putS_pa_dt_dk, putS_pa_dt_dt, putS_pa_dt_no, putS_lo_im, putS_lo_sq, putS_pa_im, putS_pa_sq, M.own, M.fit, fins, Sl.fin, envOf, tLcX, compL, wipeE, restE, keepS, qYes, kD, dGet, List.getElem?_cons_zero, List.getElem?_cons_succ, List.getElem?_nil, List.set_cons_zero, List.set_cons_succ, List.map_cons, List.map_nil, List.take_succ_cons, List.take_zero, List.length_cons, List.length_nil, List.head?_cons, List.tail_cons, Option.join_some, List.cons_append, List.nil_append, List.replicate])
local macro_rules | `(tactic| walk_at "n") => `(tactic| ((try dsimp only); refine seq_step fun R hR => ?_; walk_at "y"))
local macro_rules | `(tactic| walk_at "i") => `(tactic| simp only [Bool.false_xor, Bool.true_xor, Bool.not_true, Bool.not_false, Bool.false_eq_true, reduceIte, isiT, M.ty, String.reduceBEq, Bool.or_false, Bool.false_or, Bool.and_false, Bool.and_true, Bool.true_and, Bool.false_and, Bool.or_true, List.mem_cons, true_or, or_true, true_and, and_true, String.reduceEq, decide_true, decide_false])
local macro_rules | `(tactic| walk_at "s") => `(tactic| (subst hR; walk_at "n"))
local macro_rules | `(tactic| walk_at "z") => `(tactic| (simp only [List.map_cons, List.map_nil, atI_c0, atI_c1, atI_c2, atI_c3, atI_c4, atI_c5]; (try walk_at "y")))
local macro_rules | `(tactic| walk_at "e") => `(tactic| repeat (first | rw [if_pos (by decide +kernel)] | rw [if_neg (by decide +kernel)]))
theorem qt_spec : ∀ r : Tx, (34 ∈ r.take (till 10 r) → r[qtN r]? = some 34 ∧ qtN r = till 34 r) ∧ (34 ∉ r.take (till 10 r) → r[qtN r]? ≠ some 34 ∧ qtN r = till 10 r)
  | [] => ⟨fun h => by simp at h, fun _ => ⟨by simp, rfl⟩⟩
  | x :: r => by
    obtain ⟨i1, i2⟩ := qt_spec r
    by_cases h10 : x = 10
    · subst h10
      have e1 : till 10 (10 :: r) = 0 := by simp [till]
      have e2 : qtN (10 :: r) = 0 := by simp [qtN]
      rw [e1, e2]
      exact ⟨fun h => by simp at h, fun _ => ⟨by simp, rfl⟩⟩
    have e1 : till 10 (x :: r) = till 10 r + 1 := by unfold till; rw [List.takeWhile_cons, if_pos (by simpa using h10)]; rfl
    by_cases h34 : x = 34
    · subst h34
      have e2 : qtN (34 :: r) = 0 := by simp [qtN]
      have e3 : till 34 (34 :: r) = 0 := by simp [till]
      rw [e1, e2, e3]
      exact ⟨fun _ => ⟨rfl, rfl⟩, fun h => absurd (by simp) h⟩
    have e2 : qtN (x :: r) = qtN r + 1 := by unfold qtN; rw [List.takeWhile_cons, if_pos (by simp [h10, h34])]; rfl
    have e3 : till 34 (x :: r) = till 34 r + 1 := by unfold till; rw [List.takeWhile_cons, if_pos (by simpa using h34)]; rfl
    rw [e1, e2, e3, List.take_succ_cons, List.getElem?_cons_succ]
    constructor
    · intro h
      obtain ⟨a, b⟩ := i1 ((List.mem_cons.mp h).resolve_left fun z => h34 z.symm)
      exact ⟨a, by omega⟩
    · intro h
      obtain ⟨a, b⟩ := i2 fun z => h (List.mem_cons_of_mem _ z)
      exact ⟨a, by omega⟩
theorem strTok_q (r : Tx) : strTok (34 :: r) = if 34 ∈ r.take (till 10 r) then ((if till 34 r ≤ 100 then ("string" : Str) else ("wrong" : Str)), till 34 r + 2) else (("wrong" : Str), till 10 r + 1) := by
  have el : line (34 :: r) = till 10 r + 1 := by unfold line till; rw [List.takeWhile_cons, if_pos (by decide)]; rfl
  unfold strTok
  rw [el]
  rfl
theorem lx_par0 {p c : Nat} {r : Tx} (h : c = 40 ∨ c = 41 ∨ c = 39) : Lx p (c :: r) = (("sign" : Str), p, p + 1) :: Lx (p + 1) r := by
  rw [lx_tok (by omega) (by omega) (by omega), tokOf_cons, if_pos h]; rfl
theorem wordN_cons {c : Nat} {r : Tx} (h : c ∉ Lend) : wordN (c :: r) = wordN r + 1 := by
  unfold wordN; rw [List.takeWhile_cons, if_pos (by simp [h])]; rfl
def F_ltoks : TF := fun ms W G Gx => ∃ l : Tx, ms = [.im (.str (S l))] ∧ l.length ≤ 7000 ∧ Uni l ∧ ∀ fin, G (.ls ((toksOf l).map tkD)) fin W
theorem ltloop {W : Sto} {PP : EndP} {l : Tx} (hl : l.length ≤ 7000) (hu : Uni l) : ∀ (n : Nat) (lo : Int) (p : Nat) (acc : List Tok3) (s3 s4 s5 s6 : Sl), l.length - p < n → p ≤ l.length → acc.length ≤ p →
    (∀ s3 s4 s5 s6, PP.nx ⟨[.pa (.im (.str (S l))), .lo (.ls ((acc ++ Lx p (l.drop p)).map tkD)), .lo (.im (.int (l.length : Nat))), s3, s4, s5, s6], W⟩) →
    loopS (.one 3) (b__law_tokens_1 F_lsort) (fun _ => True) PP (gRng lo n) ⟨[.pa (.im (.str (S l))), .lo (.ls (acc.map tkD)), .lo (.im (.int (p : Nat))), s3, s4, s5, s6], W⟩ := by
  have hs : (S l).length ≤ sizeLine := by rw [S_len]; exact szLine (by omega)
  intro n
  induction n with
  | zero => intro lo p acc s3 s4 s5 s6 h; omega
  | succ n ih =>
    intro lo p acc s3 s4 s5 s6 h1 h2 h3 q
    rw [gRng_succ]
    refine loop_step trivial fun L hL => ?_
    unfold b__law_tokens_1
    walk_at "y"
    walk_at "n"
    refine ⟨hs, ?_⟩
    rw [S_len]
    cases hd : l.drop p with
    | nil =>
      have e : p = l.length := by have := List.drop_eq_nil_iff.mp hd; omega
      rw [if_pos (by simp; omega)]
      rw [hd] at q
      have q := q (.lo (.im (.int lo))) s4 s5 s6
      rw [lx_nil, List.append_nil, ← e] at q
      exact q
    | cons c r =>
      have hlen := len_tail hd h2
      have hc : l[p]? = some c := by rw [← List.head?_drop, hd]; rfl
      rw [if_neg (by simp; omega)]
      rw [hd] at q
      subst hR
      walk_at "n"
      rw [txt_at hc]
      refine ⟨hs, ?_⟩
      dsimp only
      subst hR
      walk_at "n"
      subst hR
      have dc : ∀ d x : Nat, decide (({ cps := #[d] } : Str) = S [x]) = decide (d = x) := fun d x => by rw [show ({ cps := #[d] } : Str) = S [d] from rfl, S_eqD]; simp
      refine seq_step fun R hR => ?_
      -- what comes behind: at = end
      have fin : ∀ (acc' : List Tok3) (k : Nat) (s6 : Sl), p + 1 + k ≤ l.length → acc'.length ≤ p + 1 + k → (acc ++ Lx p (c :: r) = acc' ++ Lx (p + 1 + k) (l.drop (p + 1 + k))) → R (eE W l (.lo (.ls (acc'.map tkD))) (.lo (.im (.int (p : Nat)))) (.lo (.im (.int lo))) (.lo (.im (.str ⟨#[c]⟩))) s6 p k) := fun acc' k s6 g1 g2 g3 => by
        unfold eE
        subst hR
        walk_at "y"
        rw [hL]
        refine ih (lo + 1) (p + 1 + k) acc' _ _ _ _ (by omega) g1 g2 ?_
        rw [← g3]
        exact q
      have dr : ∀ k : Nat, l.drop (p + 1 + k) = r.drop k := fun k => by rw [show p + 1 + k = p + (1 + k) by omega, ← List.drop_drop, hd, Nat.add_comm 1 k]; rfl
      show sIf _ _ _ _ (eE W l (.lo (.ls (acc.map tkD))) (.lo (.im (.int (p : Nat)))) (.lo (.im (.int lo))) (.lo (.im (.str ⟨#[c]⟩))) s6 p 0)
      have alen : (acc.map tkD).length < sizeLine := by rw [List.length_map]; exact szLt (by omega)
      dsimp only [sIf, tTst, tBin, tNm, tIm, w2, vw, Sl.m?, List.getElem?_cons_zero, List.getElem?_cons_succ, gEqs2, gEqs, M.res]
      rw [lit_semi, dc, Bool.false_xor]
      by_cases k1 : c = 59
      · rw [if_pos (by simp [k1])]
        refine scan_nl hd h2 hl ?_
        have tl := till_le 10 r
        refine fin acc (till 10 r) s6 (by omega) (by omega) ?_
        subst k1
        have el : line (59 :: r) = till 10 r + 1 := by unfold line till; rw [List.takeWhile_cons, if_pos (by decide)]; rfl
        rw [lx_com, el, dr, show p + (till 10 r + 1) = p + 1 + till 10 r by omega]; rfl
      rw [if_neg (by simp [k1])]
      dsimp only [gIns]
      rw [lit_signs, in_S, Bool.false_xor]
      by_cases k2 : c = 40 ∨ c = 41 ∨ c = 39
      · rw [if_pos (by simpa using k2)]
        walk_at "y"
        refine ⟨trivial, by simp [sizeLine_eq], alen, ?_⟩
        have := fin (acc ++ [(("sign" : Str), p, p + 1)]) 0 s6 (by omega) (by simp; omega) (by rw [lx_par0 k2, dr]; simp)
        rw [List.map_append] at this
        exact this
      rw [if_neg (by simpa using k2)]
      rw [lit_quo, dc]
      by_cases k3 : c = 34
      · rw [if_pos (by simp [k3])]
        refine seq_step fun R1 hR1 => ?_
        refine scan_q hd h2 hl ?_
        show R1 _
        subst k3
        have tokE : Lx p (34 :: r) = ((strTok (34 :: r)).1, p, p + (strTok (34 :: r)).2) :: Lx (p + (strTok (34 :: r)).2) ((34 :: r).drop (strTok (34 :: r)).2) := by
          rw [lx_tok (by decide) (by decide) (by decide), tokOf_cons, if_neg (by decide), if_pos rfl]
        have dd : ∀ k : Nat, (34 :: r).drop (k + 1) = l.drop (p + 1 + k) := fun k => by rw [dr]; rfl
        obtain ⟨q1, q2⟩ := qt_spec r
        subst hR1
        have body : ∀ (k : Nat) (b : Bool) (R2 : Env → Prop), R2 = (sSeq (sAsg 5 (tBin gAdd (tNm 5) (tCl (gIntS) (lCons (tNm 6) (lNil)))))
            (sDrop (tMtE gApp (tNm 1) (lCons (tTp (lCons (tIfX (tAndQ (tTru (tNm 6)) (tTst (tBin (gLt) (tBin gSub (tNm 5) (tNm 2)) (tIm (.int 103))))) (tIm (.str "string")) (tIm (.str "wrong"))) (lCons (tNm 2) (lCons (tNm 5) (lNil))))) (lNil))))) { nx := R, rt := PP.rt, ct := L, bk := PP.nx } →
            (p + 1 + (k + if b = true then 1 else 0)) ≤ l.length →
            (Lx p (34 :: r) = ((if b = true ∧ k + 2 < 103 then ("string" : Str) else ("wrong" : Str)), p, p + 1 + (k + if b = true then 1 else 0)) :: Lx (p + 1 + (k + if b = true then 1 else 0)) (l.drop (p + 1 + (k + if b = true then 1 else 0)))) →
            R2 ⟨[.pa (.im (.str (S l))), .lo (.ls (acc.map tkD)), .lo (.im (.int (p : Nat))), .lo (.im (.int lo)), .lo (.im (.str ⟨#[34]⟩)), .lo (.im (.int ((p + 1 + k : Nat) : Int))), .lo (.im (.bl b))], W⟩ := fun k b R2 hR2 g1 g2 => by
          subst hR2
          walk_at "n"
          subst hR
          have put : ∀ (srt : Str) (j : Nat), srt = (if b = true ∧ k + 2 < 103 then ("string" : Str) else ("wrong" : Str)) → j = k + (if b = true then 1 else 0) → R ⟨[.pa (.im (.str (S l))), .lo (.ls (acc.map tkD ++ [.tup [.str srt, .int (p : Nat), .int ((p + 1 + j : Nat) : Int)]])), .lo (.im (.int (p : Nat))), .lo (.im (.int lo)), .lo (.im (.str ⟨#[34]⟩)), .lo (.im (.int ((p + 1 + j : Nat) : Int))), .lo (.im (.bl b))], W⟩ := fun srt j h1 h2 => by
            subst h2
            rw [← h1] at g2
            have := fin (acc ++ [(srt, p, p + 1 + (k + if b = true then 1 else 0))]) (k + if b = true then 1 else 0) (.lo (.im (.bl b))) g1 (by simp; omega) (by rw [g2]; simp)
            rw [List.map_append] at this
            exact this
          cases b with
          | true =>
            walk_at "y"
            rw [show ((p + 1 + k : Nat) : Int) + (if true = true then 1 else 0) = ((p + 1 + (k + 1) : Nat) : Int) by simp; omega]
            refine ⟨trivial, ?_⟩
            by_cases h : k + 2 < 103
            · rw [if_pos rfl, if_pos (by simp; omega)]
              exact ⟨by simp [sizeLine_eq], alen, put "string" (k + 1) (by rw [if_pos ⟨rfl, h⟩]) (by simp)⟩
            · rw [if_pos rfl, if_neg (by simp; omega)]
              exact ⟨by simp [sizeLine_eq], alen, put "wrong" (k + 1) (by rw [if_neg (fun z => h z.2)]) (by simp)⟩
          | false =>
            walk_at "y"
            rw [show ((p + 1 + k : Nat) : Int) + (if false = true then 1 else 0) = ((p + 1 + k : Nat) : Int) by simp]
            refine ⟨trivial, ?_⟩
            rw [if_neg (by simp), if_neg (by simp)]
            exact ⟨by simp [sizeLine_eq], alen, put "wrong" k (by rw [if_neg (fun z => by cases z.1)]) (by simp)⟩
        unfold eE
        refine seq_step fun R2 hR2 => ?_
        walk_at "y"
        rw [S_len] at hs ⊢
        refine ⟨hs, ?_⟩
        by_cases hq : 34 ∈ r.take (till 10 r)
        · obtain ⟨a, b⟩ := q1 hq
          have a' := (at_tail hd (qtN r)).trans a
          have hi := (List.getElem?_eq_some_iff.mp a').1
          rw [if_pos (by simp; omega)]
          refine ⟨hs, ?_⟩
          rw [txt_at a']
          dsimp only
          rw [show (false ^^ decide (({ cps := #[34] } : Str) = S [34])) = true by rw [dc]; rfl]
          refine body (qtN r) true _ hR2 (by simp; omega) ?_
          rw [tokE, strTok_q, if_pos hq, b]
          dsimp only
          rw [if_pos rfl, show p + (till 34 r + 2) = p + 1 + (till 34 r + 1) by omega, dd]
          by_cases h100 : till 34 r ≤ 100
          · rw [if_pos h100, if_pos ⟨rfl, by omega⟩]
          · rw [if_neg h100, if_neg (fun z => by have := z.2; omega)]
        · obtain ⟨a, b⟩ := q2 hq
          have tl := till_le 10 r
          have gb : Lx p (34 :: r) = ((if false = true ∧ qtN r + 2 < 103 then ("string" : Str) else ("wrong" : Str)), p, p + 1 + (qtN r + if false = true then 1 else 0)) :: Lx (p + 1 + (qtN r + if false = true then 1 else 0)) (l.drop (p + 1 + (qtN r + if false = true then 1 else 0))) := by
            rw [tokE, strTok_q, if_neg hq, b]
            dsimp only
            rw [if_neg (fun z => by cases z.1), if_neg (by simp), show p + (till 10 r + 1) = p + 1 + till 10 r by omega, dd]
            rfl
          by_cases hi : p + 1 + qtN r < l.length
          · rw [if_pos (by simp; omega)]
            refine ⟨hs, ?_⟩
            obtain ⟨d, e1⟩ : ∃ d, l[p + 1 + qtN r]? = some d := ⟨_, List.getElem?_eq_getElem hi⟩
            have e2 := (at_tail hd (qtN r)).symm.trans e1
            have hd34 : d ≠ 34 := fun z => a (by rw [e2, z])
            rw [txt_at e1]
            dsimp only
            rw [show (false ^^ decide (({ cps := #[d] } : Str) = S [34])) = false by rw [dc, decide_eq_false hd34]; rfl]
            exact body (qtN r) false _ hR2 (by rw [if_neg (by simp)]; omega) gb
          · rw [if_neg (by simp; omega)]
            exact body (qtN r) false _ hR2 (by rw [if_neg (by simp)]; omega) gb
      rw [if_neg (by simp [k3])]
      (try walk_at "y")
      rw [show Str.ofString " " = S [32] by decide +kernel, dc, Bool.true_xor]
      by_cases k4 : c = 32
      · rw [if_neg (by simp [k4]), if_neg (by simp)]
        have := fin acc 0 s6 (by omega) (by omega) (by rw [lx_bl (.inl k4), dr]; rfl)
        exact this
      rw [if_pos (by simp [k4])]
      rw [lit_nl, dc]
      by_cases k5 : c = 10
      · rw [if_neg (by simp [k5])]
        have := fin acc 0 s6 (by omega) (by omega) (by rw [lx_bl (.inr k5), dr]; rfl)
        exact this
      rw [if_pos (by simp [k5])]
      have hcE : c ∉ Lend := by
        simp only [Lend, List.mem_cons, List.not_mem_nil, or_false, not_or]
        omega
      have wc := wordN_cons (r := r) hcE
      have wl := wordN_le r
      refine seq_step fun R1 hR1 => ?_
      refine scan_w hd h2 hl ?_
      show R1 _
      have tokE : Lx p (c :: r) = ((wordTok (c :: r)).1, p, p + (wordTok (c :: r)).2) :: Lx (p + (wordTok (c :: r)).2) ((c :: r).drop (wordTok (c :: r)).2) := by
        rw [lx_tok k4 k5 k1, tokOf_cons, if_neg k2, if_neg k3]
      have dd : ∀ k : Nat, (c :: r).drop (k + 1) = l.drop (p + 1 + k) := fun k => by rw [dr]; rfl
      have e0 : Txt.slice (S l) (some ((p : Nat) : Int)) (some ((p + 1 + wordN r : Nat) : Int)) = S ((c :: r).take (wordN (c :: r))) := by
        rw [slice_midN (by omega) (by omega), hd, wc]; congr 2; omega
      have e1 : Txt.slice (S l) (some ((p + 1 + wordN r : Nat) : Int)) (some (((p + 1 + wordN r : Nat) : Int) + 1)) = S ((l.drop (p + 1 + wordN r)).take 1) := slice_one (by omega)
      have e2 : (l.drop (p + 1 + wordN r)).take 1 = [39] ↔ (c :: r)[wordN (c :: r)]? = some 39 := by
        rw [dr, wc, List.getElem?_cons_succ, ← List.head?_drop]
        cases r.drop (wordN r) with
        | nil => simp
        | cons x y => simp
      subst hR1
      unfold eE
      walk_at "y"
      rw [e0, e1, lit_hash, lit_ap, S_eqD, S_eqD]
      have go : ¬ ((c :: r).take (wordN (c :: r)) = [35] ∧ (c :: r)[wordN (c :: r)]? = some 39) → Lx p (c :: r) = (sortOf ((c :: r).take (wordN (c :: r))), p, p + 1 + wordN r) :: Lx (p + 1 + wordN r) (l.drop (p + 1 + wordN r)) := fun hn => by
        rw [tokE]
        unfold wordTok
        rw [if_neg hn]
        dsimp only
        rw [wc, show p + (wordN r + 1) = p + 1 + wordN r by omega, dd]
      have hne : (c :: r).take (wordN (c :: r)) ≠ [] := by rw [wc]; simp
      have huw : Uni ((c :: r).take (wordN (c :: r))) := by rw [← hd]; exact (hu.drop p).take _
      have hwl : ((c :: r).take (wordN (c :: r))).length ≤ 7000 := by rw [List.length_take, List.length_cons]; omega
      have word : ¬ ((c :: r).take (wordN (c :: r)) = [35] ∧ (c :: r)[wordN (c :: r)]? = some 39) → ∀ srt, srt = sortOf ((c :: r).take (wordN (c :: r))) → R ⟨[.pa (.im (.str (S l))), .lo (.ls (acc.map tkD ++ [.tup [.str srt, .int (p : Nat), .int ((p + 1 + wordN r : Nat) : Int)]])), .lo (.im (.int (p : Nat))), .lo (.im (.int lo)), .lo (.im (.str ⟨#[c]⟩)), .lo (.im (.int ((p + 1 + wordN r : Nat) : Int))), s6], W⟩ := fun hn srt hsrt => by
        have := fin (acc ++ [(srt, p, p + 1 + wordN r)]) (wordN r) s6 (by omega) (by simp; omega) (by rw [go hn, hsrt]; simp)
        rw [List.map_append] at this
        exact this
      refine ⟨hs, ?_⟩
      by_cases h35 : (c :: r).take (wordN (c :: r)) = [35]
      · rw [if_pos (by simp [h35])]
        refine ⟨hs, ?_⟩
        by_cases h39 : (c :: r)[wordN (c :: r)]? = some 39
        · rw [if_pos (by simp [e2.mpr h39])]
          have hw39 : p + 1 + (wordN r + 1) ≤ l.length := by
            have := (List.getElem?_eq_some_iff.mp h39).1
            rw [wc, List.length_cons] at this; omega
          have := fin (acc ++ [(("sign" : Str), p, p + 1 + (wordN r + 1))]) (wordN r + 1) s6 hw39 (by simp; omega) (by
            rw [tokE]
            unfold wordTok
            rw [if_pos ⟨h35, h39⟩]
            dsimp only
            rw [wc, show p + (wordN r + 1 + 1) = p + 1 + (wordN r + 1) by omega, dd]
            simp)
          rw [List.map_append] at this
          refine seq_step fun R3 hR3 => ?_
          walk_at "y"
          rw [show ((p + 1 + wordN r : Nat) : Int) + 1 = ((p + 1 + (wordN r + 1) : Nat) : Int) by omega]
          subst hR3
          walk_at "y"
          exact ⟨trivial, by simp [sizeLine_eq], alen, this⟩
        · rw [if_neg (by simp [mt e2.mp h39])]
          refine ⟨trivial, hs, rfl, .nil, _, rfl, hne, hwl, huw, fun fin' => ⟨rfl, ?_⟩⟩
          (try walk_at "y")
          exact ⟨by simp [sizeLine_eq], alen, word (fun z => h39 z.2) _ rfl⟩
      · rw [if_neg (by simp [h35])]
        refine ⟨trivial, hs, rfl, .nil, _, rfl, hne, hwl, huw, fun fin' => ⟨rfl, ?_⟩⟩
        walk_at "y"
        exact ⟨by simp [sizeLine_eq], alen, word (fun z => h35 z.1) _ rfl⟩
theorem body_ltoks : Body F_ltoks 7 1 fun _ => t__law_tokens F_lsort := by
  rintro ms W G Gx hl ⟨l, rfl, hw, hu, q⟩
  show t__law_tokens _ _ ⟨[Sl.pa (.im (.str (S l))), .no, .no, .no, .no, .no, .no], W⟩
  unfold t__law_tokens
  walk_at "n"
  refine ⟨by simp [sizeLine_eq], ?_⟩
  subst hR
  walk_at "n"
  subst hR
  walk_at "n"
  rw [S_len]
  refine ⟨szLine (by omega), by omega, by omega, ?_⟩
  rw [show (((l.length : Nat) : Int) + 1).toNat = l.length + 1 by omega]
  refine ltloop hw hu (l.length + 1) 0 0 [] _ _ _ _ (by omega) (by omega) (by simp) fun s3 s4 s5 s6 => ?_
  show R _
  subst hR
  walk_at "y"
  exact q _
end Y
namespace Y
set_option hygiene false
open PySem PySem.Spec L2 SX
local macro_rules | `(tactic| walk_at "y") => `(tactic| dsimp only [tGet2, ex0, exB, endB, envOf, Env.set, Env.put, Env.stSet, Env.push, tFldY, sFldY, tMtE, tMethY, tMakeY, callF, tPub, pub, M.ob?, Ob.vw, Ob.toM, sSetE, tMaxD, gIntS, sRaise, sTry, sTryAs, endN, tXfY, tSm, gFind, gJoin, gStr, gStarts, List.zip_cons_cons, List.zip_nil_left, List.reverse_cons, List.reverse_nil, TF.calm, gx0, putFD, tCallV, tCallL, capt, gLtD, gSum, gMax, gSorted2, sNil, sBk, sCt, sDrop, sIf, asg, sAsg, sRet, sRetN, tIm, tNm, tBin, w2, vw, Sl.m?, tTst, tTru, M.tru, tAndQ, tOrQ, tNotQ, tAndX, tOrX, tNotX, tIfX, lNil, lCons, tOn, fInD, fIxD, tGet1, vwD, getOr, M.isD, sPar2, tLc2X, compL2, tChn, tFrz, froz, tTp, tLs, tCl, vws, tMt, Sl.m!, Sl.up, M.res, gLen, gInt, gAdd, gSub, gMul, gMulS, gDiv, gMod, gPow, gII, gI0, gEqs, gEqs2, gIx, gPop, gApp, gRev, gExt, gTuple, gList, gDict, gIs, gIsi, gAll, gIns, gSorted, gSl, M.lq?, M.lst?, M.sq?, M.dat?, M.isNon, gLt, gLe, gGt, gGe, sFor, iSeq, srcOf, iEnm, enmOf, iRg1, iRg2, bnd, setAll, backS, Sl.isP, tSlc, pNo, pSo, sSetI, hasM, setM, tDspK, tDspT, pairG, D.key?, D.keys?, D.tkey?, putAll, tNewK, tNewT, tNeg, sUnp, tCall, argMs, argM, argS, slots, putB, stepB, putS_lo_ls_ls, putS_lo_ls_dk, putS_lo_ls_dt, putS_lo_ls_no, putS_pa_ls_ls, putS_pa_ls_dk, putS_pa_ls_dt, putS_pa_ls_no, putS_lo_rd_ls, putS_lo_rd_dk, putS_lo_rd_dt, putS_lo_rd_no, putS_pa_rd_ls, putS_pa_rd_dk, putS_pa_rd_dt, putS_pa_rd_no, putS_lo_dk_ls, putS_lo_dk_dk, putS_lo_dk_dt, putS_lo_dk_no, putS_pa_dk_ls, putS_pa_dk_dk, putS_pa_dk_dt, putS_pa_dk_no, putS_lo_dt_ls, putS_lo_dt_dk, putS_lo_dt_dt, putS_lo_dt_no, putS_pa_dt_ls, putS_pa_dt_dk, putS_pa_dt_dt, putS_pa_dt_no, putS_lo_im, putS_lo_sq, putS_pa_im, putS_pa_sq, M.own, M.fit, fins, Sl.fin, envOf, tLcX, compL, wipeE, restE, keepS, qYes, kD, dGet, List.getElem?_cons_zero, List.getElem?_cons_succ, List.getElem?_nil, List.set_cons_zero, List.set_cons_succ, List.map_cons, List.map_nil, List.take_succ_cons, List.take_zero, List.length_cons, List.length_nil, List.head?_cons, List.tail_cons, Option.join_some, List.cons_append, List.nil_append, List.replicate])
local macro_rules | `(tactic| walk_at "n") => `(tactic| ((try dsimp only); refine seq_step fun R hR => ?_; walk_at "y"))
local macro_rules | `(tactic| walk_at "i") => `(tactic| simp only [Bool.false_xor, Bool.true_xor, Bool.not_true, Bool.not_false, Bool.false_eq_true, reduceIte, isiT, M.ty, String.reduceBEq, Bool.or_false, Bool.false_or, Bool.and_false, Bool.and_true, Bool.true_and, Bool.false_and, Bool.or_true, List.mem_cons, true_or, or_true, true_and, and_true, String.reduceEq, decide_true, decide_false])
local macro_rules | `(tactic| walk_at "s") => `(tactic| (subst hR; walk_at "n"))
local macro_rules | `(tactic| walk_at "z") => `(tactic| (simp only [List.map_cons, List.map_nil, atI_c0, atI_c1, atI_c2, atI_c3, atI_c4, atI_c5]; (try walk_at "y")))
local macro_rules | `(tactic| walk_at "e") => `(tactic| repeat (first | rw [if_pos (by decide +kernel)] | rw [if_neg (by decide +kernel)]))
theorem fin_sg0 {fo : List D} {r : List Fr} {st : List Nat} {pl : Nat} {ps : List D} {d : D} : RS.fin ⟨fo, ⟨true, pl, ps⟩ :: r, st⟩ d = RS.fin ⟨fo, r, st⟩ (lsD (ps ++ [d]) pl) := by
  unfold RS.fin
  dsimp only
  rw [finF, if_pos rfl]
theorem sign_open0 {s : RS} {w : Tx} {p : Nat} (h1 : w ≠ [40]) (h2 : w ≠ [41]) (hd : s.pend.length + 1 ≤ 60) : signF s w p = .ok ⟨s.forms, ⟨true, s.starts.length, [.tup [.str "name", .str (if w = [39] then "quote" else "syntax"), .int ((s.starts ++ [p]).length : Nat)]]⟩ :: s.pend, s.starts ++ [p] ++ [p]⟩ := by
  unfold signF RS.open_
  rw [if_neg h1, if_neg h2, if_neg (by omega)]
  rfl
theorem take_cons (l : Tx) (t : Tok3) (r : List Tok3) (s : RS) : takeAll l (t :: r) s = match takeF l s t with
    | .error e => .error e
    | .ok s1 => takeAll l r s1 := rfl
/-! ### the law's descent, and the program's machine -/
def wordT (l : Tx) (t : Tok3) : Tx := (l.drop t.2.1).take (t.2.2 - t.2.1)
mutual
def datF (l : Tx) : Nat → List Tok3 → List Nat → Nat → Except Nat (D × List Tok3 × List Nat)
  | 0, _, _, _ => .error 0
  | _ + 1, [], _, _ => .error l.length
  | n + 1, t :: r, st, dp => if t.1 = "wrong" ∨ wordT l t = [41] ∨ (t.1 = "sign" ∧ dp = 60) then .error t.2.1
    else if t.1 ≠ "sign" then .ok (.tup [.str (valF t.1 (wordT l t)).1, (valF t.1 (wordT l t)).2, .int st.length], r, st ++ [t.2.1])
    else if wordT l t ≠ [40] then match datF l n r (st ++ [t.2.1] ++ [t.2.1]) (dp + 1) with
      | .error e => .error e
      | .ok (d, r', st') => .ok (lsD [.tup [.str "name", .str (if wordT l t = [39] then "quote" else "syntax"), .int ((st ++ [t.2.1]).length : Nat)], d] st.length, r', st')
    else lstF l n r (st ++ [t.2.1]) (dp + 1) [] st.length
def lstF (l : Tx) : Nat → List Tok3 → List Nat → Nat → List D → Nat → Except Nat (D × List Tok3 × List Nat)
  | 0, _, _, _, _, _ => .error 0
  | _ + 1, [], _, _, _, _ => .error l.length
  | n + 1, t :: r, st, dp, acc, pl => if wordT l t = [41] then .ok (lsD acc pl, r, st) else match datF l n (t :: r) st dp with
    | .error e => .error e
    | .ok (d, r', st') => lstF l n r' st' dp (acc ++ [d]) pl
end
structure Tk41 (l : Tx) (t : Tok3) : Prop where
  c : wordT l t = [41] → t.1 = "sign"
def run (l : Tx) (ts : List Tok3) (s : RS) : Except Nat RS := match takeAll l ts s with
  | .error e => .error e
  | .ok s1 => if s1.pend = [] then .ok s1 else .error l.length
theorem run_cons {l : Tx} {t : Tok3} {r : List Tok3} {s s1 : RS} (h : takeF l s t = .ok s1) : run l (t :: r) s = run l r s1 := by
  unfold run; rw [take_cons, h]
theorem run_err {l : Tx} {t : Tok3} {r : List Tok3} {s : RS} {e : Nat} (h : takeF l s t = .error e) : run l (t :: r) s = .error e := by
  unfold run; rw [take_cons, h]
theorem takeF_sign {l : Tx} {s : RS} {t : Tok3} (h : t.1 = "sign") : takeF l s t = signF s (wordT l t) t.2.1 := by
  unfold takeF
  rw [h, if_neg (show ¬("sign" : Str) = "wrong" by decide +kernel), if_pos rfl]; rfl
/-- what is told of a result -/
def Told (l : Tx) (toks : List Tok3) (s : RS) (mk : List Nat → RS) : Except Nat (D × List Tok3 × List Nat) → Prop
  | .error e => run l toks s = .error e
  | .ok (d, r', st') => run l toks s = run l r' ((mk st').fin d) ∧ r'.length < toks.length ∧ (∃ k, r' = toks.drop k)
theorem drop_sub {toks r' : List Tok3} {k : Nat} (h : r' = toks.drop k) {P : Tok3 → Prop} (a : ∀ t ∈ toks, P t) : ∀ t ∈ r', P t := fun t ht => a t (by rw [h] at ht; exact List.mem_of_mem_drop ht)
mutual
theorem dat_run (l : Tx) : ∀ (n : Nat) (toks : List Tok3) (s : RS), 2 * toks.length + 1 ≤ n → (∀ t ∈ toks, Tk41 l t) → s.pend.length ≤ 60 → (toks ≠ [] ∨ s.pend ≠ []) → (∀ f r t q, s.pend = f :: r → f.sgn = false → toks = t :: q → wordT l t ≠ [41]) →
    Told l toks s (fun st' => { s with starts := st' }) (datF l n toks s.starts s.pend.length)
  | 0, toks, s, h, _, _, _, _ => absurd h (by omega)
  | n + 1, [], s, h, hk, h60, hne, hc => by
    have hp : s.pend ≠ [] := hne.resolve_left fun z => z rfl
    rw [datF]
    show run l [] s = _
    unfold run
    rw [takeAll]
    exact if_neg hp
  | n + 1, t :: r, s, h, hk, h60, hne, hc => by
    rw [List.length_cons] at h
    have hkr : ∀ u ∈ r, Tk41 l u := fun u hu => hk u (List.mem_cons_of_mem _ hu)
    rw [datF]
    by_cases c1 : t.1 = "wrong"
    · rw [if_pos (Or.inl c1)]
      exact run_err (by unfold takeF; rw [if_pos c1])
    by_cases c2 : wordT l t = [41]
    · rw [if_pos (Or.inr (Or.inl c2))]
      have hs := (hk t List.mem_cons_self).c c2
      refine run_err ?_
      rw [takeF_sign hs, c2]
      unfold signF
      rw [if_neg (by decide), if_pos rfl]
      cases hp : s.pend with
      | nil => rfl
      | cons f q =>
        have : f.sgn = true := by
          cases z : f.sgn with
          | true => rfl
          | false => exact absurd c2 (hc f q t r hp z rfl)
        dsimp only
        rw [if_pos this]
    by_cases c3 : t.1 = "sign"
    · by_cases c4 : s.pend.length = 60
      · rw [if_pos (Or.inr (Or.inr ⟨c3, c4⟩))]
        refine run_err ?_
        rw [takeF_sign c3]
        unfold signF RS.open_
        by_cases c5 : wordT l t = [40]
        · rw [if_pos c5, if_pos c4]
        · rw [if_neg c5, if_neg c2, if_pos c4]
      rw [if_neg (by rintro (z | z | z); exact c1 z; exact c2 z; exact c4 z.2), if_neg (by simp [c3])]
      by_cases c5 : wordT l t = [40]
      · rw [if_neg (by simp [c5])]
        have e1 : takeF l s t = .ok ⟨s.forms, ⟨false, s.starts.length, []⟩ :: s.pend, s.starts ++ [t.2.1]⟩ := by
          rw [takeF_sign c3]
          unfold signF RS.open_
          rw [if_pos c5, if_neg c4]
        have ih := lst_run l n r s.forms s.pend s.starts.length [] (s.starts ++ [t.2.1]) (by omega) hkr (by omega)
        cases e : lstF l n r (s.starts ++ [t.2.1]) (s.pend.length + 1) [] s.starts.length with
        | error x =>
          rw [e] at ih
          exact (run_cons e1).trans ih
        | ok v =>
          obtain ⟨d, r', st'⟩ := v
          rw [e] at ih
          obtain ⟨i1, i2, k, i3⟩ := ih
          exact ⟨(run_cons e1).trans i1, by rw [List.length_cons]; omega, k + 1, by rw [i3]; rfl⟩
      · rw [if_pos c5]
        have e1 : takeF l s t = .ok ⟨s.forms, ⟨true, s.starts.length, [.tup [.str "name", .str (if wordT l t = [39] then "quote" else "syntax"), .int ((s.starts ++ [t.2.1]).length : Nat)]]⟩ :: s.pend, s.starts ++ [t.2.1] ++ [t.2.1]⟩ := by
          rw [takeF_sign c3]
          exact sign_open0 c5 c2 (by omega)
        have ih := dat_run l n r ⟨s.forms, ⟨true, s.starts.length, [.tup [.str "name", .str (if wordT l t = [39] then "quote" else "syntax"), .int ((s.starts ++ [t.2.1]).length : Nat)]]⟩ :: s.pend, s.starts ++ [t.2.1] ++ [t.2.1]⟩ (by omega) hkr (by rw [List.length_cons]; omega) (Or.inr (by simp)) (fun f q t' q' e z _ => by cases e; cases z)
        rw [List.length_cons] at ih
        cases e : datF l n r (s.starts ++ [t.2.1] ++ [t.2.1]) (s.pend.length + 1) with
        | error x =>
          rw [e] at ih
          exact (run_cons e1).trans ih
        | ok v =>
          obtain ⟨d, r', st'⟩ := v
          rw [e] at ih
          obtain ⟨i1, i2, k, i3⟩ := ih
          refine ⟨?_, by rw [List.length_cons]; omega, k + 1, by rw [i3]; rfl⟩
          rw [run_cons e1, i1]
          congr 1
    · rw [if_neg (by rintro (z | z | z); exact c1 z; exact c2 z; exact c3 z.1), if_pos c3]
      refine ⟨run_cons (by unfold takeF; rw [if_neg c1, if_neg c3]; rfl), by simp, 1, rfl⟩
theorem lst_run (l : Tx) : ∀ (n : Nat) (toks : List Tok3) (fo : List D) (pd : List Fr) (pl : Nat) (acc : List D) (st : List Nat), 2 * toks.length + 2 ≤ n → (∀ t ∈ toks, Tk41 l t) → pd.length + 1 ≤ 60 →
    Told l toks ⟨fo, ⟨false, pl, acc⟩ :: pd, st⟩ (fun st' => ⟨fo, pd, st'⟩) (lstF l n toks st (pd.length + 1) acc pl)
  | 0, toks, fo, pd, pl, acc, st, h, _, _ => absurd h (by omega)
  | n + 1, [], fo, pd, pl, acc, st, h, hk, h60 => by
    rw [lstF]
    show run l [] _ = _
    unfold run
    rw [takeAll]
    exact if_neg (by simp)
  | n + 1, t :: r, fo, pd, pl, acc, st, h, hk, h60 => by
    rw [List.length_cons] at h
    rw [lstF]
    by_cases c2 : wordT l t = [41]
    · rw [if_pos c2]
      have hs := (hk t List.mem_cons_self).c c2
      refine ⟨run_cons ?_, by simp, 1, rfl⟩
      rw [takeF_sign hs, c2]
      unfold signF
      rw [if_neg (by decide), if_pos rfl]
      rfl
    · rw [if_neg c2]
      have ih := dat_run l n (t :: r) ⟨fo, ⟨false, pl, acc⟩ :: pd, st⟩ (by rw [List.length_cons]; omega) hk (by rw [List.length_cons]; omega) (Or.inl (by simp)) (fun f q t' q' e z e2 => by cases e2; exact c2)
      rw [List.length_cons] at ih
      cases e : datF l n (t :: r) st (pd.length + 1) with
      | error x =>
        rw [e] at ih
        exact ih
      | ok v =>
        obtain ⟨d, r', st'⟩ := v
        rw [e] at ih
        obtain ⟨i1, i2, k, i3⟩ := ih
        rw [List.length_cons] at i2
        have ih2 := lst_run l n r' fo pd pl (acc ++ [d]) st' (by omega) (drop_sub i3 hk) h60
        have ef : RS.fin ⟨fo, ⟨false, pl, acc⟩ :: pd, st'⟩ d = ⟨fo, ⟨false, pl, acc ++ [d]⟩ :: pd, st'⟩ := rfl
        dsimp only
        cases e2 : lstF l n r' st' (pd.length + 1) (acc ++ [d]) pl with
        | error x =>
          rw [e2] at ih2
          show run l (t :: r) _ = .error x
          rw [i1, ef]
          exact ih2
        | ok v =>
          obtain ⟨d2, r2, st2⟩ := v
          rw [e2] at ih2
          obtain ⟨j1, j2, k2, j3⟩ := ih2
          refine ⟨?_, by rw [List.length_cons]; omega, k + k2, by rw [j3, i3, List.drop_drop]⟩
          rw [i1, ef]
          exact j1
end

/-- the law's whole reading: forms one after the other -/
def formsF (l : Tx) (N : Nat) : Nat → List Tok3 → List D → List Nat → Except Nat (List D × List Nat)
  | 0, _, _, _ => .error 0
  | _ + 1, [], fo, st => .ok (fo, st)
  | n + 1, t :: r, fo, st => match datF l N (t :: r) st 0 with
    | .error e => .error e
    | .ok (d, r', st') => formsF l N n r' (fo ++ [d]) st'
theorem forms_run (l : Tx) (N : Nat) : ∀ (n : Nat) (toks : List Tok3) (fo : List D) (st : List Nat), toks.length < n → 2 * toks.length + 1 ≤ N → (∀ t ∈ toks, Tk41 l t) → (match formsF l N n toks fo st with
      | .error e => run l toks ⟨fo, [], st⟩ = .error e
      | .ok (fo', st') => run l toks ⟨fo, [], st⟩ = .ok ⟨fo', [], st'⟩)
  | 0, toks, fo, st, h, _, _ => absurd h (by omega)
  | n + 1, [], fo, st, h, _, _ => by
    rw [formsF]
    rfl
  | n + 1, t :: r, fo, st, h, hN, hk => by
    rw [formsF]
    have ih := dat_run l N (t :: r) ⟨fo, [], st⟩ hN hk (by simp) (Or.inl (by simp)) (fun f q t' q' e => by cases e)
    rw [show (⟨fo, [], st⟩ : RS).pend.length = 0 from rfl] at ih
    cases e : datF l N (t :: r) st 0 with
    | error x =>
      rw [show (⟨fo, [], st⟩ : RS).starts = st from rfl, e] at ih
      exact ih
    | ok v =>
      obtain ⟨d, r', st'⟩ := v
      rw [show (⟨fo, [], st⟩ : RS).starts = st from rfl, e] at ih
      obtain ⟨i1, i2, k, i3⟩ := ih
      rw [List.length_cons] at i2 h hN
      have ih2 := forms_run l N n r' (fo ++ [d]) st' (by omega) (by omega) (drop_sub i3 hk)
      dsimp only
      have ef : RS.fin ⟨fo, [], st'⟩ d = ⟨fo ++ [d], [], st'⟩ := rfl
      rw [i1, ef]
      exact ih2
theorem tok41 {c : Nat} {r : Tx} (h1 : c ≠ 32) (h2 : c ≠ 10) (h3 : c ≠ 59) (h : (c :: r).take (tokOf (c :: r)).2 = [41]) : (tokOf (c :: r)).1 = "sign" := by
  have tp := tok_pos (r := r) h1 h2 h3
  obtain ⟨m, hm⟩ : ∃ m, (tokOf (c :: r)).2 = m + 1 := ⟨(tokOf (c :: r)).2 - 1, by omega⟩
  rw [hm, List.take_succ_cons] at h
  have hc : c = 41 := by injection h
  rw [tokOf_cons, if_pos (Or.inr (Or.inl hc))]
theorem lex_41 {l : Tx} : ∀ (f p : Nat) (s : Tx), s = l.drop p → p ≤ l.length → ∀ t ∈ lex f p s, Tk41 l t
  | 0, _, _, _, _, t, ht => by simp [lex] at ht
  | _ + 1, _, [], _, _, t, ht => by simp [lex] at ht
  | f + 1, p, c :: r, hs, hp, t, ht => by
    have hlen : p + 1 + r.length = l.length := by
      have := congrArg List.length hs
      rw [List.length_drop, List.length_cons] at this; omega
    unfold lex at ht
    by_cases k1 : c = 32 ∨ c = 10
    · rw [if_pos k1] at ht
      exact lex_41 f (p + 1) r (by rw [← List.drop_drop, ← hs]; rfl) (by omega) t ht
    rw [if_neg k1] at ht
    by_cases k2 : c = 59
    · rw [if_pos k2] at ht
      have ll := line_le (c :: r)
      rw [List.length_cons] at ll
      exact lex_41 f _ _ (by rw [← List.drop_drop, ← hs]) (by omega) t ht
    rw [if_neg k2] at ht
    have tl := tok_le (c := c) (r := r) (by omega) (by omega) k2
    rw [List.length_cons] at tl
    rcases List.mem_cons.mp ht with rfl | ht
    · refine ⟨fun z => tok41 (c := c) (r := r) (by omega) (by omega) k2 ?_⟩
      have z : (l.drop p).take (p + (tokOf (c :: r)).2 - p) = [41] := z
      rw [← hs, Nat.add_sub_cancel_left] at z
      exact z
    · exact lex_41 f _ _ (by rw [← List.drop_drop, ← hs]) (by omega) t ht
/-- the two readings agree -/
theorem read_eq (l : Tx) (h : l.length ≤ 6000) : readM l = match formsF l (2 * (toksOf l).length + 1) ((toksOf l).length + 1) (toksOf l) [] [] with
    | .error e => .error e
    | .ok (fo, st) => .ok ⟨fo, [], st⟩ := by
  have e : readM l = run l (toksOf l) ⟨[], [], []⟩ := by
    unfold readM run
    rw [if_neg (by omega)]
    try rfl
  have := forms_run l (2 * (toksOf l).length + 1) ((toksOf l).length + 1) (toksOf l) [] [] (by omega) (by omega) (lex_41 _ 0 l rfl (Nat.zero_le _))
  rw [e]
  cases z : formsF l (2 * (toksOf l).length + 1) ((toksOf l).length + 1) (toksOf l) [] [] with
  | error x => rw [z] at this; exact this
  | ok v =>
    obtain ⟨fo, st⟩ := v
    rw [z] at this
    exact this
end Y
namespace Y
set_option hygiene false
open PySem PySem.Spec L2 SX
local macro_rules | `(tactic| walk_at "y") => `(tactic| dsimp only [tGet2, ex0, exB, endB, envOf, Env.set, Env.put, Env.stSet, Env.push, tFldY, sFldY, tMtE, tMethY, tMakeY, callF, tPub, pub, M.ob?, Ob.vw, Ob.toM, sSetE, tMaxD, gIntS, sRaise, sTry, sTryAs, endN, tXfY, tSm, gFind, gJoin, gStr, gStarts, List.zip_cons_cons, List.zip_nil_left, List.reverse_cons, List.reverse_nil, TF.calm, gx0, putFD, tCallV, tCallL, capt, gLtD, gSum, gMax, gSorted2, sNil, sBk, sCt, sDrop, sIf, asg, sAsg, sRet, sRetN, tIm, tNm, tBin, w2, vw, Sl.m?, tTst, tTru, M.tru, tAndQ, tOrQ, tNotQ, tAndX, tOrX, tNotX, tIfX, lNil, lCons, tOn, fInD, fIxD, tGet1, vwD, getOr, M.isD, sPar2, tLc2X, compL2, tChn, tFrz, froz, tTp, tLs, tCl, vws, tMt, Sl.m!, Sl.up, M.res, gLen, gInt, gAdd, gSub, gMul, gMulS, gDiv, gMod, gPow, gII, gI0, gEqs, gEqs2, gIx, gPop, gApp, gRev, gExt, gTuple, gList, gDict, gIs, gIsi, gAll, gIns, gSorted, gSl, M.lq?, M.lst?, M.sq?, M.dat?, M.isNon, gLt, gLe, gGt, gGe, sFor, iSeq, srcOf, iEnm, enmOf, iRg1, iRg2, bnd, setAll, backS, Sl.isP, tSlc, pNo, pSo, sSetI, hasM, setM, tDspK, tDspT, pairG, D.key?, D.keys?, D.tkey?, putAll, tNewK, tNewT, tNeg, sUnp, tCall, argMs, argM, argS, slots, putB, stepB, putS_lo_ls_ls, putS_lo_ls_dk, putS_lo_ls_dt, putS_lo_ls_no, putS_pa_ls_ls, putS_pa_ls_dk, putS_pa_ls_dt, putS_pa_ls_no, putS_lo_rd_ls, putS_lo_rd_dk, putS_lo_rd_dt, putS_lo_rd_no, putS_pa_rd_ls, putS_pa_rd_dk, putS_pa_rd_dt, putS_pa_rd_no, putS_lo_dk_ls, putS_lo_dk_dk, putS_lo_dk_dt, putS_lo_dk_no, putS_pa_dk_ls, putS_pa_dk_dk, putS_pa_dk_dt, putS_pa_dk_no, putS_lo_dt_ls, putS_lo_dt_dk, putS_lo_dt_dt, putS_lo_dt_no, putS_pa_dt_ls, putS_pa_dt_dk, putS_pa_dt_dt, putS_pa_dt_no, putS_lo_im, putS_lo_sq, putS_pa_im, putS_pa_sq, M.own, M.fit, fins, Sl.fin, envOf, tLcX, compL, wipeE, restE, keepS, qYes, kD, dGet, List.getElem?_cons_zero, List.getElem?_cons_succ, List.getElem?_nil, List.set_cons_zero, List.set_cons_succ, List.map_cons, List.map_nil, List.take_succ_cons, List.take_zero, List.length_cons, List.length_nil, List.head?_cons, List.tail_cons, Option.join_some, List.cons_append, List.nil_append, List.replicate])
local macro_rules | `(tactic| walk_at "n") => `(tactic| ((try dsimp only); refine seq_step fun R hR => ?_; walk_at "y"))
local macro_rules | `(tactic| walk_at "i") => `(tactic| simp only [Bool.false_xor, Bool.true_xor, Bool.not_true, Bool.not_false, Bool.false_eq_true, reduceIte, isiT, M.ty, String.reduceBEq, Bool.or_false, Bool.false_or, Bool.and_false, Bool.and_true, Bool.true_and, Bool.false_and, Bool.or_true, List.mem_cons, true_or, or_true, true_and, and_true, String.reduceEq, decide_true, decide_false])
local macro_rules | `(tactic| walk_at "s") => `(tactic| (subst hR; walk_at "n"))
local macro_rules | `(tactic| walk_at "z") => `(tactic| (simp only [List.map_cons, List.map_nil, atI_c0, atI_c1, atI_c2, atI_c3, atI_c4, atI_c5]; (try walk_at "y")))
local macro_rules | `(tactic| walk_at "e") => `(tactic| repeat (first | rw [if_pos (by decide +kernel)] | rw [if_neg (by decide +kernel)]))
def F_lval : TF := fun ms W G Gx => ∃ (sort : Str) (w : Tx), ms = [.im (.str sort), .im (.str (S w))] ∧ VOk sort w ∧ w.length ≤ 7000 ∧ ∀ fin, G (.im (.tup [.str (valF sort w).1, (valF sort w).2])) fin W
theorem body_lval : Body F_lval 2 2 fun _ => t__law_value := by
  rintro ms W G Gx hl ⟨sort, w, rfl, h, hw, q⟩
  show t__law_value _ ⟨[Sl.pa (.im (.str sort)), Sl.pa (.im (.str (S w)))], W⟩
  unfold t__law_value
  have hs : (S w).length ≤ sizeLine := by rw [S_len]; exact szLine (by omega)
  have h2 : ∀ n : Nat, n ≤ 5 → n ≤ sizeLine := fun n hn => szLine (by omega)
  unfold valF at q
  walk_at "n"
  rw [Bool.false_xor]
  by_cases k1 : sort = Str.ofString "string"
  · rw [if_pos k1] at q
    rw [if_pos (by simp [k1])]
    have h3 := h.str k1
    refine ⟨hs, hs, ?_⟩
    rw [S_len, show (1 : Int) = ((1 : Nat) : Int) from rfl, show ((w.length : Nat) : Int) - ((1 : Nat) : Int) = ((w.length - 1 : Nat) : Int) by omega, slice_midN (by omega) (by omega), show w.length - 1 - 1 = w.length - 2 by omega]
    exact ⟨h2 _ (by omega), q _⟩
  rw [if_neg k1] at q
  rw [if_neg (by simp [k1])]
  subst hR
  walk_at "n"
  rw [Bool.false_xor]
  by_cases k2 : sort = Str.ofString "number"
  · rw [if_pos k2] at q
    rw [if_pos (by simp [k2])]
    obtain ⟨n1, n2⟩ := num_val (h.num k2)
    exact ⟨numV w, n1, by rw [S_len]; omega, h2 _ (by omega), q _⟩
  rw [if_neg k2] at q
  rw [if_neg (by simp [k2])]
  subst hR
  walk_at "n"
  rw [Bool.false_xor]
  by_cases k3 : sort = Str.ofString "flag"
  · rw [if_pos k3] at q
    rw [if_pos (by simp [k3])]
    rw [show Str.ofString "#t" = S [35, 116] by decide +kernel, S_eqD, Bool.false_xor]
    exact ⟨h2 _ (by omega), q _⟩
  rw [if_neg k3] at q
  rw [if_neg (by simp [k3])]
  subst hR
  walk_at "y"
  rw [Bool.false_xor]
  by_cases k4 : sort = Str.ofString "name"
  · rw [if_pos k4] at q
    rw [if_pos (by simp [k4])]
    exact ⟨h2 _ (by omega), q _⟩
  rw [if_neg k4] at q
  rw [if_neg (by simp [k4])]
  exact ⟨h2 _ (by omega), q _⟩
/-! ### the law's state -/
def stD (bad at_ pl : Int) (o : Nat) : List (Key × D) := [(.inr "bad", .int bad), (.inr "at", .int at_), (.inr "place", .int pl), (.inr "starts", .obj o)]
theorem k_ba : (Sum.inr (Str.ofString "bad") : Key) ≠ Sum.inr (Str.ofString "at") := fun z => absurd (Sum.inr.inj z) (by decide +kernel)
theorem k_bp : (Sum.inr (Str.ofString "bad") : Key) ≠ Sum.inr (Str.ofString "place") := fun z => absurd (Sum.inr.inj z) (by decide +kernel)
theorem k_bs : (Sum.inr (Str.ofString "bad") : Key) ≠ Sum.inr (Str.ofString "starts") := fun z => absurd (Sum.inr.inj z) (by decide +kernel)
theorem k_ap : (Sum.inr (Str.ofString "at") : Key) ≠ Sum.inr (Str.ofString "place") := fun z => absurd (Sum.inr.inj z) (by decide +kernel)
theorem k_as : (Sum.inr (Str.ofString "at") : Key) ≠ Sum.inr (Str.ofString "starts") := fun z => absurd (Sum.inr.inj z) (by decide +kernel)
theorem k_ps : (Sum.inr (Str.ofString "place") : Key) ≠ Sum.inr (Str.ofString "starts") := fun z => absurd (Sum.inr.inj z) (by decide +kernel)
theorem get_bad (b a p : Int) (o : Nat) : getK (stD b a p o) (.inr (Str.ofString "bad")) = some (.int b) := by
  unfold getK stD; simp
theorem get_at (b a p : Int) (o : Nat) : getK (stD b a p o) (.inr (Str.ofString "at")) = some (.int a) := by
  unfold getK stD
  rw [List.find?_cons_of_neg (by simpa using k_ba), List.find?_cons_of_pos (by simp)]; rfl
theorem get_pl (b a p : Int) (o : Nat) : getK (stD b a p o) (.inr (Str.ofString "place")) = some (.int p) := by
  unfold getK stD
  rw [List.find?_cons_of_neg (by simpa using k_bp), List.find?_cons_of_neg (by simpa using k_ap), List.find?_cons_of_pos (by simp)]; rfl
theorem get_st (b a p : Int) (o : Nat) : getK (stD b a p o) (.inr (Str.ofString "starts")) = some (.obj o) := by
  unfold getK stD
  rw [List.find?_cons_of_neg (by simpa using k_bs), List.find?_cons_of_neg (by simpa using k_as), List.find?_cons_of_neg (by simpa using k_ps), List.find?_cons_of_pos (by simp)]; rfl
theorem put_bad (b a p x : Int) (o : Nat) : putD (stD b a p o) (.inr (Str.ofString "bad")) (.int x) = stD x a p o := by
  unfold putD stD
  rw [if_pos (by simp)]
  simp [k_ba.symm, k_bp.symm, k_bs.symm]
theorem put_at (b a p x : Int) (o : Nat) : putD (stD b a p o) (.inr (Str.ofString "at")) (.int x) = stD b x p o := by
  unfold putD stD
  rw [if_pos (by simp)]
  simp [k_ba, k_ap.symm, k_as.symm]
  exact fun z => absurd z (by decide +kernel)
theorem put_pl (b a p x : Int) (o : Nat) : putD (stD b a p o) (.inr (Str.ofString "place")) (.int x) = stD b a x o := by
  unfold putD stD
  rw [if_pos (by simp)]
  simp [k_bp, k_ap, k_ps.symm]
  exact ⟨fun z => absurd z (by decide +kernel), fun z => absurd z (by decide +kernel)⟩
end Y
namespace Y
set_option hygiene false
open PySem PySem.Spec L2 SX
local macro_rules | `(tactic| walk_at "y") => `(tactic| dsimp only [tGet2, ex0, exB, endB, envOf, Env.set, Env.put, Env.stSet, Env.push, tFldY, sFldY, tMtE, tMethY, tMakeY, callF, tPub, pub, M.ob?, Ob.vw, Ob.toM, sSetE, tMaxD, gIntS, sRaise, sTry, sTryAs, endN, tXfY, tSm, gFind, gJoin, gStr, gStarts, List.zip_cons_cons, List.zip_nil_left, List.reverse_cons, List.reverse_nil, TF.calm, gx0, putFD, tCallV, tCallL, capt, gLtD, gSum, gMax, gSorted2, sNil, sBk, sCt, sDrop, sIf, asg, sAsg, sRet, sRetN, tIm, tNm, tBin, w2, vw, Sl.m?, tTst, tTru, M.tru, tAndQ, tOrQ, tNotQ, tAndX, tOrX, tNotX, tIfX, lNil, lCons, tOn, fInD, fIxD, tGet1, vwD, getOr, M.isD, sPar2, tLc2X, compL2, tChn, tFrz, froz, tTp, tLs, tCl, vws, tMt, Sl.m!, Sl.up, M.res, gLen, gInt, gAdd, gSub, gMul, gMulS, gDiv, gMod, gPow, gII, gI0, gEqs, gEqs2, gIx, gPop, gApp, gRev, gExt, gTuple, gList, gDict, gIs, gIsi, gAll, gIns, gSorted, gSl, M.lq?, M.lst?, M.sq?, M.dat?, M.isNon, gLt, gLe, gGt, gGe, sFor, iSeq, srcOf, iEnm, enmOf, iRg1, iRg2, bnd, setAll, backS, Sl.isP, tSlc, pNo, pSo, sSetI, hasM, setM, tDspK, tDspT, pairG, D.key?, D.keys?, D.tkey?, putAll, tNewK, tNewT, tNeg, sUnp, tCall, argMs, argM, argS, slots, putB, stepB, putS_lo_ls_ls, putS_lo_ls_dk, putS_lo_ls_dt, putS_lo_ls_no, putS_pa_ls_ls, putS_pa_ls_dk, putS_pa_ls_dt, putS_pa_ls_no, putS_lo_rd_ls, putS_lo_rd_dk, putS_lo_rd_dt, putS_lo_rd_no, putS_pa_rd_ls, putS_pa_rd_dk, putS_pa_rd_dt, putS_pa_rd_no, putS_lo_dk_ls, putS_lo_dk_dk, putS_lo_dk_dt, putS_lo_dk_no, putS_pa_dk_ls, putS_pa_dk_dk, putS_pa_dk_dt, putS_pa_dk_no, putS_lo_dt_ls, putS_lo_dt_dk, putS_lo_dt_dt, putS_lo_dt_no, putS_pa_dt_ls, putS_pa_dt_dk, putS_pa_dt_dt, putS_pa_dt_no, putS_lo_im, putS_lo_sq, putS_pa_im, putS_pa_sq, M.own, M.fit, fins, Sl.fin, envOf, tLcX, compL, wipeE, restE, keepS, qYes, kD, dGet, List.getElem?_cons_zero, List.getElem?_cons_succ, List.getElem?_nil, List.set_cons_zero, List.set_cons_succ, List.map_cons, List.map_nil, List.take_succ_cons, List.take_zero, List.length_cons, List.length_nil, List.head?_cons, List.tail_cons, Option.join_some, List.cons_append, List.nil_append, List.replicate])
local macro_rules | `(tactic| walk_at "n") => `(tactic| ((try dsimp only); refine seq_step fun R hR => ?_; walk_at "y"))
local macro_rules | `(tactic| walk_at "i") => `(tactic| simp only [Bool.false_xor, Bool.true_xor, Bool.not_true, Bool.not_false, Bool.false_eq_true, reduceIte, isiT, M.ty, String.reduceBEq, Bool.or_false, Bool.false_or, Bool.and_false, Bool.and_true, Bool.true_and, Bool.false_and, Bool.or_true, List.mem_cons, true_or, or_true, true_and, and_true, String.reduceEq, decide_true, decide_false])
local macro_rules | `(tactic| walk_at "s") => `(tactic| (subst hR; walk_at "n"))
local macro_rules | `(tactic| walk_at "z") => `(tactic| (simp only [List.map_cons, List.map_nil, atI_c0, atI_c1, atI_c2, atI_c3, atI_c4, atI_c5]; (try walk_at "y")))
local macro_rules | `(tactic| walk_at "e") => `(tactic| repeat (first | rw [if_pos (by decide +kernel)] | rw [if_neg (by decide +kernel)]))
theorem nats_snoc0 (a : List Nat) (b : Nat) : natsD a ++ [.int (b : Nat)] = natsD (a ++ [b]) := by simp [natsD]
def stN (b : Int) (i pl o : Nat) : List (Key × D) := stD b (i : Nat) (pl : Nat) o
def itD (all : List Tok3) : List D := all.map tkD
/-- what the law's datum leaves: d, or a place where it is wrong -/
def LdOk (l : Tx) (all : List Tok3) (o dp : Nat) (W : Sto) (G : GN) : Except Nat (D × List Tok3 × List Nat) → Prop
  | .error e => ∀ (d : D) (i' pl' : Int) (W' : Sto), (∀ n, n ≠ o → W'[n]? = W[n]?) → G (.im d) [some (.im (.str (S l))), some (.ls (itD all)), some (.dk (stD (e : Nat) i' pl' o)), some (.im (.int (dp : Nat)))] W'
  | .ok (d, r', st') => ∀ (i' : Nat) (W' : Sto), i' ≤ all.length → r' = all.drop i' → (∀ n, n ≠ o → W'[n]? = W[n]?) → W'[o]? = some (.ls (natsD st')) → G (.im d) [some (.im (.str (S l))), some (.ls (itD all)), some (.dk (stD (-1) (i' : Nat) (st'.length : Nat) o)), some (.im (.int (dp : Nat)))] W'
def F_ldat (lv : Nat) : TF := fun ms W G Gx => ∃ (l : Tx) (all : List Tok3) (i o dp n : Nat) (st : List Nat), ms = [.im (.str (S l)), .ls (itD all), .dk (stD (-1) (i : Nat) (st.length : Nat) o), .im (.int (dp : Nat))] ∧ l.length ≤ 6000 ∧ all.length ≤ 6000 ∧ (∀ t ∈ all, TokOk l t) ∧ i ≤ all.length ∧ W[o]? = some (.ls (natsD st)) ∧ dp ≤ 60 ∧ 61 ≤ lv + dp ∧ st.length ≤ 3 * i ∧ 2 * (all.drop i).length + 1 ≤ n ∧
  LdOk l all o dp W G (datF l n (all.drop i) st dp)
abbrev ldQ : TQ := tTst (tBin (gLt) (tBin gIx (tNm 2) (tIm (.str "bad"))) (tIm (.int 0)))
mutual
theorem dat_len {l : Tx} : ∀ (n : Nat) (ts : List Tok3) (st : List Nat) (dp : Nat) {d : D} {r' : List Tok3} {st' : List Nat}, datF l n ts st dp = .ok (d, r', st') → r'.length < ts.length ∧ st'.length + 2 * r'.length ≤ st.length + 2 * ts.length
  | 0, _, _, _, _, _, _, h => by simp [datF] at h
  | n + 1, [], _, _, _, _, _, h => by simp [datF] at h
  | n + 1, t :: r, st, dp, d, r', st', h => by
    unfold datF at h
    split at h
    · cases h
    split at h
    · cases h
      simp; omega
    split at h
    · cases e : datF l n r (st ++ [t.2.1] ++ [t.2.1]) (dp + 1) with
      | error x => rw [e] at h; cases h
      | ok x =>
        obtain ⟨d1, r1, s1⟩ := x
        rw [e] at h
        cases h
        have := dat_len n r _ _ e
        simp at this ⊢
        omega
    · have := lst_len n r _ _ _ _ h
      simp at this ⊢
      omega
theorem lst_len {l : Tx} : ∀ (n : Nat) (ts : List Tok3) (st : List Nat) (dp : Nat) (acc : List D) (pl : Nat) {d : D} {r' : List Tok3} {st' : List Nat}, lstF l n ts st dp acc pl = .ok (d, r', st') → r'.length < ts.length ∧ st'.length + 2 * r'.length ≤ st.length + 2 * ts.length
  | 0, _, _, _, _, _, _, _, _, h => by simp [lstF] at h
  | n + 1, [], _, _, _, _, _, _, _, h => by simp [lstF] at h
  | n + 1, t :: r, st, dp, acc, pl, d, r', st', h => by
    unfold lstF at h
    split at h
    · cases h
      simp; omega
    · cases e : datF l n (t :: r) st dp with
      | error x => rw [e] at h; cases h
      | ok x =>
        obtain ⟨d1, r1, s1⟩ := x
        rw [e] at h
        have a := dat_len n (t :: r) _ _ e
        have b := lst_len n r1 _ _ _ _ h
        omega
end
theorem ld_loop (lv : Nat) {PP : EndP} {l : Tx} {all : List Tok3} {o dp pl : Nat} {W0 : Sto} {G : GN} {s4 s5 s6 s7 : Sl} (hll : l.length ≤ 6000) (hal : all.length ≤ 6000) (hok : ∀ t ∈ all, TokOk l t) (h60 : dp < 60) (hlv : 61 ≤ lv + (dp + 1))
    (hnx : ∀ (e : Nat) (i' pl' : Int) (W' : Sto) (s9 : Sl), (∀ (d : D), G (.im d) [some (.im (.str (S l))), some (.ls (itD all)), some (.dk (stD (e : Nat) i' pl' o)), some (.im (.int (dp : Nat)))] W') → PP.nx ⟨[.pa (.im (.str (S l))), .pa (.ls (itD all)), .pa (.dk (stD (e : Nat) i' pl' o)), .pa (.im (.int (dp : Nat))), s4, s5, s6, s7, .lo (.im (.int (pl : Nat))), s9], W'⟩)
    (hrt : ∀ (d : D) (kv : List (Key × D)) (W' : Sto) (s9 : Sl), G (.im d) [some (.im (.str (S l))), some (.ls (itD all)), some (.dk kv), some (.im (.int (dp : Nat)))] W' → PP.rt (.im d) ⟨[.pa (.im (.str (S l))), .pa (.ls (itD all)), .pa (.dk kv), .pa (.im (.int (dp : Nat))), s4, s5, s6, s7, .lo (.im (.int (pl : Nat))), s9], W'⟩) :
    ∀ (k n i : Nat) (st : List Nat) (acc : List D) (W : Sto), i ≤ all.length → W[o]? = some (.ls (natsD st)) → (∀ n, n ≠ o → W[n]? = W0[n]?) → st.length ≤ 3 * i → acc.length ≤ i → 2 * (all.drop i).length + 2 ≤ n → (all.drop i).length + 2 ≤ k → LdOk l all o dp W0 G (lstF l n (all.drop i) st (dp + 1) acc pl) →
      whileS ldQ (b__law_datum_1 F_lval (F_ldat lv)) PP k ⟨[.pa (.im (.str (S l))), .pa (.ls (itD all)), .pa (.dk (stD (-1) (i : Nat) (st.length : Nat) o)), .pa (.im (.int (dp : Nat))), s4, s5, s6, s7, .lo (.im (.int (pl : Nat))), .lo (.ls acc)], W⟩
  | 0, n, i, st, acc, W, _, _, _, _, _, _, h, _ => absurd h (by omega)
  | k + 1, n, i, st, acc, W, hi, hW, kW, hst, hacc, hn, hk, q => by
    have hs : (S l).length ≤ sizeLine := by rw [S_len]; exact szLine (by omega)
    have sl4 : ∀ b a p, (stD b a p o).length < sizeLine := fun b a p => by show 4 < _; rw [sizeLine_eq]; omega
    have la : (itD all).length = all.length := by unfold itD; rw [List.length_map]
    obtain ⟨m, rfl⟩ : ∃ m, n = m + 1 := ⟨n - 1, by omega⟩
    refine while_step fun L hL => ?_
    dsimp only [ldQ]
    walk_at "y"
    rw [get_bad]
    dsimp only
    rw [if_pos (by decide)]
    unfold b__law_datum_1
    -- the datum is read
    have dat : LdOk l all o dp W0 G (match datF l m (all.drop i) st (dp + 1) with
        | .error e => .error e
        | .ok (d, r', st') => lstF l m r' st' (dp + 1) (acc ++ [d]) pl) → sDrop (tMtE gApp (tNm 9) (lCons (tCall ex0 (F_ldat lv) 4 (lCons (tNm 0) (lCons (tNm 1) (lCons (tNm 2) (lCons (tBin gAdd (tNm 3) (tIm (.int 1))) (lNil)))))) (lNil))) { PP with nx := L, ct := L, bk := PP.nx } ⟨[.pa (.im (.str (S l))), .pa (.ls (itD all)), .pa (.dk (stD (-1) (i : Nat) (st.length : Nat) o)), .pa (.im (.int (dp : Nat))), s4, s5, s6, s7, .lo (.im (.int (pl : Nat))), .lo (.ls acc)], W⟩ := fun q => by
      walk_at "y"
      refine ⟨trivial, rfl, by decide, l, all, i, o, dp + 1, m, st, rfl, hll, hal, hok, hi, hW, by omega, hlv, hst, by omega, ?_⟩
      cases e : datF l m (all.drop i) st (dp + 1) with
      | error x =>
        rw [e] at q
        intro d i' pl' W' kW'
        walk_at "y"
        refine ⟨rfl, szLt (by omega), ?_⟩
        subst hL
        obtain ⟨k', rfl⟩ : ∃ k', k = k' + 1 := ⟨k - 1, by omega⟩
        refine while_step fun _ _ => ?_
        dsimp only [ldQ]
        walk_at "y"
        rw [get_bad]
        dsimp only
        rw [if_neg (by simp)]
        exact hnx x i' pl' W' _ fun d => q d i' pl' W' fun n hn => (kW' n hn).trans (kW n hn)
      | ok x =>
        obtain ⟨d, r', st'⟩ := x
        rw [e] at q
        have ln := dat_len _ _ _ _ e
        intro i' W' hi' hr' kW' hW'
        walk_at "y"
        refine ⟨rfl, szLt (by omega), ?_⟩
        subst hL
        rw [hr', List.length_drop, List.length_drop] at ln
        refine ld_loop lv hll hal hok h60 hlv hnx hrt k m i' st' (acc ++ [d]) W' hi' hW' (fun n hn => (kW' n hn).trans (kW n hn)) (by omega) (by simp; omega) ?_ ?_ ?_
        · rw [List.length_drop] at hn ⊢; omega
        · rw [List.length_drop] at hk ⊢; omega
        · rw [← hr']
          dsimp only at q
          exact q
    cases hd : all.drop i with
    | nil =>
      have e : i = all.length := by have := List.drop_eq_nil_iff.mp hd; omega
      have q' := dat (by
        rw [hd] at q hn ⊢
        rw [lstF] at q
        obtain ⟨m', rfl⟩ : ∃ m', m = m' + 1 := ⟨m - 1, by simp at hn; omega⟩
        rw [datF]
        exact q)
      walk_at "n"
      rw [get_at]
      dsimp only
      rw [la, if_neg (by simp [e])]
      subst hR
      exact q'
    | cons t r =>
      have him : all[i]? = some t := by rw [← List.head?_drop, hd]; rfl
      have hil := (List.getElem?_eq_some_iff.mp him).1
      have hr : all.drop (i + 1) = r := by rw [← List.drop_drop, hd]; rfl
      have tok := hok t (List.mem_of_getElem? him)
      have hrl : (all.drop i).length = r.length + 1 := by rw [hd, List.length_cons]
      obtain ⟨x, hx, hx2⟩ := atI_ok (xs := all) (i := ((i : Nat) : Int)) (by omega) (by omega)
      rw [Int.toNat_natCast, him] at hx2
      cases hx2
      have hat : atI (itD all) ((i : Nat) : Int) = some (tkD t) := by unfold itD; rw [atI_map, hx]; rfl
      obtain ⟨srt, a, b⟩ := t
      have hsl : Txt.slice (S l) (some ((a : Nat) : Int)) (some ((b : Nat) : Int)) = S (wordT l (srt, a, b)) := slice_midN tok.le tok.hi
      rw [hd, lstF] at q
      rw [hd] at dat
      walk_at "n"
      rw [get_at]
      dsimp only
      rw [la, if_pos (by simp; omega), hat]
      dsimp only [tkD]
      walk_at "z"
      rw [hsl, lit_cl, S_eqD, Bool.false_xor]
      refine ⟨hs, ?_⟩
      by_cases c : wordT l (srt, a, b) = [41]
      · rw [if_pos c] at q
        rw [if_pos (decide_eq_true c)]
        clear dat hR
        walk_at "n"
        rw [get_at]
        dsimp only
        refine ⟨trivial, sl4 _ _ _, ?_⟩
        rw [put_at, show ((i : Nat) : Int) + 1 = ((i + 1 : Nat) : Int) by omega]
        subst hR
        walk_at "y"
        refine ⟨by simp [sizeLine_eq], ?_⟩
        exact hrt _ _ _ _ (q (i + 1) W (by omega) hr.symm kW hW)
      · rw [if_neg c] at q
        rw [if_neg (by simp [c])]
        subst hR
        exact dat q
theorem body_ldat (lv : Nat) : Body (F_ldat (lv + 1)) 10 4 fun _ => t__law_datum F_lval (F_ldat lv) := by
  rintro ms W G Gx hl ⟨l, all, i, o, dp, n, st, rfl, hll, hal, hok, hi, hW, h60, hlv, hst, hn, q⟩
  show t__law_datum _ _ _ ⟨[Sl.pa (.im (.str (S l))), Sl.pa (.ls (itD all)), Sl.pa (.dk (stD (-1) (i : Nat) (st.length : Nat) o)), Sl.pa (.im (.int (dp : Nat))), .no, .no, .no, .no, .no, .no], W⟩
  unfold t__law_datum
  have hs : (S l).length ≤ sizeLine := by rw [S_len]; exact szLine (by omega)
  have sl4 : ∀ b a p, (stD b a p o).length < sizeLine := fun b a p => by show 4 < _; rw [sizeLine_eq]; omega
  walk_at "n"
  rw [get_bad]
  dsimp only
  rw [if_neg (by decide)]
  subst hR
  walk_at "n"
  rw [get_at]
  dsimp only
  rw [show (itD all).length = all.length by unfold itD; rw [List.length_map], Bool.false_xor]
  obtain ⟨m, rfl⟩ : ∃ m, n = m + 1 := ⟨n - 1, by omega⟩
  cases hd : all.drop i with
  | nil =>
    rw [hd, datF] at q
    have e : i = all.length := by have := List.drop_eq_nil_iff.mp hd; omega
    rw [if_pos (by simp [e])]
    walk_at "n"
    refine ⟨hs, trivial, sl4 _ _ _, ?_⟩
    rw [put_bad, S_len]
    subst hR
    walk_at "y"
    exact q .non _ _ W fun _ _ => rfl
  | cons t r =>
    have him : all[i]? = some t := by rw [← List.head?_drop, hd]; rfl
    have hil := (List.getElem?_eq_some_iff.mp him).1
    have hr : all.drop (i + 1) = r := by rw [← List.drop_drop, hd]; rfl
    have tok := hok t (List.mem_of_getElem? him)
    have hrl : (all.drop i).length = r.length + 1 := by rw [hd, List.length_cons]
    rw [hd, datF] at q
    rw [if_neg (by simp; omega)]
    subst hR
    walk_at "n"
    rw [get_at]
    dsimp only
    obtain ⟨x, hx, hx2⟩ := atI_ok (xs := all) (i := ((i : Nat) : Int)) (by omega) (by omega)
    rw [Int.toNat_natCast, him] at hx2
    cases hx2
    rw [show atI (itD all) ((i : Nat) : Int) = some (tkD t) by unfold itD; rw [atI_map, hx]; rfl]
    obtain ⟨srt, a, b⟩ := t
    dsimp only [tkD]
    refine ⟨rfl, ?_⟩
    (try walk_at "y")
    subst hR
    walk_at "n"
    refine ⟨hs, ?_⟩
    have hsl : Txt.slice (S l) (some ((a : Nat) : Int)) (some ((b : Nat) : Int)) = S (wordT l (srt, a, b)) := slice_midN tok.le tok.hi
    rw [hsl]
    have hwl : (wordT l (srt, a, b)).length ≤ 7000 := by unfold wordT; rw [List.length_take, List.length_drop]; omega
    have htv : VOk srt (wordT l (srt, a, b)) := tok.v
    have hsg : srt = "sign" → Sg (wordT l (srt, a, b)) := tok.sg
    generalize hwt : wordT l (srt, a, b) = w at q hwl htv hsg ⊢
    subst hR
    walk_at "n"
    rw [get_at]
    dsimp only
    refine ⟨trivial, sl4 _ _ _, ?_⟩
    rw [put_at, show ((i : Nat) : Int) + 1 = ((i + 1 : Nat) : Int) by omega]
    subst hR
    walk_at "n"
    rw [Bool.false_xor]
    have bad : (srt = Str.ofString "wrong" ∨ w = [41] ∨ (srt = Str.ofString "sign" ∧ dp = 60)) → sSeq (sSetE (tNm 2) (tIm (.str "bad")) (tNm 5)) (sRet (tIm .non)) { nx := R, rt := fun m ρ => G m (List.map Sl.fin (List.take 4 ρ.sl)) ρ.st } ⟨[.pa (.im (.str (S l))), .pa (.ls (itD all)), .pa (.dk (stD (-1) ((i + 1 : Nat) : Int) (st.length : Nat) o)), .pa (.im (.int (dp : Nat))), .lo (.im (.str srt)), .lo (.im (.int (a : Nat))), .lo (.im (.int (b : Nat))), .lo (.im (.str (S w))), .no, .no], W⟩ := fun hb => by
      rw [if_pos hb] at q
      walk_at "n"
      refine ⟨trivial, sl4 _ _ _, ?_⟩
      rw [put_bad]
      subst hR
      walk_at "y"
      exact q .non _ _ W fun _ _ => rfl
    by_cases c1 : srt = Str.ofString "wrong"
    · rw [if_pos (decide_eq_true c1), if_pos rfl]
      exact bad (Or.inl c1)
    rw [if_neg (by simp [c1])]
    rw [lit_cl, S_eqD, Bool.false_xor]
    by_cases c2 : w = [41]
    · rw [if_pos (decide_eq_true c2), if_pos rfl]
      exact bad (Or.inr (Or.inl c2))
    rw [if_neg (by simp [c2]), Bool.false_xor]
    by_cases c3 : srt = Str.ofString "sign" ∧ dp = 60
    · rw [if_pos (decide_eq_true c3.1), if_pos (by simp [c3.2])]
      exact bad (Or.inr (Or.inr c3))
    have skip : ∀ A B : Prop, B → (if decide (srt = Str.ofString "sign") = true then if (false ^^ decide (((dp : Nat) : Int) = 60)) = true then A else B else if false = true then A else B) := fun A B hB => by
      by_cases z : srt = Str.ofString "sign"
      · rw [if_pos (decide_eq_true z), if_neg (by have : dp ≠ 60 := fun y => c3 ⟨z, y⟩; simp; omega)]; exact hB
      · rw [if_neg (by simp [z]), if_neg (by simp)]; exact hB
    refine skip _ _ ?_
    rw [if_neg (by rintro (z | z | z); exact c1 z; exact c2 z; exact c3 z)] at q
    subst hR
    walk_at "n"
    rw [get_pl]
    dsimp only
    subst hR
    walk_at "n"
    refine ⟨trivial, sl4 _ _ _, ?_⟩
    rw [put_pl, show ((st.length : Nat) : Int) + 1 = ((st.length + 1 : Nat) : Int) by omega]
    subst hR
    walk_at "n"
    rw [get_st]
    dsimp only
    simp only [hW]
    refine ⟨trivial, by unfold natsD; rw [List.length_map]; exact szLt (by omega), ?_⟩
    rw [nats_snoc0]
    have hW1 := wset_at (u := .ls (natsD (st ++ [a]))) hW
    have kW1 : ∀ n, n ≠ o → (W.set o (.ls (natsD (st ++ [a]))))[n]? = W[n]? := fun n hn => wset_ne (Ne.symm hn)
    generalize W.set o (.ls (natsD (st ++ [a]))) = W1 at hW1 kW1 ⊢
    subst hR
    walk_at "n"
    by_cases c4 : srt = Str.ofString "sign"
    · rw [if_neg (by simp [c4])] at q
      rw [if_neg (by simp [c4])]
      have dp59 : dp < 60 := by have : dp ≠ 60 := fun z => c3 ⟨c4, z⟩; omega
      subst hR
      walk_at "n"
      refine ⟨by simp [sizeLine_eq], ?_⟩
      subst hR
      walk_at "n"
      rw [lit_op, S_eqD]
      by_cases c5 : w = [40]
      · rw [if_neg (by simp [c5])] at q
        rw [if_neg (by simp [c5])]
        subst hR
        refine seq_step fun R hR => ?_
        rw [show ((st.length + 1 : Nat) : Int) = ((st ++ [a]).length : Nat) by simp]
        refine ⟨(all.drop (i + 1)).length + 2, ?_⟩
        refine ld_loop lv (W0 := W) (G := G) hll hal hok dp59 (by omega) (fun e i' pl' W' s9 hG => ?_) (fun d kv W' s9 hG => ?_) _ m (i + 1) (st ++ [a]) [] W1 (by omega) hW1 kW1 (by rw [List.length_append]; simp; omega) (by simp) (by rw [hr]; omega) (Nat.le_refl _) ?_
        · show R _
          subst hR
          walk_at "y"
          exact hG .non
        · exact hG
        · rw [hr]; exact q
      · rw [if_pos c5] at q
        rw [if_pos (by simp [c5])]
        walk_at "n"
        rw [get_st]
        dsimp only
        simp only [hW1]
        refine ⟨trivial, by unfold natsD; rw [List.length_map]; exact szLt (by simp; omega), ?_⟩
        rw [nats_snoc0]
        have hW2 := wset_at (u := .ls (natsD (st ++ [a] ++ [a]))) hW1
        have kW2 : ∀ n, n ≠ o → (W1.set o (.ls (natsD (st ++ [a] ++ [a]))))[n]? = W[n]? := fun n hn => (wset_ne (Ne.symm hn)).trans (kW1 n hn)
        generalize W1.set o (.ls (natsD (st ++ [a] ++ [a]))) = W2 at hW2 kW2 ⊢
        subst hR
        walk_at "n"
        refine ⟨trivial, sl4 _ _ _, ?_⟩
        rw [put_pl, show ((st.length : Nat) : Int) + 2 = ((st ++ [a] ++ [a]).length : Nat) by simp]
        subst hR
        walk_at "n"
        have hfin : ∀ (e : Str), e = (if w = [39] then "quote" else "syntax" : Str) → (R ⟨[.pa (.im (.str (S l))), .pa (.ls (itD all)), .pa (.dk (stD (-1) ((i + 1 : Nat) : Int) ((st ++ [a] ++ [a]).length : Nat) o)), .pa (.im (.int (dp : Nat))), .lo (.im (.str srt)), .lo (.im (.int (a : Nat))), .lo (.im (.int (b : Nat))), .lo (.im (.str (S w))), .lo (.im (.int (st.length : Nat))), .lo (.ls [.tup [.str "name", .str e, .int ((st.length : Nat) + 1)]])], W2⟩) := fun e he => by
          subst hR
          walk_at "n"
          refine ⟨trivial, rfl, by decide, l, all, i + 1, o, dp + 1, m, st ++ [a] ++ [a], rfl, hll, hal, hok, by omega, hW2, by omega, by omega, by simp; omega, by rw [hr]; omega, ?_⟩
          rw [hr]
          dsimp only at q
          cases e2 : datF l m r (st ++ [a] ++ [a]) (dp + 1) with
          | error x =>
            rw [e2] at q
            intro d i' pl' W' kW'
            walk_at "y"
            refine ⟨rfl, by simp [sizeLine_eq], ?_⟩
            subst hR
            walk_at "y"
            refine ⟨by simp [sizeLine_eq], ?_⟩
            exact q _ _ _ _ fun n hn => (kW' n hn).trans (kW2 n hn)
          | ok x =>
            obtain ⟨d, r', st'⟩ := x
            rw [e2] at q
            intro i' W' hi' hr' kW' hW'
            walk_at "y"
            refine ⟨rfl, by simp [sizeLine_eq], ?_⟩
            subst hR
            walk_at "y"
            refine ⟨by simp [sizeLine_eq], ?_⟩
            have q2 := q i' W' hi' hr' (fun n hn => (kW' n hn).trans (kW2 n hn)) hW'
            rw [he]
            rw [List.length_append] at q2
            exact q2
        refine ⟨trivial, ?_⟩
        rw [lit_ap, S_eqD, Bool.false_xor]
        by_cases c6 : w = [39]
        · rw [if_pos (decide_eq_true c6)]
          exact ⟨by simp [sizeLine_eq], by simp [sizeLine_eq], hfin _ (by rw [if_pos c6])⟩
        · rw [if_neg (by simp [c6])]
          exact ⟨by simp [sizeLine_eq], by simp [sizeLine_eq], hfin _ (by rw [if_neg c6])⟩
    · rw [if_pos c4] at q
      rw [if_pos (by simp [c4])]
      refine ⟨rfl, .nil, srt, w, rfl, htv, hwl, fun fin => ⟨rfl, ?_⟩⟩
      walk_at "y"
      refine ⟨by simp [sizeLine_eq], by simp [sizeLine_eq], ?_⟩
      have := q (i + 1) W1 (by omega) hr.symm kW1 hW1
      rw [List.length_append] at this
      exact this
end Y
namespace Y
set_option hygiene false
open PySem PySem.Spec L2 SX
local macro_rules | `(tactic| walk_at "y") => `(tactic| dsimp only [tGet2, ex0, exB, endB, envOf, Env.set, Env.put, Env.stSet, Env.push, tFldY, sFldY, tMtE, tMethY, tMakeY, callF, tPub, pub, M.ob?, Ob.vw, Ob.toM, sSetE, tMaxD, gIntS, sRaise, sTry, sTryAs, endN, tXfY, tSm, gFind, gJoin, gStr, gStarts, List.zip_cons_cons, List.zip_nil_left, List.reverse_cons, List.reverse_nil, TF.calm, gx0, putFD, tCallV, tCallL, capt, gLtD, gSum, gMax, gSorted2, sNil, sBk, sCt, sDrop, sIf, asg, sAsg, sRet, sRetN, tIm, tNm, tBin, w2, vw, Sl.m?, tTst, tTru, M.tru, tAndQ, tOrQ, tNotQ, tAndX, tOrX, tNotX, tIfX, lNil, lCons, tOn, fInD, fIxD, tGet1, vwD, getOr, M.isD, sPar2, tLc2X, compL2, tChn, tFrz, froz, tTp, tLs, tCl, vws, tMt, Sl.m!, Sl.up, M.res, gLen, gInt, gAdd, gSub, gMul, gMulS, gDiv, gMod, gPow, gII, gI0, gEqs, gEqs2, gIx, gPop, gApp, gRev, gExt, gTuple, gList, gDict, gIs, gIsi, gAll, gIns, gSorted, gSl, M.lq?, M.lst?, M.sq?, M.dat?, M.isNon, gLt, gLe, gGt, gGe, sFor, iSeq, srcOf, iEnm, enmOf, iRg1, iRg2, bnd, setAll, backS, Sl.isP, tSlc, pNo, pSo, sSetI, hasM, setM, tDspK, tDspT, pairG, D.key?, D.keys?, D.tkey?, putAll, tNewK, tNewT, tNeg, sUnp, tCall, argMs, argM, argS, slots, putB, stepB, putS_lo_ls_ls, putS_lo_ls_dk, putS_lo_ls_dt, putS_lo_ls_no, putS_pa_ls_ls, putS_pa_ls_dk, putS_pa_ls_dt, putS_pa_ls_no, putS_lo_rd_ls, putS_lo_rd_dk, putS_lo_rd_dt, putS_lo_rd_no, putS_pa_rd_ls, putS_pa_rd_dk, putS_pa_rd_dt, putS_pa_rd_no, putS_lo_dk_ls, putS_lo_dk_dk, putS_lo_dk_dt, putS_lo_dk_no, putS_pa_dk_ls, putS_pa_dk_dk, putS_pa_dk_dt, putS_pa_dk_no, putS_lo_dt_ls, putS_lo_dt_dk, putS_lo_dt_dt, putS_lo_dt_no, putS_pa_dt_ls, putS_pa_dt_dk, putS_pa_dt_dt, putS_pa_dt_no, putS_lo_im, putS_lo_sq, putS_pa_im, putS_pa_sq, M.own, M.fit, fins, Sl.fin, envOf, tLcX, compL, wipeE, restE, keepS, qYes, kD, dGet, List.getElem?_cons_zero, List.getElem?_cons_succ, List.getElem?_nil, List.set_cons_zero, List.set_cons_succ, List.map_cons, List.map_nil, List.take_succ_cons, List.take_zero, List.length_cons, List.length_nil, List.head?_cons, List.tail_cons, Option.join_some, List.cons_append, List.nil_append, List.replicate])
local macro_rules | `(tactic| walk_at "n") => `(tactic| ((try dsimp only); refine seq_step fun R hR => ?_; walk_at "y"))
local macro_rules | `(tactic| walk_at "i") => `(tactic| simp only [Bool.false_xor, Bool.true_xor, Bool.not_true, Bool.not_false, Bool.false_eq_true, reduceIte, isiT, M.ty, String.reduceBEq, Bool.or_false, Bool.false_or, Bool.and_false, Bool.and_true, Bool.true_and, Bool.false_and, Bool.or_true, List.mem_cons, true_or, or_true, true_and, and_true, String.reduceEq, decide_true, decide_false])
local macro_rules | `(tactic| walk_at "s") => `(tactic| (subst hR; walk_at "n"))
local macro_rules | `(tactic| walk_at "z") => `(tactic| (simp only [List.map_cons, List.map_nil, atI_c0, atI_c1, atI_c2, atI_c3, atI_c4, atI_c5]; (try walk_at "y")))
local macro_rules | `(tactic| walk_at "e") => `(tactic| repeat (first | rw [if_pos (by decide +kernel)] | rw [if_neg (by decide +kernel)]))
def F_lread : TF := fun ms W G Gx => ∃ l : Tx, ms = [.im (.str (S l))] ∧ l.length ≤ 1000000 ∧ Uni l ∧ ∀ fin W',
  (match readM l with
  | .error e => ∀ D, D = .tup [.str "bad", .int (e : Nat)] → G (.im D) fin W'
  | .ok s => ∀ o D, W'[o]? = some (.ls (natsD s.starts)) → D = .tup [.str "good", .tup s.forms, .obj o] → G (.im D) fin W')
abbrev lrQ : TQ := tAndQ (tTst (tBin (gLt) (tBin gIx (tNm 2) (tIm (.str "bad"))) (tIm (.int 0)))) (tTst (tBin (gLt) (tBin gIx (tNm 2) (tIm (.str "at"))) (tCl (gLen) (lCons (tNm 1) (lNil)))))
theorem lr_loop {PP : EndP} {l : Tx} {all : List Tok3} {o N : Nat} (hll : l.length ≤ 6000) (hal : all.length ≤ 6000) (hok : ∀ t ∈ all, TokOk l t) (hN : 2 * all.length + 1 ≤ N) :
    ∀ (k n i : Nat) (st : List Nat) (fo : List D) (W : Sto), i ≤ all.length → W[o]? = some (.ls (natsD st)) → st.length ≤ 3 * i → fo.length ≤ i → (all.drop i).length < n → (all.drop i).length + 2 ≤ k →
      (match formsF l N n (all.drop i) fo st with
      | .error e => ∀ (i' pl' : Int) (W' : Sto) s3, PP.nx ⟨[.pa (.im (.str (S l))), .lo (.ls (itD all)), .lo (.dk (stD (e : Nat) i' pl' o)), s3], W'⟩
      | .ok (fo', st') => ∀ (i' : Int) (W' : Sto), W'[o]? = some (.ls (natsD st')) → fo'.length ≤ all.length → PP.nx ⟨[.pa (.im (.str (S l))), .lo (.ls (itD all)), .lo (.dk (stD (-1) i' (st'.length : Nat) o)), .lo (.ls fo')], W'⟩) →
      whileS lrQ (b__law_read_1 F_ltoks (F_ldat 61)) PP k ⟨[.pa (.im (.str (S l))), .lo (.ls (itD all)), .lo (.dk (stD (-1) (i : Nat) (st.length : Nat) o)), .lo (.ls fo)], W⟩
  | 0, n, i, st, fo, W, _, _, _, _, _, h, _ => absurd h (by omega)
  | k + 1, n, i, st, fo, W, hi, hW, hst, hfo, hn, hk, q => by
    have la : (itD all).length = all.length := by unfold itD; rw [List.length_map]
    obtain ⟨m, rfl⟩ : ∃ m, n = m + 1 := ⟨n - 1, by omega⟩
    refine while_step fun L hL => ?_
    dsimp only [lrQ]
    walk_at "y"
    rw [get_bad]
    dsimp only
    rw [if_pos (by decide), get_at]
    dsimp only
    rw [la]
    cases hd : all.drop i with
    | nil =>
      have e : i = all.length := by have := List.drop_eq_nil_iff.mp hd; omega
      rw [hd, formsF] at q
      rw [if_neg (by simp [e])]
      exact q _ W hW (by omega)
    | cons t r =>
      have hil : i < all.length := by have := congrArg List.length hd; rw [List.length_drop, List.length_cons] at this; omega
      rw [if_pos (by simp; omega)]
      rw [hd, formsF, ← hd] at q
      unfold b__law_read_1
      walk_at "y"
      refine ⟨trivial, rfl, by decide, l, all, i, o, 0, N, st, rfl, hll, hal, hok, hi, hW, by omega, by omega, hst, by rw [List.length_drop]; omega, ?_⟩
      cases e : datF l N (all.drop i) st 0 with
      | error x =>
        rw [e] at q
        intro d i' pl' W' kW'
        walk_at "y"
        refine ⟨rfl, szLt (by omega), ?_⟩
        subst hL
        obtain ⟨k', rfl⟩ : ∃ k', k = k' + 1 := ⟨k - 1, by omega⟩
        refine while_step fun _ _ => ?_
        dsimp only [lrQ]
        walk_at "y"
        rw [get_bad]
        dsimp only
        rw [if_neg (by simp)]
        (try rw [if_neg (by simp)])
        exact q i' pl' W' _
      | ok x =>
        obtain ⟨d, r', st'⟩ := x
        rw [e] at q
        have ln := dat_len _ _ _ _ e
        intro i' W' hi' hr' kW' hW'
        walk_at "y"
        refine ⟨rfl, szLt (by omega), ?_⟩
        subst hL
        rw [hr', List.length_drop, List.length_drop] at ln
        refine lr_loop hll hal hok hN k m i' st' (fo ++ [d]) W' hi' hW' (by omega) (by simp; omega) ?_ ?_ ?_
        · rw [List.length_drop] at hn ⊢; omega
        · rw [List.length_drop] at hk ⊢; omega
        · rw [← hr']
          dsimp only at q
          exact q
theorem body_lread : Body F_lread 4 1 fun _ => t__law_read F_ltoks (F_ldat 61) := by
  rintro ms W G Gx hl ⟨l, rfl, hll, hu, q⟩
  show t__law_read _ _ _ ⟨[Sl.pa (.im (.str (S l))), .no, .no, .no], W⟩
  unfold t__law_read
  have hs : (S l).length ≤ sizeLine := by rw [S_len]; exact szLine (by omega)
  walk_at "n"
  rw [S_len]
  by_cases c : 6000 < l.length
  · rw [if_pos (by simp; omega)]
    have e : readM l = .error 6000 := by unfold readM; rw [if_pos c]
    rw [e] at q
    refine ⟨szLine (by omega), by simp [sizeLine_eq], ?_⟩
    exact q _ W _ rfl
  · rw [if_neg (by simp; omega)]
    refine ⟨szLine (by omega), ?_⟩
    subst hR
    walk_at "n"
    refine ⟨rfl, by decide, l, rfl, by omega, hu, fun fin => ?_⟩
    walk_at "y"
    refine ⟨rfl, ?_⟩
    subst hR
    walk_at "n"
    refine ⟨by simp, by decide, ?_⟩
    rw [show List.foldl (fun acc kv => putD acc kv.1 kv.2) [] [(Sum.inr (Str.ofString "bad"), D.int (0 - 1)), (Sum.inr (Str.ofString "at"), D.int 0), (Sum.inr (Str.ofString "place"), D.int 0), (Sum.inr (Str.ofString "starts"), D.obj (List.length W))] = stD (-1) ((0 : Nat) : Int) (([] : List Nat).length : Nat) W.length from by rfl]
    have hW0 : (W ++ [Ob.ls []])[W.length]? = some (.ls (natsD [])) := by simp [natsD]
    generalize W ++ [Ob.ls []] = W1 at hW0 ⊢
    subst hR
    walk_at "n"
    refine ⟨by simp, ?_⟩
    subst hR
    refine seq_step fun R hR => ?_
    have tl : (toksOf l).length ≤ l.length := lex_len _ _ _
    refine ⟨(toksOf l).length + 2, ?_⟩
    have le : (itD (toksOf l)).length = (toksOf l).length := by unfold itD; rw [List.length_map]
    refine lr_loop (all := toksOf l) (N := 2 * (toksOf l).length + 1) (by omega) (by omega) (toks_ok l) (by omega) _ ((toksOf l).length + 1) 0 [] [] W1 (by omega) hW0 (by simp) (by simp) (by simp) (by simp) ?_
    rw [List.drop_zero]
    have re := read_eq l (by omega)
    cases e : formsF l (2 * (toksOf l).length + 1) ((toksOf l).length + 1) (toksOf l) [] [] with
    | error x =>
      rw [e] at re
      dsimp only at re ⊢
      intro i' pl' W' s3
      show R _
      subst hR
      walk_at "n"
      rw [get_bad]
      dsimp only
      rw [if_pos (by simp)]
      rw [re] at q
      refine ⟨by simp [sizeLine_eq], ?_⟩
      exact q _ W' _ rfl
    | ok x =>
      obtain ⟨fo', st'⟩ := x
      rw [e] at re
      dsimp only at re ⊢
      intro i' W' hW' hfo
      show R _
      subst hR
      walk_at "n"
      rw [get_bad]
      dsimp only
      rw [if_neg (by simp)]
      subst hR
      rw [re] at q
      walk_at "y"
      rw [get_st]
      dsimp only
      refine ⟨by simp [sizeLine_eq], ?_⟩
      exact q _ W' _ _ hW' rfl
end Y
namespace Y
set_option hygiene false
open PySem PySem.Spec L2 SX
local macro_rules | `(tactic| walk_at "y") => `(tactic| dsimp only [tGet2, ex0, exB, endB, envOf, Env.set, Env.put, Env.stSet, Env.push, tFldY, sFldY, tMtE, tMethY, tMakeY, callF, tPub, pub, M.ob?, Ob.vw, Ob.toM, sSetE, tMaxD, gIntS, sRaise, sTry, sTryAs, endN, tXfY, tSm, gFind, gJoin, gStr, gStarts, List.zip_cons_cons, List.zip_nil_left, List.reverse_cons, List.reverse_nil, TF.calm, gx0, putFD, tCallV, tCallL, capt, gLtD, gSum, gMax, gSorted2, sNil, sBk, sCt, sDrop, sIf, asg, sAsg, sRet, sRetN, tIm, tNm, tBin, w2, vw, Sl.m?, tTst, tTru, M.tru, tAndQ, tOrQ, tNotQ, tAndX, tOrX, tNotX, tIfX, lNil, lCons, tOn, fInD, fIxD, tGet1, vwD, getOr, M.isD, sPar2, tLc2X, compL2, tChn, tFrz, froz, tTp, tLs, tCl, vws, tMt, Sl.m!, Sl.up, M.res, gLen, gInt, gAdd, gSub, gMul, gMulS, gDiv, gMod, gPow, gII, gI0, gEqs, gEqs2, gIx, gPop, gApp, gRev, gExt, gTuple, gList, gDict, gIs, gIsi, gAll, gIns, gSorted, gSl, M.lq?, M.lst?, M.sq?, M.dat?, M.isNon, gLt, gLe, gGt, gGe, sFor, iSeq, srcOf, iEnm, enmOf, iRg1, iRg2, bnd, setAll, backS, Sl.isP, tSlc, pNo, pSo, sSetI, hasM, setM, tDspK, tDspT, pairG, D.key?, D.keys?, D.tkey?, putAll, tNewK, tNewT, tNeg, sUnp, tCall, argMs, argM, argS, slots, putB, stepB, putS_lo_ls_ls, putS_lo_ls_dk, putS_lo_ls_dt, putS_lo_ls_no, putS_pa_ls_ls, putS_pa_ls_dk, putS_pa_ls_dt, putS_pa_ls_no, putS_lo_rd_ls, putS_lo_rd_dk, putS_lo_rd_dt, putS_lo_rd_no, putS_pa_rd_ls, putS_pa_rd_dk, putS_pa_rd_dt, putS_pa_rd_no, putS_lo_dk_ls, putS_lo_dk_dk, putS_lo_dk_dt, putS_lo_dk_no, putS_pa_dk_ls, putS_pa_dk_dk, putS_pa_dk_dt, putS_pa_dk_no, putS_lo_dt_ls, putS_lo_dt_dk, putS_lo_dt_dt, putS_lo_dt_no, putS_pa_dt_ls, putS_pa_dt_dk, putS_pa_dt_dt, putS_pa_dt_no, putS_lo_im, putS_lo_sq, putS_pa_im, putS_pa_sq, M.own, M.fit, fins, Sl.fin, envOf, tLcX, compL, wipeE, restE, keepS, qYes, kD, dGet, List.getElem?_cons_zero, List.getElem?_cons_succ, List.getElem?_nil, List.set_cons_zero, List.set_cons_succ, List.map_cons, List.map_nil, List.take_succ_cons, List.take_zero, List.length_cons, List.length_nil, List.head?_cons, List.tail_cons, Option.join_some, List.cons_append, List.nil_append, List.replicate])
local macro_rules | `(tactic| walk_at "n") => `(tactic| ((try dsimp only); refine seq_step fun R hR => ?_; walk_at "y"))
local macro_rules | `(tactic| walk_at "i") => `(tactic| simp only [Bool.false_xor, Bool.true_xor, Bool.not_true, Bool.not_false, Bool.false_eq_true, reduceIte, isiT, M.ty, String.reduceBEq, Bool.or_false, Bool.false_or, Bool.and_false, Bool.and_true, Bool.true_and, Bool.false_and, Bool.or_true, List.mem_cons, true_or, or_true, true_and, and_true, String.reduceEq, decide_true, decide_false])
local macro_rules | `(tactic| walk_at "s") => `(tactic| (subst hR; walk_at "n"))
local macro_rules | `(tactic| walk_at "z") => `(tactic| (simp only [List.map_cons, List.map_nil, atI_c0, atI_c1, atI_c2, atI_c3, atI_c4, atI_c5]; (try walk_at "y")))
local macro_rules | `(tactic| walk_at "e") => `(tactic| repeat (first | rw [if_pos (by decide +kernel)] | rw [if_neg (by decide +kernel)]))
def F_told (cR cF cE : Addr) : TF := fun ms W G Gx => ∃ l : Tx, ms = [.im (.str (S l))] ∧ l.length ≤ 1000000 ∧ Uni l ∧ ∀ fin W',
  (match readM l with
  | .error e => G (.im (.tup [.str "bad", .int (e : Nat)])) fin W'
  | .ok s => G (.im (.tup [.str "good", .tup s.forms, .lst (natsD s.starts)])) fin W')
theorem body_told (cR cF cE : Addr) : Body (F_told cR cF cE) 4 1 fun ex => t__law_told (F_read cR cF cE) (F_offs cR cF cE) cE ex := by
  rintro ms W G Gx hl ⟨l, rfl, hll, hu, q⟩
  show t__law_told _ _ _ _ _ ⟨[Sl.pa (.im (.str (S l))), .no, .no, .no], W⟩
  unfold t__law_told
  have hs : (S l).length ≤ sizeLine := by rw [S_len]; exact szLine (by omega)
  walk_at "n"
  subst hR
  walk_at "n"
  refine ⟨rfl, by decide, l, rfl, by omega, hu, ?_⟩
  cases e : readM l with
  | error x =>
    rw [e] at q
    intro W'
    try dsimp only
    rw [show mtOne cE (xcR cE x).1 = some true from mtOne_self cE]
    dsimp only
    intro a
    refine ⟨rfl, rfl, ?_⟩
    rw [show List.lookup (Str.ofString "at") (xcR cE x).2 = some (.int (x : Nat)) from by rfl]
    dsimp only
    refine ⟨by simp [sizeLine_eq], ?_⟩
    subst hR
    walk_at "n"
    rw [if_neg (by simp)]
    subst hR
    walk_at "n"
    refine ⟨rfl, by decide, l, rfl, by omega, hu, ?_⟩
    rw [e]
    intro W2
    try dsimp only
    rw [show mtOne cE (xcR cE x).1 = some true from mtOne_self cE]
    dsimp only
    intro a2
    refine ⟨rfl, rfl, ?_⟩
    rw [show List.lookup (Str.ofString "at") (xcR cE x).2 = some (.int (x : Nat)) from by rfl]
    walk_at "z"
    rw [if_pos (by simp)]
    exact q _ _
  | ok s =>
    rw [e] at q
    intro W' fin kp
    walk_at "y"
    refine ⟨rfl, ?_⟩
    subst hR
    walk_at "n"
    rw [if_pos (by rfl)]
    refine ⟨rfl, by decide, l, rfl, by omega, hu, ?_⟩
    rw [e]
    intro W2 fin2 kp2
    walk_at "y"
    refine ⟨rfl, by simp [sizeLine_eq], ?_⟩
    exact q _ _
end Y
namespace Y
set_option hygiene false
open PySem PySem.Spec L2 SX
local macro_rules | `(tactic| walk_at "y") => `(tactic| dsimp only [tGet2, ex0, exB, endB, envOf, Env.set, Env.put, Env.stSet, Env.push, tFldY, sFldY, tMtE, tMethY, tMakeY, callF, tPub, pub, M.ob?, Ob.vw, Ob.toM, sSetE, tMaxD, gIntS, sRaise, sTry, sTryAs, endN, tXfY, tSm, gFind, gJoin, gStr, gStarts, List.zip_cons_cons, List.zip_nil_left, List.reverse_cons, List.reverse_nil, TF.calm, gx0, putFD, tCallV, tCallL, capt, gLtD, gSum, gMax, gSorted2, sNil, sBk, sCt, sDrop, sIf, asg, sAsg, sRet, sRetN, tIm, tNm, tBin, w2, vw, Sl.m?, tTst, tTru, M.tru, tAndQ, tOrQ, tNotQ, tAndX, tOrX, tNotX, tIfX, lNil, lCons, tOn, fInD, fIxD, tGet1, vwD, getOr, M.isD, sPar2, tLc2X, compL2, tChn, tFrz, froz, tTp, tLs, tCl, vws, tMt, Sl.m!, Sl.up, M.res, gLen, gInt, gAdd, gSub, gMul, gMulS, gDiv, gMod, gPow, gII, gI0, gEqs, gEqs2, gIx, gPop, gApp, gRev, gExt, gTuple, gList, gDict, gIs, gIsi, gAll, gIns, gSorted, gSl, M.lq?, M.lst?, M.sq?, M.dat?, M.isNon, gLt, gLe, gGt, gGe, sFor, iSeq, srcOf, iEnm, enmOf, iRg1, iRg2, bnd, setAll, backS, Sl.isP, tSlc, pNo, pSo, sSetI, hasM, setM, tDspK, tDspT, pairG, D.key?, D.keys?, D.tkey?, putAll, tNewK, tNewT, tNeg, sUnp, tCall, argMs, argM, argS, slots, putB, stepB, putS_lo_ls_ls, putS_lo_ls_dk, putS_lo_ls_dt, putS_lo_ls_no, putS_pa_ls_ls, putS_pa_ls_dk, putS_pa_ls_dt, putS_pa_ls_no, putS_lo_rd_ls, putS_lo_rd_dk, putS_lo_rd_dt, putS_lo_rd_no, putS_pa_rd_ls, putS_pa_rd_dk, putS_pa_rd_dt, putS_pa_rd_no, putS_lo_dk_ls, putS_lo_dk_dk, putS_lo_dk_dt, putS_lo_dk_no, putS_pa_dk_ls, putS_pa_dk_dk, putS_pa_dk_dt, putS_pa_dk_no, putS_lo_dt_ls, putS_lo_dt_dk, putS_lo_dt_dt, putS_lo_dt_no, putS_pa_dt_ls, putS_pa_dt_dk, putS_pa_dt_dt, putS_pa_dt_no, putS_lo_im, putS_lo_sq, putS_pa_im, putS_pa_sq, M.own, M.fit, fins, Sl.fin, envOf, tLcX, compL, wipeE, restE, keepS, qYes, kD, dGet, List.getElem?_cons_zero, List.getElem?_cons_succ, List.getElem?_nil, List.set_cons_zero, List.set_cons_succ, List.map_cons, List.map_nil, List.take_succ_cons, List.take_zero, List.length_cons, List.length_nil, List.head?_cons, List.tail_cons, Option.join_some, List.cons_append, List.nil_append, List.replicate])
local macro_rules | `(tactic| walk_at "n") => `(tactic| ((try dsimp only); refine seq_step fun R hR => ?_; walk_at "y"))
local macro_rules | `(tactic| walk_at "i") => `(tactic| simp only [Bool.false_xor, Bool.true_xor, Bool.not_true, Bool.not_false, Bool.false_eq_true, reduceIte, isiT, M.ty, String.reduceBEq, Bool.or_false, Bool.false_or, Bool.and_false, Bool.and_true, Bool.true_and, Bool.false_and, Bool.or_true, List.mem_cons, true_or, or_true, true_and, and_true, String.reduceEq, decide_true, decide_false])
local macro_rules | `(tactic| walk_at "s") => `(tactic| (subst hR; walk_at "n"))
local macro_rules | `(tactic| walk_at "z") => `(tactic| (simp only [List.map_cons, List.map_nil, atI_c0, atI_c1, atI_c2, atI_c3, atI_c4, atI_c5]; (try walk_at "y")))
local macro_rules | `(tactic| walk_at "e") => `(tactic| repeat (first | rw [if_pos (by decide +kernel)] | rw [if_neg (by decide +kernel)]))
theorem same_comp2 {F : TF} {W : Sto} {n : Nat} {m0 m1 : M} {k : List D → Env → Prop} (hl : n ≤ 100000)
    (go : ∀ (lo : Nat), lo < n → ∀ Q : List D → Env → Prop, Q [.bl true] ⟨[Sl.pa m0, Sl.pa m1, .lo (.im (.int (lo : Nat)))], W⟩ → tFrz (lCons (tCall ex0 F 2 (lCons (tBin gIx (tNm 0) (tNm 2)) (lCons (tBin gIx (tNm 1) (tNm 2)) lNil))) lNil) Q ⟨[Sl.pa m0, Sl.pa m1, .lo (.im (.int (lo : Nat)))], W⟩)
    (q : k (List.replicate n (.bl true)) ⟨[Sl.pa m0, Sl.pa m1, .no], W⟩) : ∀ (j lo : Nat), lo + j = n →
    compL (.one 2) qYes (tCall ex0 F 2 (lCons (tBin gIx (tNm 0) (tNm 2)) (lCons (tBin gIx (tNm 1) (tNm 2)) lNil))) [2] (fun _ => True) k (gRng lo j) (List.replicate lo (.bl true)) ⟨[Sl.pa m0, Sl.pa m1, .no], W⟩ := by
  intro j
  induction j with
  | zero =>
    intro lo e
    have e : lo = n := by omega
    subst e
    exact ⟨trivial, q⟩
  | succ j ih =>
    intro lo e
    rw [gRng_succ]
    refine comp_step trivial fun L hL => ?_
    dsimp only [bnd, qYes, List.set_cons_succ, List.set_cons_zero]
    rw [if_pos rfl]
    refine go lo (by omega) _ ?_
    refine ⟨by simp [sizeLine_eq]; omega, ?_⟩
    rw [← List.replicate_succ', hL]
    exact ih (lo + 1) (by omega)
/-- a list found, and the list shared that is due -/
def F_sL (W : Sto) (x y : D) : Prop := ∃ (l : List Nat) (o : Nat), x = .lst (natsD l) ∧ y = .obj o ∧ W[o]? = some (.ls (natsD l)) ∧ l.length ≤ 100000
def F_s2 (n : Nat) : TF := fun ms W G Gx => F_same (n + 2) ms W G Gx ∨ ∃ x y, ms = [.im x, .im y] ∧ F_sL W x y ∧ ∀ fin, G (.im (.bl true)) fin W
def F_s3 (n : Nat) : TF := fun ms W G Gx => ∃ (xs ys : List D), ms = [.im (.tup xs), .im (.tup ys)] ∧ xs.length = ys.length ∧ xs.length ≤ 100000 ∧ (∀ (i : Nat) (x y : D), xs[i]? = some x → ys[i]? = some y → (x = y ∧ D.sane (n + 2) x = true) ∨ F_sL W x y) ∧ ∀ fin, G (.im (.bl true)) fin W
theorem body_s2 (n : Nat) : Body (F_s2 n) 3 2 fun _ => t__law_same (F_same (n + 1)) := by
  rintro ms W G Gx hl (h | ⟨x, y, rfl, ⟨l, o, rfl, rfl, hW, hll⟩, q⟩)
  · exact body_same (n + 1) ms W G Gx hl h
  · show t__law_same _ _ ⟨[Sl.pa (.im (.lst (natsD l))), Sl.pa (.im (.obj o)), .no], W⟩
    unfold t__law_same
    have o1 : ∀ b, D.ok 64 (.bl b) = true := fun b => rfl
    have e1 : ∀ b, (!(D.bl b).eqv (D.bl b)) = false := fun b => by cases b <;> rfl
    walk_at "n"; (try simp only [hW]); walk_at "i"
    walk_at "s"; (try simp only [hW]); walk_at "i"
    walk_at "s"; (try simp only [hW]); walk_at "i"
    walk_at "s"; (try simp only [hW]); walk_at "i"
    walk_at "s"; (try simp only [hW]); walk_at "i"
    refine ⟨o1 _, o1 _, ?_⟩
    rw [if_neg (by rw [e1]; decide)]
    refine ⟨o1 _, o1 _, ?_⟩
    rw [if_neg (by rw [e1]; decide)]
    subst hR; walk_at "y"
    simp only [hW]
    have ll : (natsD l).length = l.length := by unfold natsD; rw [List.length_map]
    rw [if_pos (by simp), ll]
    refine ⟨by omega, by omega, ?_⟩
    rw [Int.toNat_natCast]
    refine same_comp2 (n := l.length) (by omega) (fun lo hlo Q hQ => ?_) ?_ _ 0 (by simp)
    · obtain ⟨x, hx, hx2⟩ := atI_ok (xs := natsD l) (i := (lo : Int)) (by omega) (by omega)
      have sn : D.sane (n + 1) x = true := by
        have hm : x ∈ natsD l := List.mem_of_getElem? hx2
        unfold natsD at hm
        obtain ⟨v, _, rfl⟩ := List.mem_map.mp hm
        rfl
      walk_at "y"
      simp only [hW]
      try dsimp only [gIx, M.lq?]
      rw [hx]
      exact ⟨trivial, List.nodup_nil, .im x, rfl, sn, fun _ => ⟨rfl, hQ⟩⟩
    · walk_at "y"
      rw [bls_rep]; dsimp only; rw [all_rep]
      exact q _
theorem body_s3 (n : Nat) : Body (F_s3 n) 3 2 fun _ => t__law_same (F_s2 n) := by
  rintro ms W G Gx hl ⟨xs, ys, rfl, he, hll, hp, q⟩
  show t__law_same _ _ ⟨[Sl.pa (.im (.tup xs)), Sl.pa (.im (.tup ys)), .no], W⟩
  unfold t__law_same
  have o1 : ∀ b, D.ok 64 (.bl b) = true := fun b => rfl
  have e1 : ∀ b, (!(D.bl b).eqv (D.bl b)) = false := fun b => by cases b <;> rfl
  walk_at "n"; walk_at "i"
  walk_at "s"; walk_at "i"
  walk_at "s"; walk_at "i"
  walk_at "s"; walk_at "i"
  walk_at "s"; walk_at "i"
  refine ⟨o1 _, o1 _, ?_⟩
  rw [if_neg (by rw [e1]; decide)]
  refine ⟨o1 _, o1 _, ?_⟩
  rw [if_neg (by rw [e1]; decide)]
  subst hR; walk_at "y"
  rw [if_pos (by simp [he])]
  refine ⟨by omega, by omega, ?_⟩
  rw [Int.toNat_natCast]
  refine same_comp2 (n := ys.length) (by omega) (fun lo hlo Q hQ => ?_) ?_ _ 0 (by simp)
  · obtain ⟨x, hx, hx2⟩ := atI_ok (xs := xs) (i := (lo : Int)) (by omega) (by omega)
    obtain ⟨y, hy, hy2⟩ := atI_ok (xs := ys) (i := (lo : Int)) (by omega) (by omega)
    rw [Int.toNat_natCast] at hx2 hy2
    walk_at "y"
    rw [hx, hy]
    dsimp only
    refine ⟨rfl, by decide, ?_⟩
    rcases hp lo x y hx2 hy2 with ⟨rfl, sn⟩ | h
    · exact .inl ⟨.im x, rfl, sn, fun _ => ⟨rfl, hQ⟩⟩
    · exact .inr ⟨x, y, rfl, h, fun _ => ⟨rfl, hQ⟩⟩
  · walk_at "y"
    rw [bls_rep]; dsimp only; rw [all_rep]
    exact q _
end Y
namespace Y
set_option hygiene false
open PySem PySem.Spec L2 SX
local macro_rules | `(tactic| walk_at "y") => `(tactic| dsimp only [tGet2, ex0, exB, endB, envOf, Env.set, Env.put, Env.stSet, Env.push, tFldY, sFldY, tMtE, tMethY, tMakeY, callF, tPub, pub, M.ob?, Ob.vw, Ob.toM, sSetE, tMaxD, gIntS, sRaise, sTry, sTryAs, endN, tXfY, tSm, gFind, gJoin, gStr, gStarts, List.zip_cons_cons, List.zip_nil_left, List.reverse_cons, List.reverse_nil, TF.calm, gx0, putFD, tCallV, tCallL, capt, gLtD, gSum, gMax, gSorted2, sNil, sBk, sCt, sDrop, sIf, asg, sAsg, sRet, sRetN, tIm, tNm, tBin, w2, vw, Sl.m?, tTst, tTru, M.tru, tAndQ, tOrQ, tNotQ, tAndX, tOrX, tNotX, tIfX, lNil, lCons, tOn, fInD, fIxD, tGet1, vwD, getOr, M.isD, sPar2, tLc2X, compL2, tChn, tFrz, froz, tTp, tLs, tCl, vws, tMt, Sl.m!, Sl.up, M.res, gLen, gInt, gAdd, gSub, gMul, gMulS, gDiv, gMod, gPow, gII, gI0, gEqs, gEqs2, gIx, gPop, gApp, gRev, gExt, gTuple, gList, gDict, gIs, gIsi, gAll, gIns, gSorted, gSl, M.lq?, M.lst?, M.sq?, M.dat?, M.isNon, gLt, gLe, gGt, gGe, sFor, iSeq, srcOf, iEnm, enmOf, iRg1, iRg2, bnd, setAll, backS, Sl.isP, tSlc, pNo, pSo, sSetI, hasM, setM, tDspK, tDspT, pairG, D.key?, D.keys?, D.tkey?, putAll, tNewK, tNewT, tNeg, sUnp, tCall, argMs, argM, argS, slots, putB, stepB, putS_lo_ls_ls, putS_lo_ls_dk, putS_lo_ls_dt, putS_lo_ls_no, putS_pa_ls_ls, putS_pa_ls_dk, putS_pa_ls_dt, putS_pa_ls_no, putS_lo_rd_ls, putS_lo_rd_dk, putS_lo_rd_dt, putS_lo_rd_no, putS_pa_rd_ls, putS_pa_rd_dk, putS_pa_rd_dt, putS_pa_rd_no, putS_lo_dk_ls, putS_lo_dk_dk, putS_lo_dk_dt, putS_lo_dk_no, putS_pa_dk_ls, putS_pa_dk_dk, putS_pa_dk_dt, putS_pa_dk_no, putS_lo_dt_ls, putS_lo_dt_dk, putS_lo_dt_dt, putS_lo_dt_no, putS_pa_dt_ls, putS_pa_dt_dk, putS_pa_dt_dt, putS_pa_dt_no, putS_lo_im, putS_lo_sq, putS_pa_im, putS_pa_sq, M.own, M.fit, fins, Sl.fin, envOf, tLcX, compL, wipeE, restE, keepS, qYes, kD, dGet, List.getElem?_cons_zero, List.getElem?_cons_succ, List.getElem?_nil, List.set_cons_zero, List.set_cons_succ, List.map_cons, List.map_nil, List.take_succ_cons, List.take_zero, List.length_cons, List.length_nil, List.head?_cons, List.tail_cons, Option.join_some, List.cons_append, List.nil_append, List.replicate])
local macro_rules | `(tactic| walk_at "n") => `(tactic| ((try dsimp only); refine seq_step fun R hR => ?_; walk_at "y"))
local macro_rules | `(tactic| walk_at "i") => `(tactic| simp only [Bool.false_xor, Bool.true_xor, Bool.not_true, Bool.not_false, Bool.false_eq_true, reduceIte, isiT, M.ty, String.reduceBEq, Bool.or_false, Bool.false_or, Bool.and_false, Bool.and_true, Bool.true_and, Bool.false_and, Bool.or_true, List.mem_cons, true_or, or_true, true_and, and_true, String.reduceEq, decide_true, decide_false])
local macro_rules | `(tactic| walk_at "s") => `(tactic| (subst hR; walk_at "n"))
local macro_rules | `(tactic| walk_at "z") => `(tactic| (simp only [List.map_cons, List.map_nil, atI_c0, atI_c1, atI_c2, atI_c3, atI_c4, atI_c5]; (try walk_at "y")))
local macro_rules | `(tactic| walk_at "e") => `(tactic| repeat (first | rw [if_pos (by decide +kernel)] | rw [if_neg (by decide +kernel)]))
def Lv (dp : Nat) : Nat := 2 * (61 - dp) + 3
theorem lv_s {dp : Nat} (h : dp < 60) : Lv dp = Lv (dp + 1) + 2 := by unfold Lv; omega
theorem val_sane (n : Nat) (s : Str) (w : Tx) : D.sane (n + 1) (valF s w).2 = true := by
  unfold valF
  repeat' split
  all_goals rfl
theorem at_sane {dp : Nat} {s : Str} {w : Tx} {p : Int} : D.sane (Lv dp) (.tup [.str (valF s w).1, (valF s w).2, .int p]) = true := by
  obtain ⟨k, hk⟩ : ∃ k, Lv dp = k + 2 := ⟨2 * (61 - dp) + 1, by unfold Lv; omega⟩
  rw [hk]
  simp only [D.sane, D.sanes, val_sane, List.length_cons, List.length_nil]
  rfl
theorem ls_sane {k : Nat} {acc : List D} {p : Nat} (h : ∀ d ∈ acc, D.sane k d = true) (hl : acc.length ≤ 100000) : D.sane (k + 2) (lsD acc p) = true := by
  unfold lsD
  simp only [D.sane, D.sanes, D.sanes_all, Bool.and_eq_true, decide_eq_true_eq, List.all_eq_true]
  exact ⟨by simp, trivial, ⟨hl, h⟩, trivial, trivial⟩
theorem nm_sane {dp : Nat} {a b : Str} {p : Int} : D.sane (Lv dp) (.tup [.str a, .str b, .int p]) = true := by
  obtain ⟨k, hk⟩ : ∃ k, Lv dp = k + 2 := ⟨2 * (61 - dp) + 1, by unfold Lv; omega⟩
  rw [hk]
  simp only [D.sane, D.sanes, List.length_cons, List.length_nil]
  rfl
mutual
theorem dat_sane {l : Tx} : ∀ (n : Nat) (ts : List Tok3) (st : List Nat) (dp : Nat) {d : D} {r' : List Tok3} {st' : List Nat}, dp ≤ 60 → ts.length ≤ 6000 → datF l n ts st dp = .ok (d, r', st') → D.sane (Lv dp) d = true
  | 0, _, _, _, _, _, _, _, _, h => by simp [datF] at h
  | n + 1, [], _, _, _, _, _, _, _, h => by simp [datF] at h
  | n + 1, t :: r, st, dp, d, r', st', h0, h1, h => by
    unfold datF at h
    rw [List.length_cons] at h1
    split at h
    · cases h
    rename_i hb
    split at h
    · cases h
      exact at_sane
    rename_i hs
    have hs : t.1 = "sign" := Decidable.not_not.mp hs
    have dp5 : dp < 60 := by have : dp ≠ 60 := fun z => hb (.inr (.inr ⟨hs, z⟩)); omega
    split at h
    · cases e : datF l n r (st ++ [t.2.1] ++ [t.2.1]) (dp + 1) with
      | error x => rw [e] at h; cases h
      | ok x =>
        obtain ⟨d1, r1, s1⟩ := x
        rw [e] at h
        cases h
        have := dat_sane n r _ _ (by omega) (by omega) e
        rw [lv_s dp5]
        refine ls_sane (fun d hd => ?_) (by simp)
        rcases List.mem_cons.mp hd with rfl | hd
        · exact nm_sane
        · rw [List.mem_singleton.mp hd]; exact this
    · rw [lv_s dp5]
      exact lst_sane n r _ (dp + 1) [] _ (by omega) (by simp; omega) (fun d hd => by cases hd) h
theorem lst_sane {l : Tx} : ∀ (n : Nat) (ts : List Tok3) (st : List Nat) (dp : Nat) (acc : List D) (pl : Nat) {d : D} {r' : List Tok3} {st' : List Nat}, dp ≤ 60 → acc.length + ts.length ≤ 6000 → (∀ d ∈ acc, D.sane (Lv dp) d = true) → lstF l n ts st dp acc pl = .ok (d, r', st') → D.sane (Lv dp + 2) d = true
  | 0, _, _, _, _, _, _, _, _, _, _, _, h => by simp [lstF] at h
  | n + 1, [], _, _, _, _, _, _, _, _, _, _, h => by simp [lstF] at h
  | n + 1, t :: r, st, dp, acc, pl, d, r', st', h0, h1, ha, h => by
    unfold lstF at h
    split at h
    · cases h
      exact ls_sane ha (by rw [List.length_cons] at h1; omega)
    · cases e : datF l n (t :: r) st dp with
      | error x => rw [e] at h; cases h
      | ok x =>
        obtain ⟨d1, r1, s1⟩ := x
        rw [e] at h
        have a := dat_len n (t :: r) _ _ e
        have b := dat_sane n (t :: r) _ _ h0 (by omega) e
        refine lst_sane n r1 _ dp (acc ++ [d1]) _ h0 (by rw [List.length_append, List.length_singleton]; omega) (fun d hd => ?_) h
        rcases List.mem_append.mp hd with hd | hd
        · exact ha d hd
        · rw [List.mem_singleton.mp hd]; exact b
end
theorem forms_sane {l : Tx} {N : Nat} : ∀ (n : Nat) (ts : List Tok3) (fo : List D) (st : List Nat) {fo' : List D} {st' : List Nat}, fo.length + ts.length ≤ 6000 → (∀ d ∈ fo, D.sane (Lv 0) d = true) → formsF l N n ts fo st = .ok (fo', st') →
    (∀ d ∈ fo', D.sane (Lv 0) d = true) ∧ fo'.length ≤ 6000 ∧ st'.length ≤ st.length + 2 * ts.length
  | 0, _, _, _, _, _, _, _, h => by simp [formsF] at h
  | n + 1, [], fo, st, fo', st', h1, ha, h => by
    rw [formsF] at h; cases h
    exact ⟨ha, by omega, by omega⟩
  | n + 1, t :: r, fo, st, fo', st', h1, ha, h => by
    rw [formsF] at h
    cases e : datF l N (t :: r) st 0 with
    | error x => rw [e] at h; cases h
    | ok x =>
      obtain ⟨d1, r1, s1⟩ := x
      rw [e] at h
      have a := dat_len N (t :: r) _ _ e
      have b := dat_sane N (t :: r) _ _ (by omega) (by omega) e
      have c := forms_sane n r1 (fo ++ [d1]) s1 (by rw [List.length_append, List.length_singleton]; omega) (fun d hd => by
        rcases List.mem_append.mp hd with hd | hd
        · exact ha d hd
        · rw [List.mem_singleton.mp hd]; exact b) h
      exact ⟨c.1, c.2.1, by omega⟩
theorem read_sane {l : Tx} {s : RS} (h : readM l = .ok s) : (∀ d ∈ s.forms, D.sane (Lv 0) d = true) ∧ s.forms.length ≤ 6000 ∧ s.starts.length ≤ 12000 := by
  by_cases c : 6000 < l.length
  · unfold readM at h; rw [if_pos c] at h; cases h
  have tl : (toksOf l).length ≤ l.length := lex_len _ _ _
  rw [read_eq l (by omega)] at h
  cases e : formsF l (2 * (toksOf l).length + 1) ((toksOf l).length + 1) (toksOf l) [] [] with
  | error x => rw [e] at h; cases h
  | ok x =>
    obtain ⟨fo, st⟩ := x
    rw [e] at h
    cases h
    have := forms_sane _ _ _ _ (by simp; omega) (fun d hd => by cases hd) e
    exact ⟨this.1, this.2.1, by have := this.2.2; simp at this; show st.length ≤ 12000; omega⟩
end Y
namespace Y
set_option hygiene false
open PySem PySem.Spec L2 SX
local macro_rules | `(tactic| walk_at "y") => `(tactic| dsimp only [tGet2, ex0, exB, endB, envOf, Env.set, Env.put, Env.stSet, Env.push, tFldY, sFldY, tMtE, tMethY, tMakeY, callF, tPub, pub, M.ob?, Ob.vw, Ob.toM, sSetE, tMaxD, gIntS, sRaise, sTry, sTryAs, endN, tXfY, tSm, gFind, gJoin, gStr, gStarts, List.zip_cons_cons, List.zip_nil_left, List.reverse_cons, List.reverse_nil, TF.calm, gx0, putFD, tCallV, tCallL, capt, gLtD, gSum, gMax, gSorted2, sNil, sBk, sCt, sDrop, sIf, asg, sAsg, sRet, sRetN, tIm, tNm, tBin, w2, vw, Sl.m?, tTst, tTru, M.tru, tAndQ, tOrQ, tNotQ, tAndX, tOrX, tNotX, tIfX, lNil, lCons, tOn, fInD, fIxD, tGet1, vwD, getOr, M.isD, sPar2, tLc2X, compL2, tChn, tFrz, froz, tTp, tLs, tCl, vws, tMt, Sl.m!, Sl.up, M.res, gLen, gInt, gAdd, gSub, gMul, gMulS, gDiv, gMod, gPow, gII, gI0, gEqs, gEqs2, gIx, gPop, gApp, gRev, gExt, gTuple, gList, gDict, gIs, gIsi, gAll, gIns, gSorted, gSl, M.lq?, M.lst?, M.sq?, M.dat?, M.isNon, gLt, gLe, gGt, gGe, sFor, iSeq, srcOf, iEnm, enmOf, iRg1, iRg2, bnd, setAll, backS, Sl.isP, tSlc, pNo, pSo, sSetI, hasM, setM, tDspK, tDspT, pairG, D.key?, D.keys?, D.tkey?, putAll, tNewK, tNewT, tNeg, sUnp, tCall, argMs, argM, argS, slots, putB, stepB, putS_lo_ls_ls, putS_lo_ls_dk, putS_lo_ls_dt, putS_lo_ls_no, putS_pa_ls_ls, putS_pa_ls_dk, putS_pa_ls_dt, putS_pa_ls_no, putS_lo_rd_ls, putS_lo_rd_dk, putS_lo_rd_dt, putS_lo_rd_no, putS_pa_rd_ls, putS_pa_rd_dk, putS_pa_rd_dt, putS_pa_rd_no, putS_lo_dk_ls, putS_lo_dk_dk, putS_lo_dk_dt, putS_lo_dk_no, putS_pa_dk_ls, putS_pa_dk_dk, putS_pa_dk_dt, putS_pa_dk_no, putS_lo_dt_ls, putS_lo_dt_dk, putS_lo_dt_dt, putS_lo_dt_no, putS_pa_dt_ls, putS_pa_dt_dk, putS_pa_dt_dt, putS_pa_dt_no, putS_lo_im, putS_lo_sq, putS_pa_im, putS_pa_sq, M.own, M.fit, fins, Sl.fin, envOf, tLcX, compL, wipeE, restE, keepS, qYes, kD, dGet, List.getElem?_cons_zero, List.getElem?_cons_succ, List.getElem?_nil, List.set_cons_zero, List.set_cons_succ, List.map_cons, List.map_nil, List.take_succ_cons, List.take_zero, List.length_cons, List.length_nil, List.head?_cons, List.tail_cons, Option.join_some, List.cons_append, List.nil_append, List.replicate])
local macro_rules | `(tactic| walk_at "n") => `(tactic| ((try dsimp only); refine seq_step fun R hR => ?_; walk_at "y"))
local macro_rules | `(tactic| walk_at "i") => `(tactic| simp only [Bool.false_xor, Bool.true_xor, Bool.not_true, Bool.not_false, Bool.false_eq_true, reduceIte, isiT, M.ty, String.reduceBEq, Bool.or_false, Bool.false_or, Bool.and_false, Bool.and_true, Bool.true_and, Bool.false_and, Bool.or_true, List.mem_cons, true_or, or_true, true_and, and_true, String.reduceEq, decide_true, decide_false])
local macro_rules | `(tactic| walk_at "s") => `(tactic| (subst hR; walk_at "n"))
local macro_rules | `(tactic| walk_at "z") => `(tactic| (simp only [List.map_cons, List.map_nil, atI_c0, atI_c1, atI_c2, atI_c3, atI_c4, atI_c5]; (try walk_at "y")))
local macro_rules | `(tactic| walk_at "e") => `(tactic| repeat (first | rw [if_pos (by decide +kernel)] | rw [if_neg (by decide +kernel)]))
theorem joinS (ps : List Tx) : Txt.join (S []) (ps.map S) = S ps.flatten := by
  rw [join_S]
  congr 1
  induction ps with
  | nil => rfl
  | cons a r ih =>
    cases r with
    | nil => simp [TL.joinL]
    | cons b r => rw [TL.joinL, ih]; simp
theorem lens_S (ps : List Tx) : ((ps.map S).map (·.length)).sum = ps.flatten.length := by
  induction ps with
  | nil => rfl
  | cons a r ih => simp only [List.map_cons, List.sum_cons, List.flatten_cons, List.length_append, S_len]; simp only [List.map_map] at ih ⊢; omega
theorem uni_flat {ps : List Tx} (h : ∀ p ∈ ps, Uni p) : Uni ps.flatten := fun c hc => by
  obtain ⟨p, hp, hc⟩ := List.mem_flatten.mp hc
  exact h p hp c hc
theorem flat_le {b : Nat} : ∀ {ps : List Tx}, (∀ p ∈ ps, p.length ≤ b) → ps.flatten.length ≤ ps.length * b
  | [], _ => by simp
  | p :: ps, h => by
    have h1 := h p List.mem_cons_self
    have := flat_le (ps := ps) fun u hu => h u (List.mem_cons_of_mem _ hu)
    rw [List.flatten_cons, List.length_append, List.length_cons, Nat.succ_mul]; omega
theorem pc_at {A : List Tx} {r : Int} (h : ∀ g ∈ A, Uni g ∧ g.length ≤ 8) (h0 : 0 ≤ r) (h1 : r < A.length) : ∃ g, Uni g ∧ g.length ≤ 8 ∧ atI (A.map fun g => D.str (S g)) r = some (.str (S g)) := by
  obtain ⟨g, hg, hg2⟩ := atI_ok (xs := A) (i := r) h0 h1
  have hm := h g (List.mem_of_getElem? hg2)
  exact ⟨g, hm.1, hm.2, by rw [atI_map, hg]; rfl⟩
theorem uni_app3 {a b : Tx} (h : Uni a) (g : Uni b) : Uni (a ++ b) := fun c hc => (List.mem_append.mp hc).elim (h c) (g c)
end Y
namespace Y
set_option hygiene false
open PySem PySem.Spec L2 SX
local macro_rules | `(tactic| walk_at "y") => `(tactic| dsimp only [tGet2, ex0, exB, endB, envOf, Env.set, Env.put, Env.stSet, Env.push, tFldY, sFldY, tMtE, tMethY, tMakeY, callF, tPub, pub, M.ob?, Ob.vw, Ob.toM, sSetE, tMaxD, gIntS, sRaise, sTry, sTryAs, endN, tXfY, tSm, gFind, gJoin, gStr, gStarts, List.zip_cons_cons, List.zip_nil_left, List.reverse_cons, List.reverse_nil, TF.calm, gx0, putFD, tCallV, tCallL, capt, gLtD, gSum, gMax, gSorted2, sNil, sBk, sCt, sDrop, sIf, asg, sAsg, sRet, sRetN, tIm, tNm, tBin, w2, vw, Sl.m?, tTst, tTru, M.tru, tAndQ, tOrQ, tNotQ, tAndX, tOrX, tNotX, tIfX, lNil, lCons, tOn, fInD, fIxD, tGet1, vwD, getOr, M.isD, sPar2, tLc2X, compL2, tChn, tFrz, froz, tTp, tLs, tCl, vws, tMt, Sl.m!, Sl.up, M.res, gLen, gInt, gAdd, gSub, gMul, gMulS, gDiv, gMod, gPow, gII, gI0, gEqs, gEqs2, gIx, gPop, gApp, gRev, gExt, gTuple, gList, gDict, gIs, gIsi, gAll, gIns, gSorted, gSl, M.lq?, M.lst?, M.sq?, M.dat?, M.isNon, gLt, gLe, gGt, gGe, sFor, iSeq, srcOf, iEnm, enmOf, iRg1, iRg2, bnd, setAll, backS, Sl.isP, tSlc, pNo, pSo, sSetI, hasM, setM, tDspK, tDspT, pairG, D.key?, D.keys?, D.tkey?, putAll, tNewK, tNewT, tNeg, sUnp, tCall, argMs, argM, argS, slots, putB, stepB, putS_lo_ls_ls, putS_lo_ls_dk, putS_lo_ls_dt, putS_lo_ls_no, putS_pa_ls_ls, putS_pa_ls_dk, putS_pa_ls_dt, putS_pa_ls_no, putS_lo_rd_ls, putS_lo_rd_dk, putS_lo_rd_dt, putS_lo_rd_no, putS_pa_rd_ls, putS_pa_rd_dk, putS_pa_rd_dt, putS_pa_rd_no, putS_lo_dk_ls, putS_lo_dk_dk, putS_lo_dk_dt, putS_lo_dk_no, putS_pa_dk_ls, putS_pa_dk_dk, putS_pa_dk_dt, putS_pa_dk_no, putS_lo_dt_ls, putS_lo_dt_dk, putS_lo_dt_dt, putS_lo_dt_no, putS_pa_dt_ls, putS_pa_dt_dk, putS_pa_dt_dt, putS_pa_dt_no, putS_lo_im, putS_lo_sq, putS_pa_im, putS_pa_sq, M.own, M.fit, fins, Sl.fin, envOf, tLcX, compL, wipeE, restE, keepS, qYes, kD, dGet, List.getElem?_cons_zero, List.getElem?_cons_succ, List.getElem?_nil, List.set_cons_zero, List.set_cons_succ, List.map_cons, List.map_nil, List.take_succ_cons, List.take_zero, List.length_cons, List.length_nil, List.head?_cons, List.tail_cons, Option.join_some, List.cons_append, List.nil_append, List.replicate])
local macro_rules | `(tactic| walk_at "n") => `(tactic| ((try dsimp only); refine seq_step fun R hR => ?_; walk_at "y"))
local macro_rules | `(tactic| walk_at "i") => `(tactic| simp only [Bool.false_xor, Bool.true_xor, Bool.not_true, Bool.not_false, Bool.false_eq_true, reduceIte, isiT, M.ty, String.reduceBEq, Bool.or_false, Bool.false_or, Bool.and_false, Bool.and_true, Bool.true_and, Bool.false_and, Bool.or_true, List.mem_cons, true_or, or_true, true_and, and_true, String.reduceEq, decide_true, decide_false])
local macro_rules | `(tactic| walk_at "s") => `(tactic| (subst hR; walk_at "n"))
local macro_rules | `(tactic| walk_at "z") => `(tactic| (simp only [List.map_cons, List.map_nil, atI_c0, atI_c1, atI_c2, atI_c3, atI_c4, atI_c5]; (try walk_at "y")))
local macro_rules | `(tactic| walk_at "e") => `(tactic| repeat (first | rw [if_pos (by decide +kernel)] | rw [if_neg (by decide +kernel)]))
def pda : List Tx := [[40], [40], [39], [35, 39], [40, 97, 32], [40, 40, 41, 32]]
theorem lit_pda : ([D.str "(", D.str "(", D.str "'", D.str "#'", D.str "(a ", D.str "(() "] : List D) = pda.map fun g => .str (S g) := by
  simp only [pda, List.map_cons, List.map_nil]
  rw [show ("(" : Str) = S [40] by decide +kernel, show ("'" : Str) = S [39] by decide +kernel, show ("#'" : Str) = S [35, 39] by decide +kernel, show ("(a " : Str) = S [40, 97, 32] by decide +kernel, show ("(() " : Str) = S [40, 40, 41, 32] by decide +kernel]
theorem uni_pda : ∀ g ∈ pda, Uni g ∧ g.length ≤ 8 := by unfold Uni; decide +kernel
def pdb : List Tx := [[32], [], []]
theorem lit_pdb : ([D.str " ", D.str "", D.str ""] : List D) = pdb.map fun g => .str (S g) := by
  simp only [pdb, List.map_cons, List.map_nil]
  rw [show (" " : Str) = S [32] by decide +kernel, show ("" : Str) = S [] by decide +kernel]
theorem uni_pdb : ∀ g ∈ pdb, Uni g ∧ g.length ≤ 8 := by unfold Uni; decide +kernel
def pdc : List Tx := [[40, 41], [120], [39, 120], [], [40, 120, 41], [55]]
theorem lit_pdc : ([D.str "()", D.str "x", D.str "'x", D.str "", D.str "(x)", D.str "7"] : List D) = pdc.map fun g => .str (S g) := by
  simp only [pdc, List.map_cons, List.map_nil]
  rw [show ("()" : Str) = S [40, 41] by decide +kernel, show ("x" : Str) = S [120] by decide +kernel, show ("'x" : Str) = S [39, 120] by decide +kernel, show ("" : Str) = S [] by decide +kernel, show ("(x)" : Str) = S [40, 120, 41] by decide +kernel, show ("7" : Str) = S [55] by decide +kernel]
theorem uni_pdc : ∀ g ∈ pdc, Uni g ∧ g.length ≤ 8 := by unfold Uni; decide +kernel
def pla : List Tx := [[40, 102, 32, 39, 120, 41, 32], [59, 32], [34, 97], [41], [81, 32], [40], []]
theorem lit_pla : ([D.str "(f 'x) ", D.str "; ", D.str "\"a", D.str ")", D.str "Q ", D.str "(", D.str ""] : List D) = pla.map fun g => .str (S g) := by
  simp only [pla, List.map_cons, List.map_nil]
  rw [show ("(f 'x) " : Str) = S [40, 102, 32, 39, 120, 41, 32] by decide +kernel, show ("; " : Str) = S [59, 32] by decide +kernel, show ("\"a" : Str) = S [34, 97] by decide +kernel, show (")" : Str) = S [41] by decide +kernel, show ("Q " : Str) = S [81, 32] by decide +kernel, show ("(" : Str) = S [40] by decide +kernel, show ("" : Str) = S [] by decide +kernel]
theorem uni_pla : ∀ g ∈ pla, Uni g ∧ g.length ≤ 8 := by unfold Uni; decide +kernel
def plb : List Tx := [[32], [97, 32], [10], [40, 41], [97, 98, 59, 10]]
theorem lit_plb : ([D.str " ", D.str "a ", D.str "\n", D.str "()", D.str "ab;\n"] : List D) = plb.map fun g => .str (S g) := by
  simp only [plb, List.map_cons, List.map_nil]
  rw [show (" " : Str) = S [32] by decide +kernel, show ("a " : Str) = S [97, 32] by decide +kernel, show ("\n" : Str) = S [10] by decide +kernel, show ("()" : Str) = S [40, 41] by decide +kernel, show ("ab;\n" : Str) = S [97, 98, 59, 10] by decide +kernel]
theorem uni_plb : ∀ g ∈ plb, Uni g ∧ g.length ≤ 8 := by unfold Uni; decide +kernel
def pwa : List Tx := [[], [45]]
theorem lit_pwa : ([D.str "", D.str "-"] : List D) = pwa.map fun g => .str (S g) := by
  simp only [pwa, List.map_cons, List.map_nil]
  rw [show ("" : Str) = S [] by decide +kernel, show ("-" : Str) = S [45] by decide +kernel]
theorem uni_pwa : ∀ g ∈ pwa, Uni g ∧ g.length ≤ 8 := by unfold Uni; decide +kernel
def pwb : List Tx := [[97, 98], [45, 97], [33, 63], [97, 57]]
theorem lit_pwb : ([D.str "ab", D.str "-a", D.str "!?", D.str "a9"] : List D) = pwb.map fun g => .str (S g) := by
  simp only [pwb, List.map_cons, List.map_nil]
  rw [show ("ab" : Str) = S [97, 98] by decide +kernel, show ("-a" : Str) = S [45, 97] by decide +kernel, show ("!?" : Str) = S [33, 63] by decide +kernel, show ("a9" : Str) = S [97, 57] by decide +kernel]
theorem uni_pwb : ∀ g ∈ pwb, Uni g ∧ g.length ≤ 8 := by unfold Uni; decide +kernel
def pwc : List Tx := [[], [40, 97, 32], [39], [120, 10]]
theorem lit_pwc : ([D.str "", D.str "(a ", D.str "'", D.str "x\n"] : List D) = pwc.map fun g => .str (S g) := by
  simp only [pwc, List.map_cons, List.map_nil]
  rw [show ("" : Str) = S [] by decide +kernel, show ("(a " : Str) = S [40, 97, 32] by decide +kernel, show ("'" : Str) = S [39] by decide +kernel, show ("x\n" : Str) = S [120, 10] by decide +kernel]
theorem uni_pwc : ∀ g ∈ pwc, Uni g ∧ g.length ≤ 8 := by unfold Uni; decide +kernel
def pwd : List Tx := [[32, 41], [], [10, 81], [32, 121]]
theorem lit_pwd : ([D.str " )", D.str "", D.str "\nQ", D.str " y"] : List D) = pwd.map fun g => .str (S g) := by
  simp only [pwd, List.map_cons, List.map_nil]
  rw [show (" )" : Str) = S [32, 41] by decide +kernel, show ("" : Str) = S [] by decide +kernel, show ("\nQ" : Str) = S [10, 81] by decide +kernel, show (" y" : Str) = S [32, 121] by decide +kernel]
theorem uni_pwd : ∀ g ∈ pwd, Uni g ∧ g.length ≤ 8 := by unfold Uni; decide +kernel
end Y
namespace Y
set_option hygiene false
open PySem PySem.Spec L2 SX
local macro_rules | `(tactic| walk_at "y") => `(tactic| dsimp only [tGet2, ex0, exB, endB, envOf, Env.set, Env.put, Env.stSet, Env.push, tFldY, sFldY, tMtE, tMethY, tMakeY, callF, tPub, pub, M.ob?, Ob.vw, Ob.toM, sSetE, tMaxD, gIntS, sRaise, sTry, sTryAs, endN, tXfY, tSm, gFind, gJoin, gStr, gStarts, List.zip_cons_cons, List.zip_nil_left, List.reverse_cons, List.reverse_nil, TF.calm, gx0, putFD, tCallV, tCallL, capt, gLtD, gSum, gMax, gSorted2, sNil, sBk, sCt, sDrop, sIf, asg, sAsg, sRet, sRetN, tIm, tNm, tBin, w2, vw, Sl.m?, tTst, tTru, M.tru, tAndQ, tOrQ, tNotQ, tAndX, tOrX, tNotX, tIfX, lNil, lCons, tOn, fInD, fIxD, tGet1, vwD, getOr, M.isD, sPar2, tLc2X, compL2, tChn, tFrz, froz, tTp, tLs, tCl, vws, tMt, Sl.m!, Sl.up, M.res, gLen, gInt, gAdd, gSub, gMul, gMulS, gDiv, gMod, gPow, gII, gI0, gEqs, gEqs2, gIx, gPop, gApp, gRev, gExt, gTuple, gList, gDict, gIs, gIsi, gAll, gIns, gSorted, gSl, M.lq?, M.lst?, M.sq?, M.dat?, M.isNon, gLt, gLe, gGt, gGe, sFor, iSeq, srcOf, iEnm, enmOf, iRg1, iRg2, bnd, setAll, backS, Sl.isP, tSlc, pNo, pSo, sSetI, hasM, setM, tDspK, tDspT, pairG, D.key?, D.keys?, D.tkey?, putAll, tNewK, tNewT, tNeg, sUnp, tCall, argMs, argM, argS, slots, putB, stepB, putS_lo_ls_ls, putS_lo_ls_dk, putS_lo_ls_dt, putS_lo_ls_no, putS_pa_ls_ls, putS_pa_ls_dk, putS_pa_ls_dt, putS_pa_ls_no, putS_lo_rd_ls, putS_lo_rd_dk, putS_lo_rd_dt, putS_lo_rd_no, putS_pa_rd_ls, putS_pa_rd_dk, putS_pa_rd_dt, putS_pa_rd_no, putS_lo_dk_ls, putS_lo_dk_dk, putS_lo_dk_dt, putS_lo_dk_no, putS_pa_dk_ls, putS_pa_dk_dk, putS_pa_dk_dt, putS_pa_dk_no, putS_lo_dt_ls, putS_lo_dt_dk, putS_lo_dt_dt, putS_lo_dt_no, putS_pa_dt_ls, putS_pa_dt_dk, putS_pa_dt_dt, putS_pa_dt_no, putS_lo_im, putS_lo_sq, putS_pa_im, putS_pa_sq, M.own, M.fit, fins, Sl.fin, envOf, tLcX, compL, wipeE, restE, keepS, qYes, kD, dGet, List.getElem?_cons_zero, List.getElem?_cons_succ, List.getElem?_nil, List.set_cons_zero, List.set_cons_succ, List.map_cons, List.map_nil, List.take_succ_cons, List.take_zero, List.length_cons, List.length_nil, List.head?_cons, List.tail_cons, Option.join_some, List.cons_append, List.nil_append, List.replicate])
local macro_rules | `(tactic| walk_at "n") => `(tactic| ((try dsimp only); refine seq_step fun R hR => ?_; walk_at "y"))
local macro_rules | `(tactic| walk_at "i") => `(tactic| simp only [Bool.false_xor, Bool.true_xor, Bool.not_true, Bool.not_false, Bool.false_eq_true, reduceIte, isiT, M.ty, String.reduceBEq, Bool.or_false, Bool.false_or, Bool.and_false, Bool.and_true, Bool.true_and, Bool.false_and, Bool.or_true, List.mem_cons, true_or, or_true, true_and, and_true, String.reduceEq, decide_true, decide_false])
local macro_rules | `(tactic| walk_at "s") => `(tactic| (subst hR; walk_at "n"))
local macro_rules | `(tactic| walk_at "z") => `(tactic| (simp only [List.map_cons, List.map_nil, atI_c0, atI_c1, atI_c2, atI_c3, atI_c4, atI_c5]; (try walk_at "y")))
local macro_rules | `(tactic| walk_at "e") => `(tactic| repeat (first | rw [if_pos (by decide +kernel)] | rw [if_neg (by decide +kernel)]))
def F_deep : TF := fun ms W G Gx => ∃ ds : List Int, ms = [.ls (ds.map D.int)] ∧ DrawsOk ds ∧
  ∀ (t : Tx) (ds' : List Int), Uni t → t.length ≤ 30000 → DrawsOk ds' → G (.im (.str (S t))) [some (.ls (ds'.map D.int))] W
theorem ne_pda : ∀ g ∈ pda, g ≠ [] := by decide +kernel
theorem uni1 {c : Nat} (h : c < 1114112) : Uni [c] := fun x hx => by rw [List.mem_singleton.mp hx]; exact h
theorem uni0 : Uni [] := fun x hx => by cases hx
theorem deep_loop {W : Sto} {PP : EndP} {many : Int} : ∀ (n : Nat) (lo : Int) (ds : List Int) (u c : Tx) (s4 s5 : Sl), Uni u → Uni c → u.length + 16 * n ≤ 2000 → c.length + n ≤ 1000 → DrawsOk ds →
    (∀ (u' c' : Tx) (ds' : List Int) (s4 s5 : Sl), Uni u' → Uni c' → u'.length ≤ u.length + 16 * n → u.length + n ≤ u'.length → c'.length ≤ c.length + n → DrawsOk ds' → PP.nx ⟨[.pa (.ls (ds'.map D.int)), .lo (.im (.int many)), .lo (.im (.str (S u'))), .lo (.im (.str (S c'))), s4, s5], W⟩) →
    loopS (.one 4) (b__law_deep_1 F_take) (fun _ => True) PP (gRng lo n) ⟨[.pa (.ls (ds.map D.int)), .lo (.im (.int many)), .lo (.im (.str (S u))), .lo (.im (.str (S c))), s4, s5], W⟩
  | 0, lo, ds, u, c, s4, s5, hu, hc, hul, hcl, hd, q => ⟨trivial, q u c ds s4 s5 hu hc (by omega) (by omega) (by omega) hd⟩
  | n + 1, lo, ds, u, c, s4, s5, hu, hc, hul, hcl, hd, q => by
    rw [gRng_succ]
    refine loop_step trivial fun L hL => ?_
    dsimp only [bnd]
    unfold b__law_deep_1
    walk_at "n"
    refine ⟨by simp [sizeLine_eq], rfl, by simp, ds, 6, by simp, by omega, hd, fun r d1 r0 r1 hd1 _ => ⟨rfl, ?_⟩⟩
    walk_at "y"
    rw [lit_pda]
    obtain ⟨g, hg, hg2⟩ := atI_ok (xs := pda) (i := r) r0 (by simp [pda]; omega)
    have hm := uni_pda g (List.mem_of_getElem? hg2)
    have hne := ne_pda g (List.mem_of_getElem? hg2)
    rw [atI_map, hg]
    obtain ⟨c0, g, rfl⟩ : ∃ c0 g0, g = c0 :: g0 := by
      cases g with
      | nil => exact absurd rfl hne
      | cons a b => exact ⟨a, b, rfl⟩
    dsimp only [Option.map]
    subst hR
    walk_at "n"
    rw [S_cat]
    have gl := hm.2
    refine ⟨by rw [S_len, S_len]; exact szLine (by omega), by simp [sizeLine_eq], rfl, by simp, d1, 3, by simp, by omega, hd1, fun r2 d2 r20 r21 hd2 _ => ⟨rfl, ?_⟩⟩
    walk_at "y"
    rw [lit_pdb]
    obtain ⟨g2, h1, h2, ge⟩ := pc_at uni_pdb r20 (by simp [pdb]; omega)
    rw [ge]
    dsimp only
    rw [S_cat]
    refine ⟨by rw [S_len, S_len, List.length_append]; exact szLine (by omega), ?_⟩
    subst hR
    walk_at "y"
    rw [S_at]
    rw [atI_c0]
    dsimp only
    rw [show ({ cps := #[c0] } : Str) = S [c0] from rfl]
    refine ⟨by rw [S_len]; exact szLine (by omega), ?_⟩
    have fin : ∀ cl : Tx, Uni cl → cl.length ≤ 1 → (S cl).length + (S c).length ≤ sizeLine ∧ L ⟨[.pa (.ls (d2.map D.int)), .lo (.im (.int many)), .lo (.im (.str (S (u ++ c0 :: g ++ g2)))), .lo (.im (.str (S cl ++ S c))), .lo (.im (.int lo)), .lo (.im (.str (S (c0 :: g))))], W⟩ := fun cl h3 h4 => by
      refine ⟨by rw [S_len, S_len]; exact szLine (by omega), ?_⟩
      rw [hL, S_cat]
      refine deep_loop n (lo + 1) d2 _ _ _ _ (uni_app3 (uni_app3 hu hm.1) h1) (uni_app3 h3 hc) (by simp only [List.length_append]; omega) (by simp only [List.length_append]; omega) hd2 fun u' c' ds' s4 s5 e1 e2 e3 e6 e4 e5 => q u' c' ds' s4 s5 e1 e2 (by simp only [List.length_append] at e3; omega) (by simp only [List.length_append, List.length_cons] at e6; omega) (by simp only [List.length_append] at e4; omega) e5
    have l0 : (Str.ofString "" : Str) = S [] := rfl
    split
    · have := fin [41] (uni1 (by decide)) (by simp)
      exact this
    · have := fin [] uni0 (by simp)
      exact this
theorem body_deep : Body F_deep 6 1 fun _ => t__law_deep F_take := by
  rintro ms W G Gx hl ⟨ds, rfl, hd, q⟩
  show t__law_deep _ _ ⟨[Sl.pa (.ls (ds.map D.int)), .no, .no, .no, .no, .no], W⟩
  unfold t__law_deep
  walk_at "n"
  refine ⟨rfl, by simp, ds, 5, rfl, by omega, hd, fun r d1 r0 r1 hd1 _ => ⟨rfl, ?_⟩⟩
  walk_at "y"
  subst hR
  walk_at "n"
  subst hR
  walk_at "n"
  subst hR
  refine seq_step fun R hR => ?_
  walk_at "y"
  refine ⟨by omega, by omega, ?_⟩
  obtain ⟨n, hn⟩ : ∃ n : Nat, 58 + r = n := ⟨(58 + r).toNat, by omega⟩
  rw [hn, Int.toNat_natCast]
  refine deep_loop n 0 d1 [] [] _ _ uni0 uni0 (by simp; omega) (by simp; omega) hd1 fun u c d2 s4 s5 hu hc ul ul2 cl hd2 => ?_
  show R _
  subst hR
  walk_at "n"
  refine ⟨by simp [sizeLine_eq], rfl, by simp, d2, 6, by simp, by omega, hd2, fun r2 d3 r20 r21 hd3 _ => ⟨rfl, ?_⟩⟩
  walk_at "y"
  rw [lit_pdc]
  obtain ⟨g, h1, h2, ge⟩ := pc_at uni_pdc r20 (by simp [pdc]; omega)
  rw [ge]
  dsimp only
  rw [S_cat, S_cat]
  simp only [S_len, List.length_nil] at ul ul2 cl ⊢
  refine ⟨szLine (by omega), szLine (by rw [List.length_append]; omega), ?_⟩
  subst hR
  walk_at "y"
  refine ⟨?_, by simp [sizeLine_eq], rfl, by simp, d3, 5, by simp, by omega, hd3, fun r4 d4 r40 r41 hd4 _ => ⟨rfl, ?_⟩⟩
  · rw [S_len, List.length_append, List.length_append]; exact szLine (by omega)
  walk_at "y"
  obtain ⟨k, hk, hk2⟩ := atI_ok (xs := [(0 : Int), 0, 0, 1, 2]) (i := r4) r40 (by simp; omega)
  have km : 0 ≤ k ∧ k ≤ 2 := (by decide : ∀ k ∈ [(0 : Int), 0, 0, 1, 2], 0 ≤ k ∧ k ≤ 2) k (List.mem_of_getElem? hk2)
  rw [show ([D.int 0, D.int 0, D.int 0, D.int 1, D.int 2] : List D) = [(0 : Int), 0, 0, 1, 2].map D.int from rfl, atI_map, hk]
  dsimp only [Option.map]
  have tl : (S (u ++ g ++ c)).length = u.length + g.length + c.length := by rw [S_len, List.length_append, List.length_append]
  refine ⟨szLine (by omega), ?_⟩
  rw [slice_to (by omega)]
  exact q _ d4 ((uni_app3 (uni_app3 hu h1) hc).take _) (by rw [List.length_take, List.length_append, List.length_append]; omega) hd4
def F_long : TF := fun ms W G Gx => ∃ ds : List Int, ms = [.ls (ds.map D.int)] ∧ DrawsOk ds ∧
  ∀ (t : Tx) (ds' : List Int), Uni t → t.length ≤ 30000 → DrawsOk ds' → G (.im (.str (S t))) [some (.ls (ds'.map D.int))] W
theorem uni_rep {t : Tx} (h : Uni t) (n : Int) : Uni (repL t n) := fun c hc => by
  unfold repL at hc
  obtain ⟨p, hp, hc⟩ := List.mem_flatten.mp hc
  rw [(List.mem_replicate.mp hp).2] at hc
  exact h c hc
theorem body_long : Body F_long 4 1 fun _ => t__law_long F_take := by
  rintro ms W G Gx hl ⟨ds, rfl, hd, q⟩
  show t__law_long _ _ ⟨[Sl.pa (.ls (ds.map D.int)), .no, .no, .no], W⟩
  unfold t__law_long
  walk_at "n"
  refine ⟨rfl, by simp, ds, 6, rfl, by omega, hd, fun r d1 r0 r1 hd1 _ => ⟨rfl, ?_⟩⟩
  walk_at "y"
  subst hR
  walk_at "n"
  refine ⟨by simp [sizeLine_eq], rfl, by simp, d1, 7, by simp, by omega, hd1, fun r2 d2 r20 r21 hd2 _ => ⟨rfl, ?_⟩⟩
  walk_at "y"
  rw [lit_pla]
  obtain ⟨g, h1, h2, ge⟩ := pc_at uni_pla r20 (by simp [pla]; omega)
  rw [ge]
  dsimp only
  subst hR
  walk_at "n"
  refine ⟨by simp [sizeLine_eq], rfl, by simp, d2, 5, by simp, by omega, hd2, fun r3 d3 r30 r31 hd3 _ => ⟨rfl, ?_⟩⟩
  walk_at "y"
  rw [lit_plb]
  obtain ⟨g2, h3, h4, ge2⟩ := pc_at uni_plb r30 (by simp [plb]; omega)
  rw [ge2]
  dsimp only
  subst hR
  walk_at "y"
  rw [mul_S, S_cat]
  have z : ∀ n : Nat, n ≤ 300000 → n ≤ sizeLine := fun n h => szLine (by omega)
  have e1 : (repL g2 6003).length = g2.length * 6003 := repL_len _ _
  simp only [S_len]
  refine ⟨z _ (by simp; omega), by omega, by omega, z _ (by omega), z _ (by rw [List.length_append]; omega), ?_⟩
  rw [slice_to (by omega)]
  exact q _ d3 ((uni_app3 h1 (uni_rep h3 _)).take _) (by rw [List.length_take]; omega) hd3
def sg9 : Tx := [49, 50, 51, 52, 53, 54, 55, 56, 57]
theorem lit_9 : Str.ofString "123456789" = S sg9 := by decide +kernel
def sg10 : Tx := [48, 49, 50, 51, 52, 53, 54, 55, 56, 57]
theorem lit_10 : Str.ofString "0123456789" = S sg10 := by decide +kernel
def F_worded : TF := fun ms W G Gx => ∃ ds : List Int, ms = [.ls (ds.map D.int)] ∧ DrawsOk ds ∧
  ∀ (t : Tx) (ds' : List Int), Uni t → t.length ≤ 30000 → DrawsOk ds' → G (.im (.str (S t))) [some (.ls (ds'.map D.int))] W
theorem body_worded : Body F_worded 4 1 fun _ => t__law_worded F_take := by
  rintro ms W G Gx hl ⟨ds, rfl, hd, q⟩
  show t__law_worded _ _ ⟨[Sl.pa (.ls (ds.map D.int)), .no, .no, .no], W⟩
  unfold t__law_worded
  have z : ∀ n : Nat, n ≤ 300000 → n ≤ sizeLine := fun n h => szLine (by omega)
  have ly : (Str.ofString "y" : Str) = S [121] := by decide +kernel
  have lz : (Str.ofString "z" : Str) = S [122] := by decide +kernel
  have lq : (Str.ofString "\"" : Str) = S [34] := by decide +kernel
  walk_at "n"
  refine ⟨rfl, by simp, ds, 3, rfl, by omega, hd, fun r d1 r0 r1 hd1 _ => ⟨rfl, ?_⟩⟩
  walk_at "y"
  subst hR
  walk_at "n"
  refine ⟨rfl, by simp, d1, 4, rfl, by omega, hd1, fun s d2 s0 s1 hd2 _ => ⟨rfl, ?_⟩⟩
  walk_at "y"
  subst hR
  walk_at "n"
  rw [ly, lq, mul_S, S_cat, S_cat]
  have e1 : (repL [121] (99 + s)).length = 1 * (99 + s).toNat := repL_len _ _
  simp only [S_len]
  refine ⟨z _ (by simp; omega), by omega, by omega, z _ (by simp; omega), z _ (by simp; omega), ?_⟩
  subst hR
  refine seq_step fun R hR => ?_
  have last : ∀ (t : Tx) (ds : List Int), Uni t → t.length ≤ 1000 → DrawsOk ds → R ⟨[.pa (.ls (ds.map D.int)), .lo (.im (.int r)), .lo (.im (.int s)), .lo (.im (.str (S t)))], W⟩ := fun t ds hu ht hd => by
    subst hR
    refine seq_step fun R hR => ?_
    have fin : ∀ (t : Tx) (ds : List Int), Uni t → t.length ≤ 1000 → DrawsOk ds → R ⟨[.pa (.ls (ds.map D.int)), .lo (.im (.int r)), .lo (.im (.int s)), .lo (.im (.str (S t)))], W⟩ := fun t ds hu ht hd => by
      subst hR
      walk_at "y"
      refine ⟨by simp [sizeLine_eq], rfl, by simp, ds, 4, by simp, by omega, hd, fun r4 d4 r40 r41 hd4 _ => ⟨rfl, ?_⟩⟩
      walk_at "y"
      rw [lit_pwc]
      obtain ⟨g, h1, h2, ge⟩ := pc_at uni_pwc r40 (by simp [pwc]; omega)
      rw [ge]
      dsimp only
      rw [S_cat]
      refine ⟨by rw [S_len, S_len]; exact z _ (by omega), by simp [sizeLine_eq], rfl, by simp, d4, 4, by simp, by omega, hd4, fun r5 d5 r50 r51 hd5 _ => ⟨rfl, ?_⟩⟩
      walk_at "y"
      rw [lit_pwd]
      obtain ⟨g2, h3, h4, ge2⟩ := pc_at uni_pwd r50 (by simp [pwd]; omega)
      rw [ge2]
      dsimp only
      rw [S_cat]
      refine ⟨by rw [S_len, S_len, List.length_append]; exact z _ (by omega), ?_⟩
      exact q _ d5 (uni_app3 (uni_app3 h1 hu) h3) (by simp only [List.length_append]; omega) hd5
    walk_at "y"
    rw [Bool.false_xor]
    split
    · refine ⟨by simp [sizeLine_eq], rfl, by simp, ds, 4, by simp, by omega, hd, fun r4 d4 r40 r41 hd4 _ => ⟨rfl, ?_⟩⟩
      walk_at "y"
      rw [lit_pwb]
      obtain ⟨g, h1, h2, ge⟩ := pc_at uni_pwb r40 (by simp [pwb]; omega)
      rw [ge]
      dsimp only
      rw [lz, mul_S, S_cat]
      have e1 : (repL [122] (17 + s)).length = 1 * (17 + s).toNat := repL_len _ _
      simp only [S_len]
      refine ⟨z _ (by simp; omega), by omega, by omega, z _ (by omega), ?_⟩
      exact fin _ d4 (uni_app3 h1 (uni_rep (uni1 (by decide)) _)) (by rw [List.length_append]; omega) hd4
    · exact fin t ds hu ht hd
  walk_at "y"
  rw [Bool.false_xor]
  by_cases c1 : r = 1
  · rw [if_pos (by simp [c1])]
    refine ⟨by simp [sizeLine_eq], rfl, by simp, d2, 2, by simp, by omega, hd2, fun r4 d4 r40 r41 hd4 _ => ⟨rfl, ?_⟩⟩
    walk_at "y"
    rw [lit_pwa]
    obtain ⟨g, h1, h2, ge⟩ := pc_at uni_pwa r40 (by simp [pwa]; omega)
    rw [ge]
    dsimp only
    refine ⟨rfl, by simp, d4, 9, by simp, by omega, hd4, fun r5 d5 r50 r51 hd5 _ => ⟨rfl, ?_⟩⟩
    walk_at "y"
    rw [lit_9, S_at]
    obtain ⟨c, hc, hc2⟩ := atI_ok (xs := sg9) (i := r5) r50 (by simp [sg9]; omega)
    have cu : Uni [c] := uni1 ((by decide : ∀ c ∈ sg9, c < 1114112) c (List.mem_of_getElem? hc2))
    rw [hc]
    dsimp only
    rw [show ({ cps := #[c] } : Str) = S [c] from rfl, S_cat]
    refine ⟨by simp [S_len, sg9, sizeLine_eq], z _ (by simp only [S_len, List.length_singleton]; omega), ?_⟩
    refine ⟨rfl, by simp, d5, 10, by simp, by omega, hd5, fun r6 d6 r60 r61 hd6 _ => ⟨rfl, ?_⟩⟩
    walk_at "y"
    rw [lit_10, S_at]
    obtain ⟨e, he, he2⟩ := atI_ok (xs := sg10) (i := r6) r60 (by simp [sg10]; omega)
    have eu : Uni [e] := uni1 ((by decide : ∀ c ∈ sg10, c < 1114112) e (List.mem_of_getElem? he2))
    rw [he]
    dsimp only
    rw [show ({ cps := #[e] } : Str) = S [e] from rfl, mul_S, S_cat]
    have e1 : (repL [e] (28 + s)).length = 1 * (28 + s).toNat := repL_len _ _
    refine ⟨by simp [S_len, sg10, sizeLine_eq], ?_⟩
    simp only [S_len]
    refine ⟨z _ (by simp; omega), by omega, by omega, z _ (by rw [List.length_append, List.length_singleton]; omega), ?_⟩
    exact last _ d6 (uni_app3 (uni_app3 h1 cu) (uni_rep eu _)) (by rw [List.length_append, List.length_append, List.length_singleton]; omega) hd6
  · rw [if_neg (by simp [c1])]
    exact last _ d2 (uni_app3 (uni_app3 (uni1 (by decide)) (uni_rep (uni1 (by decide)) _)) (uni1 (by decide))) (by simp; omega) hd2
end Y
namespace Y
set_option hygiene false
open PySem PySem.Spec L2 SX
local macro_rules | `(tactic| walk_at "y") => `(tactic| dsimp only [tGet2, ex0, exB, endB, envOf, Env.set, Env.put, Env.stSet, Env.push, tFldY, sFldY, tMtE, tMethY, tMakeY, callF, tPub, pub, M.ob?, Ob.vw, Ob.toM, sSetE, tMaxD, gIntS, sRaise, sTry, sTryAs, endN, tXfY, tSm, gFind, gJoin, gStr, gStarts, List.zip_cons_cons, List.zip_nil_left, List.reverse_cons, List.reverse_nil, TF.calm, gx0, putFD, tCallV, tCallL, capt, gLtD, gSum, gMax, gSorted2, sNil, sBk, sCt, sDrop, sIf, asg, sAsg, sRet, sRetN, tIm, tNm, tBin, w2, vw, Sl.m?, tTst, tTru, M.tru, tAndQ, tOrQ, tNotQ, tAndX, tOrX, tNotX, tIfX, lNil, lCons, tOn, fInD, fIxD, tGet1, vwD, getOr, M.isD, sPar2, tLc2X, compL2, tChn, tFrz, froz, tTp, tLs, tCl, vws, tMt, Sl.m!, Sl.up, M.res, gLen, gInt, gAdd, gSub, gMul, gMulS, gDiv, gMod, gPow, gII, gI0, gEqs, gEqs2, gIx, gPop, gApp, gRev, gExt, gTuple, gList, gDict, gIs, gIsi, gAll, gIns, gSorted, gSl, M.lq?, M.lst?, M.sq?, M.dat?, M.isNon, gLt, gLe, gGt, gGe, sFor, iSeq, srcOf, iEnm, enmOf, iRg1, iRg2, bnd, setAll, backS, Sl.isP, tSlc, pNo, pSo, sSetI, hasM, setM, tDspK, tDspT, pairG, D.key?, D.keys?, D.tkey?, putAll, tNewK, tNewT, tNeg, sUnp, tCall, argMs, argM, argS, slots, putB, stepB, putS_lo_ls_ls, putS_lo_ls_dk, putS_lo_ls_dt, putS_lo_ls_no, putS_pa_ls_ls, putS_pa_ls_dk, putS_pa_ls_dt, putS_pa_ls_no, putS_lo_rd_ls, putS_lo_rd_dk, putS_lo_rd_dt, putS_lo_rd_no, putS_pa_rd_ls, putS_pa_rd_dk, putS_pa_rd_dt, putS_pa_rd_no, putS_lo_dk_ls, putS_lo_dk_dk, putS_lo_dk_dt, putS_lo_dk_no, putS_pa_dk_ls, putS_pa_dk_dk, putS_pa_dk_dt, putS_pa_dk_no, putS_lo_dt_ls, putS_lo_dt_dk, putS_lo_dt_dt, putS_lo_dt_no, putS_pa_dt_ls, putS_pa_dt_dk, putS_pa_dt_dt, putS_pa_dt_no, putS_lo_im, putS_lo_sq, putS_pa_im, putS_pa_sq, M.own, M.fit, fins, Sl.fin, envOf, tLcX, compL, wipeE, restE, keepS, qYes, kD, dGet, List.getElem?_cons_zero, List.getElem?_cons_succ, List.getElem?_nil, List.set_cons_zero, List.set_cons_succ, List.map_cons, List.map_nil, List.take_succ_cons, List.take_zero, List.length_cons, List.length_nil, List.head?_cons, List.tail_cons, Option.join_some, List.cons_append, List.nil_append, List.replicate])
local macro_rules | `(tactic| walk_at "n") => `(tactic| ((try dsimp only); refine seq_step fun R hR => ?_; walk_at "y"))
local macro_rules | `(tactic| walk_at "i") => `(tactic| simp only [Bool.false_xor, Bool.true_xor, Bool.not_true, Bool.not_false, Bool.false_eq_true, reduceIte, isiT, M.ty, String.reduceBEq, Bool.or_false, Bool.false_or, Bool.and_false, Bool.and_true, Bool.true_and, Bool.false_and, Bool.or_true, List.mem_cons, true_or, or_true, true_and, and_true, String.reduceEq, decide_true, decide_false])
local macro_rules | `(tactic| walk_at "s") => `(tactic| (subst hR; walk_at "n"))
local macro_rules | `(tactic| walk_at "z") => `(tactic| (simp only [List.map_cons, List.map_nil, atI_c0, atI_c1, atI_c2, atI_c3, atI_c4, atI_c5]; (try walk_at "y")))
local macro_rules | `(tactic| walk_at "e") => `(tactic| repeat (first | rw [if_pos (by decide +kernel)] | rw [if_neg (by decide +kernel)]))
def F_law : TF := fun ms W G Gx => ∃ ns : List Int, ms = [.sq (ns.map D.int)] ∧ ns.length ≤ 63 ∧ ∀ fin W, G (.im (.bl true)) fin W
theorem law_start : LawF F_law.calm := fun ns G Gx h q => ⟨ns, rfl, h, q⟩
/-- one text: what is told is what is read -/
theorem turn_ok (cR cF cE : Addr) {ex : EX} {P : EndP} {W : Sto} {u : Tx} {s0 s1 s2 s3 : Sl} (hu1 : Uni u) (hul : u.length ≤ 90000)
    (q : ∀ (W' : Sto), P.nx ⟨[s0, s1, s2, s3, .lo (.im (.str (S u)))], W'⟩) :
    sIf (tNotQ (tTru (tCall ex0 (F_s3 124) 2 (lCons (tCall ex (F_told cR cF cE) 1 (lCons (tNm 4) (lNil))) (lCons (tCall ex0 F_lread 1 (lCons (tNm 4) (lNil))) (lNil)))))) (sRet (tIm (.bl false))) (sNil) P ⟨[s0, s1, s2, s3, .lo (.im (.str (S u)))], W⟩ := by
  walk_at "y"
  refine ⟨rfl, by simp, u, rfl, by omega, hu1, fun fin2 W2 => ?_⟩
  cases e : readM u with
  | error x =>
    dsimp only
    walk_at "y"
    refine ⟨rfl, rfl, by simp, u, rfl, by omega, hu1, fun fin3 W3 => ?_⟩
    rw [e]
    intro D hD
    subst hD
    walk_at "y"
    refine ⟨rfl, rfl, by decide, [.str "bad", .int (x : Nat)], [.str "bad", .int (x : Nat)], rfl, rfl, by simp, fun i y z hy hz => .inl ?_, fun fin4 => ?_⟩
    · cases hy.symm.trans hz
      refine ⟨rfl, ?_⟩
      match i, hy with
      | 0, hy => cases hy; rfl
      | 1, hy => cases hy; rfl
      | i + 2, hy => simp at hy
    · walk_at "y"
      exact ⟨rfl, by rw [if_neg (by decide)]; exact q W3⟩
  | ok s =>
    dsimp only
    walk_at "y"
    refine ⟨rfl, rfl, by simp, u, rfl, by omega, hu1, fun fin3 W3 => ?_⟩
    rw [e]
    intro o D hW hD
    subst hD
    have sn := read_sane e
    walk_at "y"
    refine ⟨rfl, rfl, by decide, [.str "good", .tup s.forms, .lst (natsD s.starts)], [.str "good", .tup s.forms, .obj o], rfl, rfl, by simp, fun i y z hy hz => ?_, fun fin4 => ?_⟩
    · match i, hy, hz with
      | 0, hy, hz => cases hy; cases hz; exact .inl ⟨rfl, rfl⟩
      | 1, hy, hz =>
        cases hy; cases hz
        refine .inl ⟨rfl, ?_⟩
        simp only [D.sane, D.sanes_all, Bool.and_eq_true, decide_eq_true_eq, List.all_eq_true]
        exact ⟨by omega, sn.1⟩
      | 2, hy, hz => cases hy; cases hz; exact .inr ⟨s.starts, o, rfl, rfl, hW, by omega⟩
      | i + 3, hy, hz => simp at hy
    · walk_at "y"
      exact ⟨rfl, by rw [if_neg (by decide)]; exact q W3⟩
theorem law_loop (cR cF cE : Addr) {ex : EX} {P : EndP} {ns : List Int} {kd : Int} : ∀ (n : Nat) (lo : Int) (W : Sto) (ds : List Int) (s3 s4 : Sl), DrawsOk ds →
    (∀ (W' : Sto) (ds' : List Int) (s3 s4 : Sl), P.nx ⟨[.pa (.sq (ns.map D.int)), .lo (.ls (ds'.map D.int)), .lo (.im (.int kd)), s3, s4], W'⟩) →
    loopS (.one 3) (b_law_1 F_draws F_take F_worded F_deep F_long (F_told cR cF cE) F_lread (F_s3 124) ex) (fun _ => True) P (gRng lo n) ⟨[.pa (.sq (ns.map D.int)), .lo (.ls (ds.map D.int)), .lo (.im (.int kd)), s3, s4], W⟩
  | 0, lo, W, ds, s3, s4, hd, q => ⟨trivial, q _ _ _ _⟩
  | n + 1, lo, W, ds, s3, s4, hd, q => by
    rw [gRng_succ]
    refine loop_step trivial fun L hL => ?_
    dsimp only [bnd]
    unfold b_law_1
    walk_at "n"
    have nx : ∀ (t : Tx) (ds' : List Int), Uni t → t.length ≤ 30000 → DrawsOk ds' → R ⟨[.pa (.sq (ns.map D.int)), .lo (.ls (ds'.map D.int)), .lo (.im (.int kd)), .lo (.im (.int lo)), .lo (.im (.str (S t)))], W⟩ := fun t ds' hu hl hd' => by
      subst hR
      refine turn_ok cR cF cE hu (by omega) fun W' => ?_
      show L _
      rw [hL]
      exact law_loop cR cF cE n (lo + 1) W' ds' _ _ hd' q
    rw [Bool.false_xor]
    split
    · exact ⟨rfl, by simp, ds, rfl, hd, fun t ds' h1 h2 h3 => ⟨rfl, nx t ds' h1 h2 h3⟩⟩
    split
    · exact ⟨rfl, by simp, ds, rfl, hd, fun t ds' h1 h2 h3 => ⟨rfl, nx t ds' h1 h2 h3⟩⟩
    · exact ⟨rfl, by simp, ds, rfl, hd, fun t ds' h1 h2 h3 => ⟨rfl, nx t ds' h1 h2 h3⟩⟩
theorem body_law (cR cF cE : Addr) : Body F_law 5 1 fun ex => t_law F_draws F_take F_worded F_deep F_long (F_told cR cF cE) F_lread (F_s3 124) ex := by
  rintro ms W G Gx hl ⟨ns, rfl, hns, q⟩
  show t_law _ _ _ _ _ _ _ _ _ _ ⟨[Sl.pa (.sq (ns.map D.int)), .no, .no, .no, .no], W⟩
  unfold t_law
  walk_at "n"
  refine ⟨rfl, by simp, ns, 300, rfl, by omega, by omega, fun ds hds _ => ⟨rfl, ?_⟩⟩
  walk_at "y"
  subst hR
  walk_at "n"
  refine ⟨rfl, by simp, ds, 4, rfl, by omega, hds, fun kd d1 k0 k1 hd1 _ => ⟨rfl, ?_⟩⟩
  walk_at "y"
  subst hR
  refine seq_step fun R hR => ?_
  walk_at "y"
  refine ⟨by omega, by omega, ?_⟩
  refine law_loop cR cF cE 3 0 W d1 _ _ hd1 fun W' ds' s2 s3 => ?_
  show R _
  subst hR
  walk_at "y"
  exact q _ _
end Y
namespace Y
set_option hygiene false
open PySem PySem.Spec L2 SX
local macro_rules | `(tactic| walk_at "y") => `(tactic| dsimp only [tGet2, ex0, exB, endB, envOf, Env.set, Env.put, Env.stSet, Env.push, tFldY, sFldY, tMtE, tMethY, tMakeY, callF, tPub, pub, M.ob?, Ob.vw, Ob.toM, sSetE, tMaxD, gIntS, sRaise, sTry, sTryAs, endN, tXfY, tSm, gFind, gJoin, gStr, gStarts, List.zip_cons_cons, List.zip_nil_left, List.reverse_cons, List.reverse_nil, TF.calm, gx0, putFD, tCallV, tCallL, capt, gLtD, gSum, gMax, gSorted2, sNil, sBk, sCt, sDrop, sIf, asg, sAsg, sRet, sRetN, tIm, tNm, tBin, w2, vw, Sl.m?, tTst, tTru, M.tru, tAndQ, tOrQ, tNotQ, tAndX, tOrX, tNotX, tIfX, lNil, lCons, tOn, fInD, fIxD, tGet1, vwD, getOr, M.isD, sPar2, tLc2X, compL2, tChn, tFrz, froz, tTp, tLs, tCl, vws, tMt, Sl.m!, Sl.up, M.res, gLen, gInt, gAdd, gSub, gMul, gMulS, gDiv, gMod, gPow, gII, gI0, gEqs, gEqs2, gIx, gPop, gApp, gRev, gExt, gTuple, gList, gDict, gIs, gIsi, gAll, gIns, gSorted, gSl, M.lq?, M.lst?, M.sq?, M.dat?, M.isNon, gLt, gLe, gGt, gGe, sFor, iSeq, srcOf, iEnm, enmOf, iRg1, iRg2, bnd, setAll, backS, Sl.isP, tSlc, pNo, pSo, sSetI, hasM, setM, tDspK, tDspT, pairG, D.key?, D.keys?, D.tkey?, putAll, tNewK, tNewT, tNeg, sUnp, tCall, argMs, argM, argS, slots, putB, stepB, putS_lo_ls_ls, putS_lo_ls_dk, putS_lo_ls_dt, putS_lo_ls_no, putS_pa_ls_ls, putS_pa_ls_dk, putS_pa_ls_dt, putS_pa_ls_no, putS_lo_rd_ls, putS_lo_rd_dk, putS_lo_rd_dt, putS_lo_rd_no, putS_pa_rd_ls, putS_pa_rd_dk, putS_pa_rd_dt, putS_pa_rd_no, putS_lo_dk_ls, putS_lo_dk_dk, putS_lo_dk_dt, putS_lo_dk_no, putS_pa_dk_ls, putS_pa_dk_dk, putS_pa_dk_dt, putS_pa_dk_no, putS_lo_dt_ls, putS_lo_dt_dk, putS_lo_dt_dt, putS_lo_dt_no, putS_pa_dt_ls, putS_pa_dt_dk, putS_pa_dt_dt, putS_pa_dt_no, putS_lo_im, putS_lo_sq, putS_pa_im, putS_pa_sq, M.own, M.fit, fins, Sl.fin, envOf, tLcX, compL, wipeE, restE, keepS, qYes, kD, dGet, List.getElem?_cons_zero, List.getElem?_cons_succ, List.getElem?_nil, List.set_cons_zero, List.set_cons_succ, List.map_cons, List.map_nil, List.take_succ_cons, List.take_zero, List.length_cons, List.length_nil, List.head?_cons, List.tail_cons, Option.join_some, List.cons_append, List.nil_append, List.replicate])
local macro_rules | `(tactic| walk_at "n") => `(tactic| ((try dsimp only); refine seq_step fun R hR => ?_; walk_at "y"))
local macro_rules | `(tactic| walk_at "i") => `(tactic| simp only [Bool.false_xor, Bool.true_xor, Bool.not_true, Bool.not_false, Bool.false_eq_true, reduceIte, isiT, M.ty, String.reduceBEq, Bool.or_false, Bool.false_or, Bool.and_false, Bool.and_true, Bool.true_and, Bool.false_and, Bool.or_true, List.mem_cons, true_or, or_true, true_and, and_true, String.reduceEq, decide_true, decide_false])
local macro_rules | `(tactic| walk_at "s") => `(tactic| (subst hR; walk_at "n"))
local macro_rules | `(tactic| walk_at "z") => `(tactic| (simp only [List.map_cons, List.map_nil, atI_c0, atI_c1, atI_c2, atI_c3, atI_c4, atI_c5]; (try walk_at "y")))
local macro_rules | `(tactic| walk_at "e") => `(tactic| repeat (first | rw [if_pos (by decide +kernel)] | rw [if_neg (by decide +kernel)]))
/-! ### all together -/
section
variable {w : World} {K : PySem.W.Frag} {mg : Str → Option Value} {base : Heap}
theorem rd_all (T : Top w K mg) : FnDX pr w K mg base T.D_read 7 (F_read T.K_FormReader.C T.K_Frame.C T.E_ReadError.C) ∧ FnDX pr w K mg base T.D_offsets 7 (F_offs T.K_FormReader.C T.K_Frame.C T.E_ReadError.C) := by
  have a1 : FnD pr w K mg base T.D_are_figures 1 F_figs := go_are_figures T body_figs
  have a2 : FnD pr w K mg base T.D_is_number_word 2 F_num := go_is_number_word T a1 (by omega) body_num
  have a3 : FnD pr w K mg base T.D_is_name 1 F_name := go_is_name T body_name
  have a4 : FnD pr w K mg base T.D_sort_of 3 F_sort := go_sort_of T a2 (by omega) a3 (by omega) body_sort
  have a5 : FnD pr w K mg base T.D_end_of_line 1 F_eol := go_end_of_line T body_eol
  have a6 : FnD pr w K mg base T.D_string_token 2 F_stok := go_string_token T a5 (by omega) body_stok
  have a7 : FnD pr w K mg base T.D_word_token 4 F_wtok := go_word_token T a4 (by omega) body_wtok
  have a8 : FnD pr w K mg base T.D_tokens 5 F_toks := go_tokens T a5 (by omega) a6 (by omega) a7 (by omega) body_toks
  have b1 : FnM pr w K mg base T.M_Frame___init__ 1 (F_finit T.K_Frame.C) := go_Frame___init__ T (body_finit _)
  have b2 : FnM pr w K mg base T.M_FormReader___init__ 1 (F_rinit T.K_FormReader.C T.K_Frame.C) := go_FormReader___init__ T (body_rinit _ _)
  have b3 : FnM pr w K mg base T.M_FormReader_new_place 1 (F_nplace T.K_FormReader.C T.K_Frame.C) := go_FormReader_new_place T (body_nplace _ _)
  have b4 : FnMX pr w K mg base T.M_FormReader_begin 3 (F_begin T.K_FormReader.C T.K_Frame.C T.E_ReadError.C) := go_FormReader_begin T b3 (by omega) b1 (by omega) (by omega) (body_begin _ _ _)
  have b5 : FnM pr w K mg base T.M_FormReader_finish 1 (F_fin T.K_FormReader.C T.K_Frame.C) := go_FormReader_finish T (body_fin _ _)
  have b6 : FnMX pr w K mg base T.M_FormReader_take_sign 4 (F_sign T.K_FormReader.C T.K_Frame.C T.E_ReadError.C) := go_FormReader_take_sign T b4 (by omega) b5 (by omega) b3 (by omega) (by omega) (body_sign _ _ _)
  have b7 : FnD pr w K mg base T.D_value_of 1 F_val := go_value_of T body_val
  have b8 : FnMX pr w K mg base T.M_FormReader_take 5 (F_tk T.K_FormReader.C T.K_Frame.C T.E_ReadError.C) := go_FormReader_take T b6 (by omega) b7 (by omega) b5 (by omega) b3 (by omega) (by omega) (body_tk _ _ _)
  have b9 : FnDX pr w K mg base T.D_taken 6 (F_taken T.K_FormReader.C T.K_Frame.C T.E_ReadError.C) := go_taken T b2 (by omega) a8 (by omega) b8 (by omega) (by omega) (body_taken _ _ _)
  exact ⟨go_read T b9 (by omega) (body_read _ _ _), go_offsets T b9 (by omega) (body_offs _ _ _)⟩
theorem law_all (T : Top w K mg) : FnDX pr w K mg base T.D_law 201 F_law := by
  obtain ⟨r1, r2⟩ := rd_all (base := base) T
  have d1 : FnD pr w K mg base T.D__law_draws 1 F_draws := go__law_draws T body_draws
  have d2 : FnD pr w K mg base T.D__law_take 1 F_take := go__law_take T body_take
  have c7 : ∀ n : Nat, FnD pr w K mg base T.D__law_same n (F_same n) := by
    intro n
    induction n with
    | zero =>
      refine fn_never fun ms W G Gx ⟨m, _, h, _⟩ => ?_
      cases m with
      | im d => simp [D.sane] at h
      | ls ds => simp [D.sane] at h
      | _ => exact h.elim
    | succ n ih => exact go__law_same T ih (by omega) (body_same n)
  have c8 : FnD pr w K mg base T.D__law_same 126 (F_s2 124) := go__law_same T (c7 125) (by omega) (body_s2 124)
  have c9 : FnD pr w K mg base T.D__law_same 127 (F_s3 124) := go__law_same T c8 (by omega) (body_s3 124)
  have e1 : FnD pr w K mg base T.D__law_sort 1 F_lsort := go__law_sort T body_lsort
  have e2 : FnD pr w K mg base T.D__law_tokens 2 F_ltoks := go__law_tokens T e1 (by omega) body_ltoks
  have e3 : FnD pr w K mg base T.D__law_value 1 F_lval := go__law_value T body_lval
  have e4 : ∀ n : Nat, FnD pr w K mg base T.D__law_datum (n + 2) (F_ldat n) := by
    intro n
    induction n with
    | zero =>
      refine fn_never fun ms W G Gx h => ?_
      obtain ⟨l, all, i, o, dp, n, st, _, _, _, _, _, _, h1, h2, _⟩ := h
      omega
    | succ n ih => exact go__law_datum T e3 (by omega) ih (by omega) (body_ldat n)
  have e5 : FnD pr w K mg base T.D__law_read 64 F_lread := go__law_read T e2 (by omega) (e4 61) (by omega) body_lread
  have e6 : FnDX pr w K mg base T.D__law_told 8 (F_told T.K_FormReader.C T.K_Frame.C T.E_ReadError.C) := go__law_told T r1 (by omega) r2 (by omega) (body_told _ _ _)
  have p0 : FnD pr w K mg base T.D__law_deep 2 F_deep := go__law_deep T d2 (by omega) body_deep
  have p1 : FnD pr w K mg base T.D__law_long 2 F_long := go__law_long T d2 (by omega) body_long
  have p2 : FnD pr w K mg base T.D__law_worded 2 F_worded := go__law_worded T d2 (by omega) body_worded
  exact go_law T d1 (by omega) d2 (by omega) p2 (by omega) p0 (by omega) p1 (by omega) e6 (by omega) e5 (by omega) c9 (by omega) (body_law _ _ _)
theorem law_join {fa : Addr} {h : Heap} (KX : K.In h) (hmg : mg "law" = some (.ref fa)) (T : Top w K mg) :
    ∃ fd : FuncData, (∀ (s : Shared) (u : Value), BindsTo s fd ⟨[u], []⟩ [("script", u)]) ∧ ∀ base : Heap, K.In base → base.Ns mainGlobals mg → FnOk pr w K mg base CX0 230 fa fd ["script"] (spD K F_law.calm 1) := by
  have e := hmg.symm.trans T.D_law.mg
  cases e
  exact ⟨_, T.bl, fun base _ _ => FnOk.mono (law_all T).calm (by omega)⟩
end
end Y
open PySem PySem.W PyProof.Rows
set_option maxRecDepth 100000 in
set_option maxHeartbeats 0 in
theorem PySem.Challenge.cw_wherewritten_k04_bounds_of_texts_holds : PySem.Challenge.rw_wherewritten_k04_bounds_of_texts.Holds := by
  w_on; o_law; k_head; (case hw => w_witness2)
  k_fill
  refine Y.walkZ (l := PySem.Challenge.rw_wherewritten_k04_bounds_of_texts) (F := Y.F_law.calm) rfl rfl Y.law_start (fun w h Y => PySem.W.kIn_of Y) ?F
  case F =>
    intro w mg fa h KX G hmg
    refine' Y.law_join KX hmg (Y.tp_mk KX G ?cn_0 ?cpg_0 ?chd_0 ?cpo_0 ?csa_0 ?cmk_0 ?ckp_0 ?cn_1 ?cpg_1 ?chd_1 ?cpo_1 ?csa_1 ?cmk_1 ?ckp_1 ?nf_0 ?nf_1 ?nf_2 ?nf_3 ?nf_4 ?nf_5 ?xa_0 ?xi_0 ?xt_0 ?xl_0 ?xd_0 ?xe_0 ?xg_0 ?xh_0 ?xj_0 ?xm_0 ?xn_0 ?xo_0 ?xp_0 ?xq_0 ?xr_0 ?xs_0 ?xu_0 ?xv_0 ?xw_0 ?xy_0 ?xz_0 ?xx_0 ?a0 ?l0 ?c0 ?k0 ?a1 ?l1 ?c1 ?k1 ?a2 ?l2 ?c2 ?k2 ?a3 ?l3 ?c3 ?k3 ?a4 ?l4 ?c4 ?k4 ?a5 ?l5 ?c5 ?k5 ?a6 ?l6 ?c6 ?k6 ?a7 ?l7 ?c7 ?k7 ?i8 ?a8 ?l8 ?c8 ?k8 ?i9 ?a9 ?l9 ?c9 ?k9 ?i10 ?a10 ?l10 ?c10 ?k10 ?i11 ?a11 ?l11 ?c11 ?k11 ?i12 ?a12 ?l12 ?c12 ?k12 ?i13 ?a13 ?l13 ?c13 ?k13 ?i14 ?a14 ?l14 ?c14 ?k14 ?a15 ?l15 ?c15 ?k15 ?a16 ?l16 ?c16 ?k16 ?a17 ?l17 ?c17 ?k17 ?a18 ?l18 ?c18 ?k18 ?a19 ?l19 ?c19 ?k19 ?a20 ?l20 ?c20 ?k20 ?a21 ?l21 ?c21 ?k21 ?a22 ?l22 ?c22 ?k22 ?a23 ?l23 ?c23 ?k23 ?a24 ?l24 ?c24 ?k24 ?a25 ?l25 ?c25 ?k25 ?a26 ?l26 ?c26 ?k26 ?a27 ?l27 ?c27 ?k27 ?a28 ?l28 ?c28 ?k28 ?a29 ?l29 ?c29 ?k29 ?a30 ?l30 ?c30 ?k30 ?a31 ?l31 ?c31 ?k31 ?z0 ?z1 ?z2 ?z3 ?z4 ?z5 ?z6 ?z7 ?z8 ?z9 ?vv0 ?vv1 ?vv2 ?vv3 ?vv4 ?vv5 ?vv6 ?vv7 ?tg0 ?tl0 ?tc0 ?td0 ?tz0 ?tr0 ?tg1 ?tl1 ?tk1 ?ts1 ?tr1)
    (case cn_0 => k_is); (case cpg_0 => k_is); (case chd_0 => k_is); (case cpo_0 => k_is)
    (case csa_0 => k_is); (case cmk_0 => k_is); (case ckp_0 => k_is); (case cn_1 => k_is)
    (case cpg_1 => k_is); (case chd_1 => k_is); (case cpo_1 => k_is); (case csa_1 => k_is)
    (case cmk_1 => k_is); (case ckp_1 => k_is); (case nf_0 => k_is); (case nf_1 => k_is)
    (case nf_2 => k_is); (case nf_3 => k_is); (case nf_4 => k_is); (case nf_5 => k_is)
    (case xa_0 => k_is); (case xi_0 => k_is); (case xt_0 => k_is); (case xl_0 => k_is)
    (case xd_0 => k_is); (case xe_0 => k_is); (case xg_0 => exact rfl); (case xh_0 => decide +kernel)
    (case xj_0 => k_is); (case xm_0 => k_is); (case xn_0 => k_is); (case xo_0 => k_is)
    (case xp_0 => k_is); (case xq_0 => exact ⟨_, _, _, _, _, _, _, _, _, _, _, _, _, _, _, rfl, rfl⟩); (case xr_0 => k_is); (case xs_0 => kernel_rfl)
    (case xu_0 => k_is); (case xv_0 => k_is); (case xw_0 => k_is); (case xy_0 => kernel_rfl)
    (case xz_0 => k_is); (case xx_0 => kernel_rfl); (case a0 => k_is); (case l0 => k_is)
    (case c0 => k_is); (case k0 => k_is); (case a1 => k_is); (case l1 => k_is)
    (case c1 => k_is); (case k1 => k_is); (case a2 => k_is); (case l2 => k_is)
    (case c2 => k_is); (case k2 => k_is); (case a3 => k_is); (case l3 => k_is)
    (case c3 => k_is); (case k3 => k_is); (case a4 => k_is); (case l4 => k_is)
    (case c4 => k_is); (case k4 => k_is); (case a5 => k_is); (case l5 => k_is)
    (case c5 => k_is); (case k5 => k_is); (case a6 => k_is); (case l6 => k_is)
    (case c6 => k_is); (case k6 => k_is); (case a7 => k_is); (case l7 => k_is)
    (case c7 => k_is); (case k7 => k_is); (case i8 => k_is); (case a8 => k_is)
    (case l8 => k_is); (case c8 => k_is); (case k8 => k_is); (case i9 => k_is)
    (case a9 => k_is); (case l9 => k_is); (case c9 => k_is); (case k9 => k_is)
    (case i10 => k_is); (case a10 => k_is); (case l10 => k_is); (case c10 => k_is)
    (case k10 => k_is); (case i11 => k_is); (case a11 => k_is); (case l11 => k_is)
    (case c11 => k_is); (case k11 => k_is); (case i12 => k_is); (case a12 => k_is)
    (case l12 => k_is); (case c12 => k_is); (case k12 => k_is); (case i13 => k_is)
    (case a13 => k_is); (case l13 => k_is); (case c13 => k_is); (case k13 => k_is)
    (case i14 => k_is); (case a14 => k_is); (case l14 => k_is); (case c14 => k_is)
    (case k14 => k_is); (case a15 => k_is); (case l15 => k_is); (case c15 => k_is)
    (case k15 => k_is); (case a16 => k_is); (case l16 => k_is); (case c16 => k_is)
    (case k16 => k_is); (case a17 => k_is); (case l17 => k_is); (case c17 => k_is)
    (case k17 => k_is); (case a18 => k_is); (case l18 => k_is); (case c18 => k_is)
    (case k18 => k_is); (case a19 => k_is); (case l19 => k_is); (case c19 => k_is)
    (case k19 => k_is); (case a20 => k_is); (case l20 => k_is); (case c20 => k_is)
    (case k20 => k_is); (case a21 => k_is); (case l21 => k_is); (case c21 => k_is)
    (case k21 => k_is); (case a22 => k_is); (case l22 => k_is); (case c22 => k_is)
    (case k22 => k_is); (case a23 => k_is); (case l23 => k_is); (case c23 => k_is)
    (case k23 => k_is); (case a24 => k_is); (case l24 => k_is); (case c24 => k_is)
    (case k24 => k_is); (case a25 => k_is); (case l25 => k_is); (case c25 => k_is)
    (case k25 => k_is); (case a26 => k_is); (case l26 => k_is); (case c26 => k_is)
    (case k26 => k_is); (case a27 => k_is); (case l27 => k_is); (case c27 => k_is)
    (case k27 => k_is); (case a28 => k_is); (case l28 => k_is); (case c28 => k_is)
    (case k28 => k_is); (case a29 => k_is); (case l29 => k_is); (case c29 => k_is)
    (case k29 => k_is); (case a30 => k_is); (case l30 => k_is); (case c30 => k_is)
    (case k30 => k_is); (case a31 => k_is); (case l31 => k_is); (case c31 => k_is)
    (case k31 => k_is); (case z0 => k_is); (case z1 => k_is); (case z2 => k_is)
    (case z3 => k_is); (case z4 => k_is); (case z5 => k_is); (case z6 => k_is)
    (case z7 => k_is); (case z8 => k_is); (case z9 => k_is); (case vv0 => k_is)
    (case vv1 => k_is); (case vv2 => k_is); (case vv3 => k_is); (case vv4 => k_is)
    (case vv5 => k_is); (case vv6 => k_is); (case vv7 => k_is); (case tg0 => k_is)
    (case tl0 => k_is); (case tc0 => exact rfl); (case td0 => exact rfl); (case tz0 => decide)
    (case tr0 => (repeat (first | exact Paired.nil | refine Paired.cons ⟨_, rfl, by first | exact ⟨_, rfl⟩ | exact rfl⟩ ?_))); (case tg1 => k_is); (case tl1 => k_is); (case tk1 => k_keys)
    (case ts1 => decide); (case tr1 => (repeat (first | exact Paired.nil | refine Paired.cons ⟨⟨_, rfl⟩, _, rfl, by first | exact ⟨_, rfl⟩ | exact rfl⟩ ?_)))
