import PyProof.Rows.All
import Wide.All
import OpenK.AllK
import Wide.FinOn
import PyProof.EqAt
import PyProof.EqKinds
import PyProof.TupleCall
import HandS.ForMost
import HandS.Exc
import HandS.ExcOwn
import HandS.ExcInit
import HandS.ExcField
import HandS.ExcIs
import HandS.CallSlots
import HandS.TryOnly
import HandS.TryMany
import HandS.WordsExc
import HandS.Wide
import KE.KeyNested
import HandS.TupAny
import HandS.TupLe
import HandS.TupMul
import HandS.Deep
import HandS.StrMore
import HandS.WideBits
import PyProof.StrBlock2
import HandS.SortRule
import HandS.SortInts
import HandS.Walk
import HandS.Zip
import HandS.Rev
import HandS.IsInst
import KE.KDictCopyH
import KE.KDictWalk
import HandS.Iter
import HandS.DictComp
import HandS.MakeKwOnly
import HandS.Property
import HandS.MethStar
import PyProof.ListStr
import KE.GoesEnum
import PyProof.StrOps2
import HandS.Codes
import PySem.Challenge.RW_leastfile_k13_whole_one_bit_changed

/-! LVa -/
set_option Elab.async false
set_option linter.all false
set_option maxRecDepth 100000
set_option maxHeartbeats 2000000
/-! LVa: data by value over the abstract heap: what a value is worth (DAt), cells that may change, the state of a walk (Good), outcomes (R) and their wishes (Ok). -/
namespace LV
open PySem L2

inductive D where
  | non | bl (b : Bool) | int (i : Int) | str (x : List Nat) | tup (xs : List D) | lst (xs : List D) | lsx (xs : List D) | dic (kvs : List (D × D)) | dlk (kvs : List (D × D)) | obj (c : Str) (fs : List (Str × D))

abbrev S2 (x : List Nat) : Str := ⟨x.toArray⟩

/-! a key of a dict -/
mutual
def nk : D → Option NestedKey
  | .non => some .none
  | .bl b => some (.num (if b = true then 1 else 0))
  | .int i => some (.num i)
  | .str x => some (.text (S2 x))
  | .tup xs => (nks xs).map NestedKey.tup
  | _ => none
def nks : List D → Option (List NestedKey)
  | [] => some []
  | x :: xs => match nk x, nks xs with
    | some a, some b => some (a :: b)
    | _, _ => none
end

/-- a key that a dict may have -/
def nq (d : D) : Option NestedKey := match nk d with
  | some n => if n.depth ≤ 8 then some n else none
  | none => none

/-- a dict whose keys are nested keys, in its order: key, the key's value, the value -/
abbrev Ent := NestedKey × V × V
def entOf (w : World) (y : NestedKey × Value × Value) : DictEntry := ⟨y.1.hash w, y.2.1, y.2.2⟩
abbrev REnt (x : Ent) (y : NestedKey × Value × Value) : Prop := x.1 = y.1 ∧ RelV x.2.1 y.2.1 ∧ RelV x.2.2 y.2.2
def dO (w : World) (a : Addr) (es : List Ent) : HO := .ext fun h => es.length ≤ sizeLine ∧ (a == sysModules) = false ∧ (es.map (·.1)).Nodup ∧
  ∃ ys, Paired REnt es ys ∧ ∃ o dt ep, h.get? a = some o ∧ o.ExactDict ∧ o.data = .dict dt ep ∧ dt.toList = ys.map (entOf w)

structure GE where
  K : PySem.W.Frag
  w : World
  cls : Str → Option Addr

mutual
def DAt (G : GE) (S : Hp) (v : V) : D → Prop
  | .non => v = .non
  | .bl b => v = .bl b
  | .int i => v = .int i
  | .str x => v = .str (S2 x)
  | .tup ds => ∃ a vs, v = .ref a ∧ S a = some (.tup vs) ∧ DAts G S vs ds
  | .lst ds => ∃ a vs, v = .ref a ∧ S a = some (.lst vs) ∧ DAts G S vs ds
  | .lsx ds => ∃ a vs, v = .ref a ∧ SqL G.K S a vs ∧ DAts G S vs ds
  | .dic kvs => ∃ a o es, v = .ref a ∧ S a = some (.frz o (dO G.w a es)) ∧ DKs G S es kvs
  | .dlk _ => False
  | .obj c fs => ∃ a C dx gs, v = .ref a ∧ S a = some (.ins C dx gs) ∧ G.cls c = some C ∧ DFs G S gs fs
def DAts (G : GE) (S : Hp) (vs : List V) : List D → Prop
  | [] => vs = []
  | d :: ds => ∃ v r, vs = v :: r ∧ DAt G S v d ∧ DAts G S r ds
def DKs (G : GE) (S : Hp) (es : List Ent) : List (D × D) → Prop
  | [] => es = []
  | (k, d) :: ds => ∃ n kv v r, es = (n, kv, v) :: r ∧ nq k = some n ∧ DAt G S kv k ∧ DAt G S v d ∧ DKs G S r ds
def DFs (G : GE) (S : Hp) (gs : List (Str × V)) : List (Str × D) → Prop
  | [] => gs = []
  | (f, d) :: ds => ∃ v r, gs = (f, v) :: r ∧ DAt G S v d ∧ DFs G S r ds
end

/-- the heap grows -/
abbrev Ex (H H' : Hp) : Prop := L2.Same H H'
theorem Ex.rd {H H' : Hp} {a : Addr} {u : HO} (e : Ex H H') (h : Rd H a u) : Rd H' a u := by
  rcases h with h | ⟨o, h⟩
  · exact Or.inl (e a _ h)
  · exact Or.inr ⟨o, e a _ h⟩
theorem Ex.sl {K : PySem.W.Frag} {H H' : Hp} {a : Addr} {xs : List V} (e : Ex H H') (h : SqL K H a xs) : SqL K H' a xs := e.seq h
theorem Ex.st {K : PySem.W.Frag} {H H' : Hp} {a : Addr} {xs : List V} (e : Ex H H') (h : SqT K H a xs) : SqT K H' a xs := by
  rcases h with h | h
  · exact Or.inl (Ex.rd e h)
  · exact Or.inr h
theorem Ex.new {H : Hp} {p : Addr} {o : HO} (h : H p = none) : Ex H (upd H p o) := fun a u e => by
  rw [upd_ne (ne_of_none e h)]
  exact e
theorem Ex.free {H H' : Hp} {p : Addr} (e : Ex H H') (h : H' p = none) : H p = none := Same.free e h

mutual
theorem DAt.mono {G : GE} {S S' : Hp} (e : Ex S S') : ∀ {v : V} (d : D), DAt G S v d → DAt G S' v d
  | _, .non, h => h
  | _, .bl _, h => h
  | _, .int _, h => h
  | _, .str _, h => h
  | _, .tup ds, h => by
    unfold DAt at h ⊢
    obtain ⟨a, vs, h1, h2, h3⟩ := h
    exact ⟨a, vs, h1, e _ _ h2, DAts.mono e ds h3⟩
  | _, .lst ds, h => by
    unfold DAt at h ⊢
    obtain ⟨a, vs, h1, h2, h3⟩ := h
    exact ⟨a, vs, h1, e _ _ h2, DAts.mono e ds h3⟩
  | _, .lsx ds, h => by
    unfold DAt at h ⊢
    obtain ⟨a, vs, h1, h2, h3⟩ := h
    exact ⟨a, vs, h1, Ex.sl e h2, DAts.mono e ds h3⟩
  | _, .dic ds, h => by
    unfold DAt at h ⊢
    obtain ⟨a, o, es, h1, h2, h3⟩ := h
    exact ⟨a, o, es, h1, e _ _ h2, DKs.mono e ds h3⟩
  | _, .dlk _, h => h
  | _, .obj c fs, h => by
    unfold DAt at h ⊢
    obtain ⟨a, C, dx, gs, h1, h2, h3, h4⟩ := h
    exact ⟨a, C, dx, gs, h1, e _ _ h2, h3, DFs.mono e fs h4⟩
theorem DAts.mono {G : GE} {S S' : Hp} (e : Ex S S') : ∀ {vs : List V} (ds : List D), DAts G S vs ds → DAts G S' vs ds
  | _, [], h => h
  | _, d :: ds, h => by
    unfold DAts at h ⊢
    obtain ⟨v, r, h1, h2, h3⟩ := h
    exact ⟨v, r, h1, DAt.mono e d h2, DAts.mono e ds h3⟩
theorem DKs.mono {G : GE} {S S' : Hp} (e : Ex S S') : ∀ {es : List Ent} (ds : List (D × D)), DKs G S es ds → DKs G S' es ds
  | _, [], h => h
  | _, (k, d) :: ds, h => by
    unfold DKs at h ⊢
    obtain ⟨n, kv, v, r, h1, h2, h3, h4, h5⟩ := h
    exact ⟨n, kv, v, r, h1, h2, DAt.mono e k h3, DAt.mono e d h4, DKs.mono e ds h5⟩
theorem DFs.mono {G : GE} {S S' : Hp} (e : Ex S S') : ∀ {gs : List (Str × V)} (ds : List (Str × D)), DFs G S gs ds → DFs G S' gs ds
  | _, [], h => h
  | _, (f, d) :: ds, h => by
    unfold DFs at h ⊢
    obtain ⟨v, r, h1, h2, h3⟩ := h
    exact ⟨v, r, h1, DAt.mono e d h2, DFs.mono e ds h3⟩
end

/-! ### lists -/
section
variable {G : GE} {S : Hp}
theorem DAts.nil : DAts G S [] [] := by unfold DAts; rfl
theorem DAts.cons {v : V} {d : D} {vs : List V} {ds : List D} (h : DAt G S v d) (t : DAts G S vs ds) : DAts G S (v :: vs) (d :: ds) := by
  unfold DAts; exact ⟨v, vs, rfl, h, t⟩
theorem DAts.inv {vs : List V} {d : D} {ds : List D} (h : DAts G S vs (d :: ds)) : ∃ v r, vs = v :: r ∧ DAt G S v d ∧ DAts G S r ds := by
  unfold DAts at h; exact h
theorem DAts.inv0 {vs : List V} (h : DAts G S vs []) : vs = [] := by
  unfold DAts at h; exact h
theorem DAts.length : ∀ {ds : List D} {vs : List V}, DAts G S vs ds → vs.length = ds.length
  | [], _, h => by rw [h.inv0]; rfl
  | d :: ds, _, h => by
    obtain ⟨v, r, rfl, _, h2⟩ := h.inv
    simp [DAts.length h2]
theorem DAts.get : ∀ {ds : List D} {vs : List V} {i : Nat} {d : D}, DAts G S vs ds → ds[i]? = some d → ∃ v, vs[i]? = some v ∧ DAt G S v d
  | [], _, _, _, _, e => by simp at e
  | d :: ds, _, 0, _, h, e => by
    obtain ⟨v, r, rfl, h1, h2⟩ := h.inv
    simp at e; subst e
    exact ⟨v, rfl, h1⟩
  | d :: ds, _, i + 1, _, h, e => by
    obtain ⟨v, r, rfl, h1, h2⟩ := h.inv
    obtain ⟨u, e1, e2⟩ := DAts.get (i := i) h2 (by simpa using e)
    exact ⟨u, by simpa using e1, e2⟩
theorem DAts.getv : ∀ {ds : List D} {vs : List V} {i : Nat} {v : V}, DAts G S vs ds → vs[i]? = some v → ∃ d, ds[i]? = some d ∧ DAt G S v d
  | [], _, _, _, h, e => by rw [h.inv0] at e; simp at e
  | d :: ds, _, 0, _, h, e => by
    obtain ⟨v, r, rfl, h1, h2⟩ := h.inv
    simp at e; subst e
    exact ⟨d, rfl, h1⟩
  | d :: ds, _, i + 1, _, h, e => by
    obtain ⟨v, r, rfl, h1, h2⟩ := h.inv
    obtain ⟨u, e1, e2⟩ := DAts.getv (i := i) h2 (by simpa using e)
    exact ⟨u, by simpa using e1, e2⟩
theorem DAts.append : ∀ {ds es : List D} {vs us : List V}, DAts G S vs ds → DAts G S us es → DAts G S (vs ++ us) (ds ++ es)
  | [], _, _, _, h, h' => by rw [h.inv0]; exact h'
  | d :: ds, _, _, _, h, h' => by
    obtain ⟨v, r, rfl, h1, h2⟩ := h.inv
    exact .cons h1 (DAts.append h2 h')
theorem DAts.set : ∀ {ds : List D} {vs : List V} (i : Nat) {v : V} {d : D}, DAts G S vs ds → DAt G S v d → DAts G S (vs.set i v) (ds.set i d)
  | [], _, _, _, _, h, _ => by rw [h.inv0]; simp; exact .nil
  | d :: ds, _, 0, _, _, h, h' => by
    obtain ⟨v, r, rfl, h1, h2⟩ := h.inv
    exact .cons h' h2
  | d :: ds, _, i + 1, _, _, h, h' => by
    obtain ⟨v, r, rfl, h1, h2⟩ := h.inv
    exact .cons h1 (DAts.set i h2 h')
theorem DAts.take : ∀ {ds : List D} {vs : List V} (n : Nat), DAts G S vs ds → DAts G S (vs.take n) (ds.take n)
  | _, _, 0, _ => by simp; exact .nil
  | [], _, n + 1, h => by rw [h.inv0]; simp; exact .nil
  | d :: ds, _, n + 1, h => by
    obtain ⟨v, r, rfl, h1, h2⟩ := h.inv
    exact .cons h1 (DAts.take n h2)
theorem DAts.drop : ∀ {ds : List D} {vs : List V} (n : Nat), DAts G S vs ds → DAts G S (vs.drop n) (ds.drop n)
  | _, _, 0, h => h
  | [], _, n + 1, h => by rw [h.inv0]; simp; exact .nil
  | d :: ds, _, n + 1, h => by
    obtain ⟨v, r, rfl, h1, h2⟩ := h.inv
    exact DAts.drop n h2
theorem DAts.erase : ∀ {ds : List D} {vs : List V} (n : Nat), DAts G S vs ds → DAts G S (vs.eraseIdx n) (ds.eraseIdx n)
  | [], _, _, h => by rw [h.inv0]; simp; exact .nil
  | d :: ds, _, 0, h => by
    obtain ⟨v, r, rfl, h1, h2⟩ := h.inv
    exact h2
  | d :: ds, _, n + 1, h => by
    obtain ⟨v, r, rfl, h1, h2⟩ := h.inv
    exact .cons h1 (DAts.erase n h2)
theorem DAts.rev : ∀ {ds : List D} {vs : List V}, DAts G S vs ds → DAts G S vs.reverse ds.reverse
  | [], _, h => by rw [h.inv0]; exact .nil
  | d :: ds, _, h => by
    obtain ⟨v, r, rfl, h1, h2⟩ := h.inv
    rw [List.reverse_cons, List.reverse_cons]
    exact (DAts.rev h2).append (.cons h1 .nil)
theorem DAts.ints : ∀ {ns : List Int}, DAts G S (ns.map V.int) (ns.map D.int)
  | [] => .nil
  | _ :: _ => .cons rfl DAts.ints
theorem DFs.look {f : Str} : ∀ {fs : List (Str × D)} {gs : List (Str × V)} {d : D}, DFs G S gs fs → fs.lookup f = some d → ∃ v, gs.lookup f = some v ∧ DAt G S v d
  | [], _, _, _, e => by simp [List.lookup] at e
  | (g, x) :: fs, gs, d, h, e => by
    unfold DFs at h
    obtain ⟨v, r, rfl, h1, h2⟩ := h
    rw [List.lookup_cons] at e ⊢
    cases q : (f == g) with
    | true => rw [q] at e; cases e; exact ⟨v, rfl, h1⟩
    | false => rw [q] at e; exact DFs.look h2 e
theorem DFs.lookn {f : Str} : ∀ {fs : List (Str × D)} {gs : List (Str × V)}, DFs G S gs fs → fs.lookup f = none → gs.lookup f = none
  | [], _, h, _ => by unfold DFs at h; subst h; rfl
  | (g, x) :: fs, gs, h, e => by
    unfold DFs at h
    obtain ⟨v, r, rfl, h1, h2⟩ := h
    rw [List.lookup_cons] at e ⊢
    cases q : (f == g) with
    | true => rw [q] at e; cases e
    | false => rw [q] at e; exact DFs.lookn h2 e
theorem DFs.length : ∀ {fs : List (Str × D)} {gs : List (Str × V)}, DFs G S gs fs → gs.length = fs.length
  | [], _, h => by unfold DFs at h; subst h; rfl
  | (g, x) :: fs, gs, h => by
    unfold DFs at h
    obtain ⟨v, r, rfl, h1, h2⟩ := h
    simp [DFs.length h2]
/-- a field stored -/
def putD (f : Str) (v : D) : List (Str × D) → List (Str × D)
  | [] => [(f, v)]
  | (g, u) :: r => if g = f then (g, v) :: r else (g, u) :: putD f v r
theorem DFs.put {f : Str} {v : V} {d : D} : ∀ {fs : List (Str × D)} {gs : List (Str × V)}, DFs G S gs fs → DAt G S v d → DFs G S (putF f v gs) (putD f d fs)
  | [], _, h, h' => by unfold DFs at h; subst h; unfold putF putD DFs; exact ⟨v, [], rfl, h', by unfold DFs; rfl⟩
  | (g, x) :: fs, gs, h, h' => by
    unfold DFs at h
    obtain ⟨v, r, rfl, h1, h2⟩ := h
    unfold putF putD
    by_cases q : g = f
    · rw [if_pos q, if_pos q]
      unfold DFs
      exact ⟨_, _, rfl, h', h2⟩
    · rw [if_neg q, if_neg q]
      unfold DFs
      exact ⟨_, _, rfl, h1, DFs.put h2 h'⟩
end
end LV

/-! LVb -/
set_option Elab.async false
set_option linter.all false
set_option maxRecDepth 100000
set_option maxHeartbeats 2000000
/-! LVb: the state of a walk, outcomes, judgements by value. -/
namespace LV
open PySem L2

abbrev Sto := List (Option D)
structure Xc where
  c : Str
  fs : List (Str × D)
/-- a thing at work: data, a cell, the error that is handled -/
inductive U where | d (x : D) | c (k : Nat) | x (e : Xc)
inductive R (α : Type) where | ok (a : α) (st : Sto) | exc (x : Xc) (st : Sto) | bad
@[reducible] def R.bind {α β : Type} (r : R α) (f : α → Sto → R β) : R β := match r with
  | .ok a st => f a st
  | .exc x st => .exc x st
  | .bad => .bad
abbrev EnvU := List (Option U)
abbrev ME := EnvU → Sto → R U
abbrev MT := EnvU → Sto → R Bool
abbrev MA := EnvU → Sto → R (List U)
inductive RS where | nx (e : EnvU) (st : Sto) | rt (u : U) (st : Sto) | bk (e : EnvU) (st : Sto) | ct (e : EnvU) (st : Sto) | exc (x : Xc) (e : EnvU) (st : Sto) | bad
abbrev MS := EnvU → Sto → RS

/-- the world of a walk: what never changes any more, where the cells stand -/
structure W where
  S : Hp
  ps : List Addr
  /-- what is locked -/
  L : Hp
  /-- the error that is handled: its address, class, dict -/
  xo : Option (Addr × Value × Option Addr)
/-- a later world of the same def -/
structure L0 (w w' : W) : Prop where
  s : Ex w.S w'.S
  p : ∃ r, w'.ps = w.ps ++ r
theorem L0.refl (w : W) : L0 w w := ⟨Same.refl _, [], by simp⟩
theorem L0.trans {a b c : W} (h : L0 a b) (h' : L0 b c) : L0 a c := ⟨h.s.trans h'.s, by
  obtain ⟨r, e⟩ := h.p
  obtain ⟨r', e'⟩ := h'.p
  exact ⟨r ++ r', by rw [e', e, List.append_assoc]⟩⟩
/-- .. with the same locks -/
structure Le (w w' : W) : Prop where
  s : Ex w.S w'.S
  l : w'.L = w.L
  o : w'.xo = w.xo
  p : ∃ r, w'.ps = w.ps ++ r
theorem Le.l0 {w w' : W} (h : Le w w') : L0 w w' := ⟨h.s, h.p⟩
theorem Le.refl (w : W) : Le w w := ⟨Same.refl _, rfl, rfl, [], by simp⟩
theorem Le.trans {a b c : W} (h : Le a b) (h' : Le b c) : Le a c := ⟨h.s.trans h'.s, h'.l.trans h.l, h'.o.trans h.o, by
  obtain ⟨r, e⟩ := h.p
  obtain ⟨r', e'⟩ := h'.p
  exact ⟨r ++ r', by rw [e', e, List.append_assoc]⟩⟩
theorem Le.at {a b : W} (h : Le a b) {k : Nat} {p : Addr} (e : a.ps[k]? = some p) : b.ps[k]? = some p := by
  obtain ⟨r, q⟩ := h.p
  rw [q, List.getElem?_append_left (List.getElem?_eq_some_iff.mp e).1]
  exact e

/-- an error by value, its dict among what never changes -/
def XS (G : GE) (S : Hp) (cls : Value) (dd : Option Addr) (x : Xc) : Prop :=
  ∃ C, G.cls x.c = some C ∧ cls = .ref C ∧ ((x.fs = [] ∧ dd = none) ∨ ∃ dx gs, dd = some dx ∧ S dx = some (.xd gs) ∧ DFs G S gs x.fs)
theorem XS.mono {G : GE} {S S' : Hp} (e : Ex S S') {cls : Value} {dd : Option Addr} {x : Xc} (h : XS G S cls dd x) : XS G S' cls dd x := by
  obtain ⟨C, h1, h2, h3⟩ := h
  refine ⟨C, h1, h2, h3.imp id fun ⟨dx, gs, h4, h5, h6⟩ => ⟨dx, gs, h4, e _ _ h5, DFs.mono e _ h6⟩⟩
def UAt (G : GE) (w : W) (v : V) : U → Prop
  | .d x => DAt G w.S v x
  | .c k => ∃ p, w.ps[k]? = some p ∧ v = .ref p
  | .x e => ∃ a cls dd, w.xo = some (a, cls, dd) ∧ v = .ref a ∧ XS G w.S cls dd e
theorem UAt.mono {G : GE} {w w' : W} (l : Le w w') {v : V} {u : U} (h : UAt G w v u) : UAt G w' v u := by
  cases u with
  | d x => exact DAt.mono l.s x h
  | c k => obtain ⟨p, h1, h2⟩ := h; exact ⟨p, l.at h1, h2⟩
  | x e => obtain ⟨a, cls, dd, h1, h2, h3⟩ := h; exact ⟨a, cls, dd, l.o.trans h1, h2, h3.mono l.s⟩
def UAts (G : GE) (w : W) : List V → List U → Prop := Paired (UAt G w)
theorem UAts.mono {G : GE} {w w' : W} (l : Le w w') {vs : List V} {us : List U} (h : UAts G w vs us) : UAts G w' vs us := Paired.mapP h fun _ _ q => q.mono l
structure EnvAt (G : GE) (w : W) (σ : St) (env : EnvU) : Prop where
  len : σ.length = env.length
  at_ : ∀ (i : Nat) (u : U), env[i]? = some (some u) → ∃ v, σ[i]? = some (some v) ∧ UAt G w v u
theorem EnvAt.mono {G : GE} {w w' : W} (l : Le w w') {σ : St} {env : EnvU} (h : EnvAt G w σ env) : EnvAt G w' σ env :=
  ⟨h.len, fun i u e => let ⟨v, h1, h2⟩ := h.at_ i u e; ⟨v, h1, h2.mono l⟩⟩
theorem EnvAt.set {G : GE} {w : W} {σ : St} {env : EnvU} (h : EnvAt G w σ env) (i : Nat) {v : V} {u : U} (q : UAt G w v u) : EnvAt G w (σ.set i (some v)) (env.set i (some u)) := by
  refine ⟨by simp [h.len], fun j x e => ?_⟩
  by_cases hj : i = j
  · subst hj
    have hl : i < env.length := by
      have := (List.getElem?_eq_some_iff.mp e).1
      simpa using this
    rw [List.getElem?_set_self hl] at e
    cases e
    exact ⟨v, by rw [List.getElem?_set_self (by rw [h.len]; exact hl)], q⟩
  · rw [List.getElem?_set_ne hj] at e ⊢
    exact h.at_ j x e
theorem EnvAt.unset {G : GE} {w : W} {σ : St} {env : EnvU} (h : EnvAt G w σ env) (i : Nat) {o : Option V} : EnvAt G w (σ.set i o) (env.set i none) := by
  refine ⟨by simp [h.len], fun j x e => ?_⟩
  by_cases hj : i = j
  · subst hj
    by_cases hl : i < env.length
    · rw [List.getElem?_set_self hl] at e; cases e
    · rw [List.getElem?_eq_none (by simpa using hl)] at e; cases e
  · rw [List.getElem?_set_ne hj] at e ⊢
    exact h.at_ j x e

/-- what stands in a cell -/
def CAt (G : GE) (S L H : Hp) (p : Addr) : D → Prop
  | .lst ds => L p = none ∧ ∃ vs, H p = some (.lst vs) ∧ DAts G S vs ds
  | .dic kvs => L p = none ∧ ∃ es, H p = some (dO G.w p es) ∧ DKs G S es kvs
  | .dlk kvs => ∃ o es, L p = some (.frz o (dO G.w p es)) ∧ H p = some (.frz o (dO G.w p es)) ∧ DKs G S es kvs
  | .obj c fs => L p = none ∧ ∃ C dx gs, H p = some (.ins C dx gs) ∧ G.cls c = some C ∧ DFs G S gs fs
  | _ => False
theorem CAt.mono {G : GE} {S S' L H : Hp} {p : Addr} (e : Ex S S') {d : D} (h : CAt G S L H p d) : CAt G S' L H p d := by
  cases d with
  | lst ds => obtain ⟨h0, vs, h1, h2⟩ := h; exact ⟨h0, vs, h1, DAts.mono e ds h2⟩
  | dic ds => obtain ⟨h0, vs, h1, h2⟩ := h; exact ⟨h0, vs, h1, DKs.mono e ds h2⟩
  | dlk ds => obtain ⟨o, vs, h0, h1, h2⟩ := h; exact ⟨o, vs, h0, h1, DKs.mono e ds h2⟩
  | obj c ds => obtain ⟨h0, C, dx, gs, h1, h2, h3⟩ := h; exact ⟨h0, C, dx, gs, h1, h2, DFs.mono e ds h3⟩
  | _ => exact h
theorem CAt.keep {G : GE} {S L H H' : Hp} {p : Addr} (e : ∀ o, H p = some o → H' p = some o) {d : D} (h : CAt G S L H p d) : CAt G S L H' p d := by
  cases d with
  | lst ds => obtain ⟨h0, vs, h1, h2⟩ := h; exact ⟨h0, vs, e _ h1, h2⟩
  | dic ds => obtain ⟨h0, vs, h1, h2⟩ := h; exact ⟨h0, vs, e _ h1, h2⟩
  | dlk ds => obtain ⟨o, vs, h0, h1, h2⟩ := h; exact ⟨o, vs, h0, e _ h1, h2⟩
  | obj c ds => obtain ⟨h0, C, dx, gs, h1, h2, h3⟩ := h; exact ⟨h0, C, dx, gs, e _ h1, h2, h3⟩
  | _ => exact h
theorem CAt.there {G : GE} {S L H : Hp} {p : Addr} {d : D} (h : CAt G S L H p d) : ∃ o, H p = some o := by
  cases d with
  | lst ds => obtain ⟨_, vs, h1, h2⟩ := h; exact ⟨_, h1⟩
  | dic ds => obtain ⟨_, vs, h1, h2⟩ := h; exact ⟨_, h1⟩
  | dlk ds => obtain ⟨o, vs, h0, h1, h2⟩ := h; exact ⟨_, h1⟩
  | obj c ds => obtain ⟨_, C, dx, gs, h1, h2, h3⟩ := h; exact ⟨_, h1⟩
  | _ => exact (show False from h).elim

/-- the entry of a def -/
structure GI where
  w0 : W
  H0 : Hp
  xo : Option (Addr × Value × Option Addr)
structure Good (G : GE) (g : GI) (w : W) (st : Sto) (H : Hp) : Prop where
  le : L0 g.w0 w
  sub : Ex w.S H
  subL : Ex w.L H
  xo : w.xo = g.xo
  len : w.ps.length = st.length
  nd : w.ps.Nodup
  cell : ∀ (k : Nat) (p : Addr) (d : D), w.ps[k]? = some p → st[k]? = some (some d) → w.S p = none ∧ CAt G w.S w.L H p d
  used : ∀ p ∈ w.ps, ∃ o, H p = some o
  frame : ∀ b o, g.H0 b = some o → b ∉ g.w0.ps → H b = some o
  newS : ∀ b o, w.S b = some o → (∃ o', g.w0.S b = some o') ∨ g.H0 b = none ∨ b ∈ g.w0.ps
  newP : ∀ (k : Nat) (p : Addr), g.w0.ps.length ≤ k → w.ps[k]? = some p → g.H0 p = none

/-- an exception by value -/
def XAt (G : GE) (w : W) (H : Hp) (cls : Value) (dd : Option Addr) (x : Xc) : Prop := XS G w.S cls dd x

section
variable (G : GE) (g : GI) (Wx : WX)
/-- an outcome's wish -/
def Ok {α β : Type} (rel : W → Hp → β → α → Prop) (w : W) (σ : St) (r : R α) (Q : β → Hp → Prop) : Prop := match r with
  | .ok a st => ∀ w' b H', Le w w' → Good G g w' st H' → rel w' H' b a → Q b H'
  | .exc x st => ∀ w' H' cls dd, Le w w' → Good G g w' st H' → XAt G w' H' cls dd x → Wx cls dd σ H'
  | .bad => False
def OkS (w : W) (r : RS) (D : Ends) : Prop := match r with
  | .nx e st => ∀ w' σ' H', Le w w' → Good G g w' st H' → EnvAt G w' σ' e → D.nx σ' H'
  | .bk e st => ∀ w' σ' H', Le w w' → Good G g w' st H' → EnvAt G w' σ' e → D.bk σ' H'
  | .ct e st => ∀ w' σ' H', Le w w' → Good G g w' st H' → EnvAt G w' σ' e → D.ct σ' H'
  | .rt u st => ∀ w' v H', Le w w' → Good G g w' st H' → UAt G w' v u → D.rt v H'
  | .exc x e st => ∀ w' σ' H' cls dd, Le w w' → Good G g w' st H' → EnvAt G w' σ' e → XAt G w' H' cls dd x → Wx cls dd σ' H'
  | .bad => False
abbrev relB : W → Hp → Bool → Bool → Prop := fun _ _ b a => b = a
abbrev relU : W → Hp → V → U → Prop := fun w _ v u => UAt G w v u
abbrev relA : W → Hp → List V → List U → Prop := fun w _ v u => UAts G w v u
/-- readings -/
def rdE (m : ME) : TE := fun σ H Q => ∃ w env st, Good G g w st H ∧ EnvAt G w σ env ∧ Ok G g Wx (relU G) w σ (m env st) Q
def rdT (m : MT) : TT := fun σ H Q => ∃ w env st, Good G g w st H ∧ EnvAt G w σ env ∧ Ok G g Wx relB w σ (m env st) Q
def rdA (m : MA) : TA := fun σ H Q => ∃ w env st, Good G g w st H ∧ EnvAt G w σ env ∧ Ok G g Wx (relA G) w σ (m env st) Q
def rdS (m : MS) : TS := fun D σ H => ∃ w env st, Good G g w st H ∧ EnvAt G w σ env ∧ OkS G g Wx w (m env st) D
end

section
variable {G : GE} {g : GI} {Wx : WX}
theorem Ok.le {α β : Type} {rel : W → Hp → β → α → Prop} {w w1 : W} {σ : St} {r : R α} {Q : β → Hp → Prop} (l : Le w w1) (h : Ok G g Wx rel w σ r Q) : Ok G g Wx rel w1 σ r Q := by
  cases r with
  | ok a st => exact fun w' b H' l' => h w' b H' (l.trans l')
  | exc x st => exact fun w' H' cls dd l' => h w' H' cls dd (l.trans l')
  | bad => exact h
theorem OkS.le {w w1 : W} {r : RS} {D : Ends} (l : Le w w1) (h : OkS G g Wx w r D) : OkS G g Wx w1 r D := by
  cases r with
  | nx e st => exact fun w' b H' l' => h w' b H' (l.trans l')
  | bk e st => exact fun w' b H' l' => h w' b H' (l.trans l')
  | ct e st => exact fun w' b H' l' => h w' b H' (l.trans l')
  | rt e st => exact fun w' b H' l' => h w' b H' (l.trans l')
  | exc x e st => exact fun w' σ' H' cls dd l' => h w' σ' H' cls dd (l.trans l')
  | bad => exact h
theorem Ok.bind {α β γ δ : Type} {rel : W → Hp → β → α → Prop} {rel' : W → Hp → δ → γ → Prop} {w : W} {σ : St} {r : R α} {f : α → Sto → R γ} {Q : δ → Hp → Prop} {Q' : β → Hp → Prop}
    (h : Ok G g Wx rel' w σ (r.bind f) Q) (k : ∀ a st w1 b H1, Le w w1 → Good G g w1 st H1 → rel w1 H1 b a → Ok G g Wx rel' w1 σ (f a st) Q → Q' b H1) : Ok G g Wx rel w σ r Q' := by
  cases r with
  | ok a st => exact fun w' b H' l hg hr => k a st w' b H' l hg hr (Ok.le l h)
  | exc x st => exact h
  | bad => exact h
/-- expression, then statement -/
@[reducible] def R.thenS {α : Type} (r : R α) (env : EnvU) (f : α → Sto → RS) : RS := match r with
  | .ok a st => f a st
  | .exc x st => .exc x env st
  | .bad => .bad
theorem Ok.thenS {α β : Type} {rel : W → Hp → β → α → Prop} {w : W} {σ : St} {env : EnvU} {r : R α} {f : α → Sto → RS} {D : Ends} {Q' : β → Hp → Prop} (he : EnvAt G w σ env)
    (h : OkS G g Wx w (r.thenS env f) D) (k : ∀ a st w1 b H1, Le w w1 → Good G g w1 st H1 → EnvAt G w1 σ env → rel w1 H1 b a → OkS G g Wx w1 (f a st) D → Q' b H1) : Ok G g Wx rel w σ r Q' := by
  cases r with
  | ok a st => exact fun w' b H' l hg hr => k a st w' b H' l hg (he.mono l) hr (OkS.le l h)
  | exc x st => exact fun w' H' cls dd l hg hx => h w' σ H' cls dd l hg (he.mono l) hx
  | bad => exact h
end

section
variable {X : Cx}
theorem PE.imp {e : Expr} {t t' : TE} (h : PE X e t) (i : ∀ σ H Q, t' σ H Q → t σ H Q) : PE X e t' := ⟨fun p s σ H Q I q => h.run p s σ H Q I (i σ H Q q)⟩
theorem PT.imp {e : Expr} {t t' : TT} (h : PT X e t) (i : ∀ σ H Q, t' σ H Q → t σ H Q) : PT X e t' := ⟨fun p s σ H Q I q => h.run p s σ H Q I (i σ H Q q)⟩
theorem PW.imp {e : Expr} {t t' : TT} (h : PW X e t) (i : ∀ σ H Q, t' σ H Q → t σ H Q) : PW X e t' := ⟨fun wh p s σ H Q I q => h.run wh p s σ H Q I (i σ H Q q)⟩
theorem PA.imp {e : List Expr} {t t' : TA} (h : PA X e t) (i : ∀ σ H Q, t' σ H Q → t σ H Q) : PA X e t' := ⟨fun po p s σ H Q I q => h.run po p s σ H Q I (i σ H Q q)⟩
theorem PS.imp {e : Stmt} {t t' : TS} (h : PS X e t) (i : ∀ D σ H, t' D σ H → t D σ H) : PS X e t' := ⟨fun p s σ H D I q => h.run p s σ H D I (i D σ H q)⟩
theorem PSs.imp {e : List Stmt} {t t' : TS} (h : PSs X e t) (i : ∀ D σ H, t' D σ H → t D σ H) : PSs X e t' := ⟨fun p s σ H D I q => h.run p s σ H D I (i D σ H q)⟩
end

/-! ### constants, names, two-place operations -/
section
variable {X : Cx} {G : GE} {g : GI} {Wx : WX} {pos : Pos} {a b : Expr} {ma mb : ME}
def mC (d : D) : ME := fun _ st => .ok (.d d) st
def mV (i : Nat) : ME := fun env st => match env[i]? with
  | some (some u) => .ok u st
  | _ => .bad
theorem se_c {e : Expr} {v : V} {d : D} (h : PE X e (tC v)) (hd : ∀ S, DAt G S v d) : PE X e (rdE G g Wx (mC d)) :=
  PE.imp h fun σ H Q ⟨w, env, st, hg, he, q⟩ => q w v H (Le.refl w) hg (hd w.S)
theorem se_int {i : Int} {j pos} : PE X (.Constant (.int i) j pos) (rdE G g Wx (mC (.int i))) := se_c pe_int fun _ => by unfold DAt; rfl
theorem se_bl {i : Bool} {j pos} : PE X (.Constant (.bool i) j pos) (rdE G g Wx (mC (.bl i))) := se_c pe_bl fun _ => by unfold DAt; rfl
theorem se_non {j pos} : PE X (.Constant .none j pos) (rdE G g Wx (mC .non)) := se_c pe_non fun _ => by unfold DAt; rfl
theorem se_str {x : Str} {l : List Nat} {j pos} (h : x = S2 l := by first | rfl | decide +kernel) : PE X (.Constant (.str x) j pos) (rdE G g Wx (mC (.str l))) := se_c pe_str fun _ => by unfold DAt; rw [h]
theorem se_v {e : Expr} {i : Nat} (h : PE X e (tVar i)) : PE X e (rdE G g Wx (mV i)) := PE.imp h fun σ H Q ⟨w, env, st, hg, he, q⟩ => by
  unfold mV at q
  cases e1 : env[i]? with
  | none => rw [e1] at q; exact (show False from q).elim
  | some o =>
    cases o with
    | none => rw [e1] at q; exact (show False from q).elim
    | some u =>
      rw [e1] at q
      obtain ⟨v, h1, h2⟩ := he.at_ i u e1
      exact ⟨v, h1, q w v H (Le.refl w) hg h2⟩
/-- an operation by value -/
abbrev O2 := U → U → Sto → R U
def mB (o : O2) (ma mb : ME) : ME := fun env st => (ma env st).bind fun x st1 => (mb env st1).bind fun y st2 => o x y st2
/-- the reading r serves the operation o -/
def Srv2 (G : GE) (g : GI) (Wx : WX) (r : R2) (o : O2) : Prop := ∀ w σ st H x y v u Q, Good G g w st H → UAt G w v x → UAt G w u y → Ok G g Wx (relU G) w σ (o x y st) Q → r v u H Q
theorem Srv2.tOp {r : R2} {o : O2} (s : Srv2 G g Wx r o) {σ : St} {H : Hp} {Q : VK} (h : rdE G g Wx (mB o ma mb) σ H Q) : tOp r (rdE G g Wx ma) (rdE G g Wx mb) σ H Q := by
  obtain ⟨w, env, st, hg, he, q⟩ := h
  refine ⟨w, env, st, hg, he, Ok.bind q fun x st1 w1 v H1 l1 g1 x1 q1 => ?_⟩
  refine ⟨w1, env, st1, g1, he.mono l1, Ok.bind q1 fun y st2 w2 u H2 l2 g2 y2 q2 => ?_⟩
  exact s w2 σ st2 H2 x y v u Q g2 (x1.mono l2) y2 q2
theorem se_op {op : Operator} {r : R2} {o : O2} (s : Srv2 G g Wx r o) (ho : OpR X (binaryOp op) r) (ha : PE X a (rdE G g Wx ma)) (hb : PE X b (rdE G g Wx mb)) : PE X (.BinOp a op b pos) (rdE G g Wx (mB o ma mb)) :=
  PE.imp (pe_op ho ha hb) fun _ _ _ h => s.tOp h
theorem se_cmp {op : CmpOp} {r : R2} {o : O2} (s : Srv2 G g Wx r o) (ho : OpR X (compareOp op) r) (ha : PE X a (rdE G g Wx ma)) (hb : PE X b (rdE G g Wx mb)) (hm : behindInMarks op b = false := by first | exact nomark _ | rfl) :
    PE X (.Compare a [op] [b] pos) (rdE G g Wx (mB o ma mb)) := PE.imp (pe_cmpR ho ha hb hm) fun _ _ _ h => s.tOp h
/-- a value that is a flag, as a test -/
def mF (m : ME) : MT := fun env st => (m env st).bind fun x st1 => match x with
  | .d (.bl b) => .ok b st1
  | _ => .bad
theorem rdT.flag {m : ME} {σ : St} {H : Hp} {Q : Bool → Hp → Prop} (h : rdT G g Wx (mF m) σ H Q) : rdE G g Wx m σ H fun x H' => ∃ k, x = .bl k ∧ Q k H' := by
  obtain ⟨w, env, st, hg, he, q⟩ := h
  refine ⟨w, env, st, hg, he, Ok.bind q fun x st1 w1 v H1 l1 g1 x1 q1 => ?_⟩
  cases x with
  | c k => exact (show False from q1).elim
  | x e => exact (show False from q1).elim
  | d x =>
    cases x with
    | bl b => exact ⟨b, x1, q1 w1 b H1 (Le.refl _) g1 rfl⟩
    | _ => exact (show False from q1).elim
theorem st_cmp {op : CmpOp} {r : R2} {o : O2} (s : Srv2 G g Wx r o) (ho : OpR X (compareOp op) r) (ha : PE X a (rdE G g Wx ma)) (hb : PE X b (rdE G g Wx mb)) (hm : behindInMarks op b = false := by first | exact nomark _ | rfl) :
    PT X (.Compare a [op] [b] pos) (rdT G g Wx (mF (mB o ma mb))) := PT.imp (pt_cmpR ho ha hb hm) fun _ _ _ h => by
  have h2 := rdT.flag h
  exact s.tOp h2
end
end LV

/-! LVc -/
set_option Elab.async false
set_option linter.all false
set_option maxRecDepth 100000
set_option maxHeartbeats 2000000
/-! LVc: views of values, arithmetic, comparisons, tests, plain statements. -/
namespace LV
open PySem L2

def unl : D → D
  | .dlk kvs => .dic kvs
  | d => d
def get (st : Sto) : U → Option D
  | .d x => some x
  | .c k => match st[k]? with
    | some (some d) => some (unl d)
    | _ => none
  | .x _ => none
/-- a value read by the heap of now -/
def VAt (G : GE) (S H : Hp) (v : V) : D → Prop
  | .tup ds => ∃ a vs, v = .ref a ∧ S a = some (.tup vs) ∧ DAts G S vs ds
  | .lst ds => ∃ a vs, v = .ref a ∧ H a = some (.lst vs) ∧ DAts G S vs ds
  | .lsx ds => ∃ a vs, v = .ref a ∧ SqL G.K H a vs ∧ DAts G S vs ds
  | .dic kvs => ∃ a es, v = .ref a ∧ Rd H a (dO G.w a es) ∧ DKs G S es kvs
  | .dlk _ => False
  | .obj c fs => ∃ a C dx gs, v = .ref a ∧ H a = some (.ins C dx gs) ∧ G.cls c = some C ∧ DFs G S gs fs
  | .non => v = .non
  | .bl b => v = .bl b
  | .int i => v = .int i
  | .str x => v = .str (S2 x)
theorem Good.view {G : GE} {g : GI} {w : W} {st : Sto} {H : Hp} (hg : Good G g w st H) {v : V} {u : U} {d : D} (h : UAt G w v u) (e : get st u = some d) : VAt G w.S H v d := by
  cases u with
  | d x =>
    cases e
    cases d with
    | lst ds => obtain ⟨a, vs, h1, h2, h3⟩ := h; exact ⟨a, vs, h1, hg.sub _ _ h2, h3⟩
    | lsx ds => obtain ⟨a, vs, h1, h2, h3⟩ := h; exact ⟨a, vs, h1, Ex.sl hg.sub h2, h3⟩
    | dic ds => obtain ⟨a, o, es, h1, h2, h3⟩ := h; exact ⟨a, es, h1, .inr ⟨o, hg.sub _ _ h2⟩, h3⟩
    | obj c fs => obtain ⟨a, C, dx, gs, h1, h2, h3, h4⟩ := h; exact ⟨a, C, dx, gs, h1, hg.sub _ _ h2, h3, h4⟩
    | _ => exact h
  | x _ => cases e
  | c k =>
    obtain ⟨p, hp, rfl⟩ := h
    unfold get at e
    cases q : st[k]? with
    | none => simp only [q] at e; cases e
    | some o =>
      cases o with
      | none => simp only [q] at e; cases e
      | some d0 =>
        simp only [q] at e
        cases e
        obtain ⟨_, hc⟩ := hg.cell k p d0 hp q
        cases d0 with
        | lst ds => obtain ⟨_, vs, h1, h2⟩ := hc; exact ⟨p, vs, rfl, h1, h2⟩
        | dic ds => obtain ⟨_, es, h1, h2⟩ := hc; exact ⟨p, es, rfl, .inl h1, h2⟩
        | dlk ds => obtain ⟨o, es, _, h1, h2⟩ := hc; exact ⟨p, es, rfl, .inr ⟨o, h1⟩, h2⟩
        | obj c fs => obtain ⟨_, C, dx, gs, h1, h2, h3⟩ := hc; exact ⟨p, C, dx, gs, rfl, h1, h2, h3⟩
        | _ => exact (show False from hc).elim

/-- an operation on what is read -/
abbrev OD := D → D → Option D
def lift2 (f : OD) : O2 := fun x y st => match get st x, get st y with
  | some a, some b => match f a b with
    | some d => .ok (.d d) st
    | none => .bad
  | _, _ => .bad
/-- what is wished of a value that was just reckoned, from the worlds S and H -/
def Fin (G : GE) (S H : Hp) (d : D) (Q : VK) : Prop := ∀ S' z H', Ex S S' → Ex H H' → Ex S' H' → (∀ b o, S' b = some o → S b = some o ∨ H b = none) → DAt G S' z d → Q z H'
theorem Fin.now {G : GE} {S H : Hp} {d : D} {Q : VK} {z : V} (e : Ex S H) (h : Fin G S H d Q) (q : DAt G S z d) : Q z H := h S z H (Same.refl _) (Same.refl _) e (fun _ _ x => .inl x) q
theorem Fin.int {G : GE} {S H : Hp} {i : Int} {Q : VK} (e : Ex S H) (h : Fin G S H (.int i) Q) : Q (.int i) H := h.now e (by unfold DAt; rfl)
theorem Fin.bl {G : GE} {S H : Hp} {i : Bool} {Q : VK} (e : Ex S H) (h : Fin G S H (.bl i) Q) : Q (.bl i) H := h.now e (by unfold DAt; rfl)
theorem Fin.str {G : GE} {S H : Hp} {x : List Nat} {Q : VK} (e : Ex S H) (h : Fin G S H (.str x) Q) : Q (.str (S2 x)) H := h.now e (by unfold DAt; rfl)
/-- a new thing that never changes -/
theorem Fin.new {G : GE} {S H : Hp} {d : D} {Q : VK} {p : Addr} {o : HO} (e : Ex S H) (h : Fin G S H d Q) (hp : H p = none) (q : DAt G (upd S p o) (.ref p) d) : Q (.ref p) (upd H p o) := by
  refine h (upd S p o) (.ref p) (upd H p o) (Ex.new (e.free hp)) (Ex.new hp) (fun b u hb => ?_) (fun b u hb => ?_) q
  · by_cases hbp : b = p
    · subst hbp; rw [upd_same] at hb ⊢; exact hb
    · rw [upd_ne hbp] at hb ⊢; exact e _ _ hb
  · by_cases hbp : b = p
    · subst hbp; exact .inr hp
    · rw [upd_ne hbp] at hb; exact .inl hb
theorem Fin.tup {G : GE} {S H : Hp} {ds : List D} {vs : List V} {Q : VK} {p : Addr} (e : Ex S H) (h : Fin G S H (.tup ds) Q) (hp : H p = none) (q : DAts G S vs ds) : Q (.ref p) (upd H p (.tup vs)) :=
  h.new e hp (by unfold DAt; exact ⟨p, vs, rfl, upd_same, DAts.mono (Ex.new (e.free hp)) ds q⟩)
theorem Fin.lst {G : GE} {S H : Hp} {ds : List D} {vs : List V} {Q : VK} {p : Addr} (e : Ex S H) (h : Fin G S H (.lst ds) Q) (hp : H p = none) (q : DAts G S vs ds) : Q (.ref p) (upd H p (.lst vs)) :=
  h.new e hp (by unfold DAt; exact ⟨p, vs, rfl, upd_same, DAts.mono (Ex.new (e.free hp)) ds q⟩)
/-- r serves f: by views -/
def SrvD (G : GE) (r : R2) (f : OD) : Prop := ∀ S H x y v u d (Q : VK), Ex S H → VAt G S H v x → VAt G S H u y → f x y = some d → Fin G S H d Q → r v u H Q
theorem Good.grow {G : GE} {g : GI} {w : W} {st : Sto} {H : Hp} (hg : Good G g w st H) {S' H' : Hp} (e1 : Ex w.S S') (e2 : Ex H H') (e3 : Ex S' H') (e4 : ∀ b o, S' b = some o → w.S b = some o ∨ H b = none) : Good G g ⟨S', w.ps, w.L, w.xo⟩ st H' where
  le := hg.le.trans ⟨e1, [], by simp⟩
  sub := e3
  subL := hg.subL.trans e2
  xo := hg.xo
  len := hg.len
  nd := hg.nd
  cell := fun k p d h1 h2 => by
    obtain ⟨c1, c2⟩ := hg.cell k p d h1 h2
    refine ⟨?_, (c2.mono e1).keep fun o e => e2 _ _ e⟩
    obtain ⟨o, ho⟩ := c2.there
    show S' p = none
    cases q : S' p with
    | none => rfl
    | some z =>
      rcases e4 p z q with r | r
      · rw [c1] at r; cases r
      · rw [ho] at r; cases r
  used := fun p hp => let ⟨o, ho⟩ := hg.used p hp; ⟨o, e2 _ _ ho⟩
  frame := fun b o h1 h2 => e2 _ _ (hg.frame b o h1 h2)
  newS := fun b o h1 => by
    rcases e4 b o h1 with r | r
    · exact hg.newS b o r
    · refine .inr (.inl ?_)
      cases q : g.H0 b with
      | none => rfl
      | some z =>
        by_cases hb : b ∈ g.w0.ps
        · obtain ⟨r1, e⟩ := hg.le.p
          obtain ⟨o', ho⟩ := hg.used b (by rw [e]; exact List.mem_append_left _ hb)
          rw [r] at ho; cases ho
        · rw [hg.frame b z q hb] at r; cases r
  newP := hg.newP
theorem Ok.fin {G : GE} {g : GI} {Wx : WX} {w : W} {σ : St} {st : Sto} {H : Hp} {d : D} {Q : VK} (hg : Good G g w st H) (h : Ok G g Wx (relU G) w σ (R.ok (U.d d) st) Q) : Fin G w.S H d Q := fun S' z H' l1 l2 l3 l4 l5 =>
  h ⟨S', w.ps, w.L, w.xo⟩ z H' ⟨l1, rfl, rfl, [], by simp⟩ (hg.grow l1 l2 l3 l4) l5
theorem SrvD.lift {G : GE} {g : GI} {Wx : WX} {r : R2} {f : OD} (s : SrvD G r f) : Srv2 G g Wx r (lift2 f) := by
  intro w σ st H x y v u Q hg hx hy h
  unfold lift2 at h
  cases e1 : get st x with
  | none => simp only [e1] at h; exact (show False from h).elim
  | some a =>
    cases e2 : get st y with
    | none => simp only [e1, e2] at h; exact (show False from h).elim
    | some b =>
      simp only [e1, e2] at h
      cases q : f a b with
      | none => simp only [q] at h; exact (show False from h).elim
      | some d =>
        simp only [q] at h
        exact s w.S H a b v u d Q hg.sub (hg.view hx e1) (hg.view hy e2) q (Ok.fin hg h)

/-! ### operators -/
def sizeL : Nat := 16777216
theorem sizeL_eq : sizeLine = sizeL := sizeLine_eq
theorem S2_add (x y : List Nat) : S2 x ++ S2 y = S2 (x ++ y) := by
  show (⟨x.toArray ++ y.toArray⟩ : Str) = ⟨(x ++ y).toArray⟩
  simp
theorem S2_len (x : List Nat) : (S2 x).length = x.length := by
  show x.toArray.size = x.length
  simp
theorem S2_inj {x y : List Nat} (h : S2 x = S2 y) : x = y := by
  have h2 := congrArg Str.cps h
  simpa using h2
theorem S2_cps (x : List Nat) : (S2 x).cps.toList = x := by simp
def dAdd : OD := fun a b => match a, b with
  | .int i, .int j => some (.int (i + j))
  | .str x, .str y => if x.length + y.length ≤ sizeL then some (.str (x ++ y)) else none
  | .tup x, .tup y => if x.length + y.length ≤ sizeL then some (.tup (x ++ y)) else none
  | .lst x, .lst y => if x.length + y.length ≤ sizeL then some (.lst (x ++ y)) else none
  | _, _ => none

theorem dAdd_serve {G : GE} {X : Cx} (hK : X.K = G.K) : ∃ r, OpR X (binaryOp .Add) r ∧ SrvD G r dAdd := by
  refine ⟨_, op_add.or (op_add_str.or (op_catA.or op_cat)), ?_⟩
  intro S H x y v u d Q e hx hy h f
  unfold dAdd at h
  cases x <;> cases y <;> simp only [reduceCtorEq] at h
  case int.int i j => cases h; exact .inl ⟨i, j, hx, hy, f.int e⟩
  case str.str x y =>
    split at h
    · rename_i hl
      cases h
      refine .inr (.inl ⟨_, _, hx, hy, by rw [S2_len, S2_len, sizeL_eq]; exact hl, ?_⟩)
      rw [S2_add]; exact f.str e
    · cases h
  case tup.tup x y =>
    split at h
    · rename_i hl
      cases h
      obtain ⟨a, vs, rfl, h1, h2⟩ := hx
      obtain ⟨b, us, rfl, h3, h4⟩ := hy
      refine .inr (.inr (.inl ⟨a, b, vs, us, rfl, rfl, by rw [hK]; exact Ex.st e (SqT.of h1), by rw [hK]; exact Ex.st e (SqT.of h3), by rw [h2.length, h4.length, sizeL_eq]; exact hl, fun hv => ?_, fun hv hu => ?_, fun _ _ p hp => f.tup e hp (h2.append h4)⟩))
      · subst hv
        cases x with
        | nil => exact f.now e ⟨b, us, rfl, h3, h4⟩
        | cons _ _ => obtain ⟨_, _, z, _⟩ := h2.inv; cases z
      · subst hu
        cases y with
        | nil => rw [List.append_nil] at f; exact f.now e ⟨a, vs, rfl, h1, h2⟩
        | cons _ _ => obtain ⟨_, _, z, _⟩ := h4.inv; cases z
    · cases h
  case lst.lst x y =>
    split at h
    · rename_i hl
      cases h
      obtain ⟨a, vs, rfl, h1, h2⟩ := hx
      obtain ⟨b, us, rfl, h3, h4⟩ := hy
      exact .inr (.inr (.inr ⟨a, b, vs, us, rfl, rfl, h1, h3, by rw [h2.length, h4.length, sizeL_eq]; exact hl, fun p hp => f.lst e hp (h2.append h4)⟩))
    · cases h

/-- ints alone -/
def dI (f : Int → Int → Option D) : OD := fun a b => match a, b with
  | .int i, .int j => f i j
  | _, _ => none
theorem dI_serve {G : GE} {C : Int → Int → Prop} {g : Int → Int → Int} {f : Int → Int → Option D} (hf : ∀ i j d, f i j = some d → C i j ∧ d = .int (g i j)) : SrvD G (rI C fun i j => .int (g i j)) (dI f) := by
  intro S H x y v u d Q e hx hy h q
  unfold dI at h
  cases x <;> cases y <;> simp only [reduceCtorEq] at h
  case int.int i j =>
    obtain ⟨hc, rfl⟩ := hf i j d h
    exact ⟨i, j, hx, hy, hc, q.int e⟩
theorem dI_serve0 {G : GE} {g : Int → Int → D} {g' : Int → Int → V} (hg : ∀ i j S, DAt G S (g' i j) (g i j)) : SrvD G (rI0 g') (dI fun i j => some (g i j)) := by
  intro S H x y v u d Q e hx hy h q
  unfold dI at h
  cases x <;> cases y <;> simp only [reduceCtorEq] at h
  case int.int i j =>
    cases h
    exact ⟨i, j, hx, hy, q.now e (hg i j S)⟩
def dSub : OD := dI fun i j => some (.int (i - j))
def mulOk (i j : Int) : Bool := decide (i.natAbs.log2 + j.natAbs.log2 < 1000000)
def divOk (j : Int) : Bool := decide (0 < j) && decide (j.natAbs.log2 < 9000)
def dDiv : OD := dI fun i j => if divOk j = true then some (.int (i / j)) else none
def dMod : OD := dI fun i j => if decide (0 < j) = true then some (.int (i % j)) else none
def powOk (i j : Int) : Bool := decide (0 ≤ j ∧ j ≤ 1000000 ∧ i.natAbs < 2 ^ 64)
def dPow : OD := dI fun i j => if powOk i j = true then some (.int (i ^ j.toNat)) else none
def dShl : OD := dI fun i j => if powOk i j = true then some (.int (i * 2 ^ j.toNat)) else none
def dShr : OD := dI fun i j => if decide (0 ≤ j) = true then some (.int (i / 2 ^ j.toNat)) else none
def dAnd : OD := dI fun i j => some (.int (Builtin.bitAnd i j))
section
variable {G : GE} {X : Cx}
theorem dSub_serve : ∃ r, OpR X (binaryOp .Sub) r ∧ SrvD G r dSub := ⟨_, op_sub, dI_serve0 fun _ _ _ => by unfold DAt; rfl⟩
theorem dDiv_serve : ∃ r, OpR X (binaryOp .FloorDiv) r ∧ SrvD G r dDiv := ⟨_, op_fdivW, dI_serve fun i j d h => by
  split at h
  · rename_i c; cases h
    unfold divOk at c
    rw [Bool.and_eq_true] at c
    exact ⟨⟨of_decide_eq_true c.1, of_decide_eq_true c.2⟩, rfl⟩
  · cases h⟩
theorem dMod_serve : ∃ r, OpR X (binaryOp .Mod) r ∧ SrvD G r dMod := ⟨_, op_mod, dI_serve fun i j d h => by
  split at h
  · rename_i c; cases h; exact ⟨of_decide_eq_true c, rfl⟩
  · cases h⟩
theorem dPow_serve : ∃ r, OpR X (binaryOp .Pow) r ∧ SrvD G r dPow := ⟨_, op_pow, dI_serve fun i j d h => by
  split at h
  · rename_i c; cases h; exact ⟨(show 0 ≤ j ∧ j ≤ 1000000 ∧ i.natAbs < 2 ^ 64 from of_decide_eq_true c), rfl⟩
  · cases h⟩
theorem dShl_serve : ∃ r, OpR X (binaryOp .LShift) r ∧ SrvD G r dShl := ⟨_, op_shl, dI_serve fun i j d h => by
  split at h
  · rename_i c; cases h; exact ⟨(show 0 ≤ j ∧ j ≤ 1000000 ∧ i.natAbs < 2 ^ 64 from of_decide_eq_true c), rfl⟩
  · cases h⟩
theorem dShr_serve : ∃ r, OpR X (binaryOp .RShift) r ∧ SrvD G r dShr := ⟨_, op_shr, dI_serve fun i j d h => by
  split at h
  · rename_i c; cases h; exact ⟨of_decide_eq_true c, rfl⟩
  · cases h⟩
theorem dAnd_serve : ∃ r, OpR X (binaryOp .BitAnd) r ∧ SrvD G r dAnd := ⟨_, op_and, dI_serve0 fun _ _ _ => by unfold DAt; rfl⟩
end
end LV

/-! LVd -/
set_option Elab.async false
set_option linter.all false
set_option maxRecDepth 100000
set_option maxHeartbeats 2000000
/-! LVd: products, comparisons, in, is. -/
namespace LV
open PySem L2

/-! ### products -/
def rMulStr : R2 := fun x y H Q => ∃ (z : Str) (n : Int), x = .str z ∧ y = .int n ∧ PySem.MulOk z n ∧ Q (.str (PySem.Txt.mul z n)) H
theorem op_mulStr {X : Cx} : OpR X (binaryOp .Mult) rMulStr := by
  intro pins s σ H x y v u Q I rx ry h
  obtain ⟨z, n, rfl, rfl, hok, q⟩ := h
  obtain ⟨t, rfl⟩ := rx
  obtain ⟨t', rfl⟩ := ry
  exact PySem.SB.mul hok fun t2 k => ⟨.str _, H, I.tok _, ⟨_, rfl⟩, q⟩
theorem foldl_reps (l : List Nat) : ∀ (n : Nat) (acc : Array Nat), (List.replicate n l.toArray).foldl (· ++ ·) acc = acc ++ ((List.replicate n l).flatten).toArray
  | 0, acc => by simp
  | n + 1, acc => by
    rw [List.replicate_succ, List.foldl_cons, foldl_reps l n, List.replicate_succ, List.flatten_cons]
    simp
theorem mul_S2 (x : List Nat) (n : Int) : PySem.Txt.mul (S2 x) n = S2 ((List.replicate n.toNat x).flatten) := by
  unfold PySem.Txt.mul
  by_cases h1 : n < 1
  · rw [if_pos h1, show n.toNat = 0 by omega]
    rfl
  · rw [if_neg h1]
    by_cases h2 : (n == 1 || (S2 x).length == 0) = true
    · rw [if_pos h2]
      rw [Bool.or_eq_true] at h2
      rcases h2 with h2 | h2
      · have : n = 1 := by simpa using h2
        subst this
        simp
      · have hx : x.length = 0 := by rw [← S2_len]; simpa using h2
        have hx2 : x = [] := List.eq_nil_of_length_eq_zero hx
        subst hx2
        simp
    · rw [if_neg h2]
      have := foldl_reps x n.toNat #[]
      show (⟨_⟩ : Str) = ⟨_⟩
      congr 1
      simpa using this
theorem tooLong_no {n : Nat} (h : n ≤ sizeL) : Builtin.Str.tooLong n = false := by
  unfold Builtin.Str.tooLong
  rw [sizeL_eq]
  exact decide_eq_false (by omega)
def dMul : OD := fun a b => match a, b with
  | .int i, .int j => if mulOk i j = true then some (.int (i * j)) else none
  | .str x, .int n => if decide (x.length * n.toNat ≤ sizeL) && decide (-1000000000000 ≤ n ∧ n ≤ 1000000000000) then some (.str (List.replicate n.toNat x).flatten) else none
  | .lst x, .int n => if decide (x.length * n.toNat ≤ sizeL) && decide (-1000000000000 ≤ n ∧ n ≤ 1000000000000) then some (.lst (List.replicate n.toNat x).flatten) else none
  | _, _ => none
theorem DAts.rep {G : GE} {S : Hp} {vs : List V} {ds : List D} (h : DAts G S vs ds) : ∀ k : Nat, DAts G S (List.replicate k vs).flatten (List.replicate k ds).flatten
  | 0 => by simp; exact .nil
  | k + 1 => by
    rw [List.replicate_succ, List.flatten_cons, List.replicate_succ, List.flatten_cons]
    exact h.append (h.rep k)

theorem repflat_len {α : Type} (xs : List α) (k : Nat) : (List.replicate k xs).flatten.length = xs.length * k := by
  induction k with
  | zero => simp
  | succ k ih => rw [List.replicate_succ, List.flatten_cons, List.length_append, ih, Nat.mul_succ]; omega
theorem dMul_serve {G : GE} {X : Cx} : ∃ r, OpR X (binaryOp .Mult) r ∧ SrvD G r dMul := by
  refine ⟨_, op_mulW.or (op_mulStr.or op_rep), ?_⟩
  intro S H x y v u d Q e hx hy h f
  unfold dMul at h
  cases x <;> cases y <;> simp only [reduceCtorEq] at h
  case int.int i j =>
    split at h
    · rename_i c
      cases h
      exact .inl ⟨i, j, hx, hy, (show i.natAbs.log2 + j.natAbs.log2 < 1000000 from of_decide_eq_true c), f.int e⟩
    · cases h
  case str.int x n =>
    split at h
    · rename_i c
      cases h
      rw [Bool.and_eq_true] at c
      have c1 := of_decide_eq_true c.1
      have c2 := of_decide_eq_true c.2
      refine .inr (.inl ⟨S2 x, n, hx, hy, ⟨?_, fun h1 h2 => ?_, fun h1 h2 => ?_⟩, ?_⟩)
      · rw [Bool.or_eq_false_iff]
        exact ⟨decide_eq_false (by omega), decide_eq_false (by omega)⟩
      · rw [S2_len]
        intro z
        have e1 : (2 ^ 63 - 1 : Int) / n ≥ (2 ^ 63 - 1) / 1000000000000 := by
          apply Int.le_ediv_of_mul_le (by omega)
          have : (2 ^ 63 - 1 : Int) / 1000000000000 * n ≤ (2 ^ 63 - 1) / 1000000000000 * 1000000000000 := Int.mul_le_mul_of_nonneg_left (by omega) (by decide)
          have e2 : ((2 ^ 63 - 1 : Int) / 1000000000000) * 1000000000000 ≤ 2 ^ 63 - 1 := by decide
          omega
        have e3 : ((2 ^ 63 - 1 : Int) / 1000000000000) = 9223372 := by decide
        rw [e3] at e1
        by_cases hn : n.toNat ≤ 1
        · have : n = 1 := by omega
          subst this
          simp at h2
        · have hx2 : x.length ≤ x.length * n.toNat := Nat.le_mul_of_pos_right _ (by omega)
          have hx3 : x.length * 2 ≤ x.length * n.toNat := Nat.mul_le_mul_left _ (by omega)
          unfold sizeL at c1
          omega
      · rw [S2_len]; exact tooLong_no c1
      · rw [mul_S2]; exact f.str e
    · cases h
  case lst.int x n =>
    split at h
    · rename_i c
      cases h
      rw [Bool.and_eq_true] at c
      have c1 := of_decide_eq_true c.1
      have c2 := of_decide_eq_true c.2
      obtain ⟨a, vs, rfl, h1, h2⟩ := hx
      exact .inr (.inr ⟨a, n, vs, rfl, hy, h1, by omega, by omega, by rw [h2.length, sizeL_eq]; exact c1, fun p hp => f.lst e hp (h2.rep _)⟩)
    · cases h

/-! ### equality by data -/
mutual
def pd : D → PyData
  | .non => .none
  | .bl b => .bool b
  | .int i => .int i
  | .str x => .str (S2 x)
  | .tup xs => .tuple (pds xs)
  | .lst xs => .list (pds xs)
  | .lsx xs => .list (pds xs)
  | .dic _ => .dict []
  | .dlk _ => .dict []
  | .obj _ _ => .dict []
def pds : List D → List PyData
  | [] => []
  | x :: xs => pd x :: pds xs
end
mutual
def plain : D → Bool
  | .tup xs => plains xs
  | .lst xs => plains xs
  | .lsx xs => plains xs
  | .dic _ => false
  | .obj _ _ => false
  | _ => true
def plains : List D → Bool
  | [] => true
  | x :: xs => plain x && plains xs
end
theorem DAt.lift {G : GE} {S H : Hp} (e : Ex S H) {v : V} {d : D} (h : DAt G S v d) : DAt G H v d := DAt.mono e d h
mutual
theorem DAt.dp {G : GE} {H : Hp} : ∀ (d : D) (v : V), plain d = true → DAt G H v d → Dp G.K H v (pd d)
  | .non, _, _, h => by cases (show _ = V.non from h); exact .non
  | .bl b, _, _, h => by cases (show _ = V.bl b from h); exact .bl b
  | .int i, _, _, h => by cases (show _ = V.int i from h); exact .int i
  | .str x, _, _, h => by cases (show _ = V.str (S2 x) from h); exact .str _
  | .tup ds, _, q, h => by
    obtain ⟨a, vs, rfl, h1, h2⟩ := h
    exact .tup (SqT.of h1) (DAts.dp ds vs q h2)
  | .lst ds, _, q, h => by
    obtain ⟨a, vs, rfl, h1, h2⟩ := h
    exact .lst (SqL.of h1) (DAts.dp ds vs q h2)
  | .lsx ds, _, q, h => by
    obtain ⟨a, vs, rfl, h1, h2⟩ := h
    exact .lst h1 (DAts.dp ds vs q h2)
  | .dic _, _, q, _ => by cases q
  | .obj _ _, _, q, _ => by cases q
theorem DAts.dp {G : GE} {H : Hp} : ∀ (ds : List D) (vs : List V), plains ds = true → DAts G H vs ds → DpAll G.K H vs (pds ds)
  | [], _, _, h => by rw [h.inv0]; exact .nil
  | d :: ds, _, q, h => by
    obtain ⟨v, r, rfl, h1, h2⟩ := h.inv
    have q' : (plain d && plains ds) = true := q
    rw [Bool.and_eq_true] at q'
    exact .cons (DAt.dp d v q'.1 h1) (DAts.dp ds r q'.2 h2)
end
theorem VAt.at_H {G : GE} {S H : Hp} (e : Ex S H) {v : V} {d : D} (q : plain d = true) (h : VAt G S H v d) : DAt G H v d := by
  cases d with
  | tup ds => obtain ⟨a, vs, h1, h2, h3⟩ := h; exact ⟨a, vs, h1, e _ _ h2, DAts.mono e _ h3⟩
  | lst ds => obtain ⟨a, vs, h1, h2, h3⟩ := h; exact ⟨a, vs, h1, h2, DAts.mono e _ h3⟩
  | lsx ds => obtain ⟨a, vs, h1, h2, h3⟩ := h; exact ⟨a, vs, h1, h2, DAts.mono e _ h3⟩
  | dic _ => cases q
  | obj _ _ => cases q
  | _ => exact h
theorem VAt.dp {G : GE} {S H : Hp} (e : Ex S H) {v : V} {d : D} (q : plain d = true) (h : VAt G S H v d) : Dp G.K H v (pd d) := DAt.dp d v q (h.at_H e q)
def shp (d : D) : Bool := plain d && SeqAt.shaped (pd d)
def deq (a b : D) : Bool := PyData.eqv (pd a) (pd b)
def dEq : OD := fun a b => match a, b with
  | .str x, .str y => some (.bl (decide (x = y)))
  | a, b => if shp a && shp b then some (.bl (deq a b)) else none
def dNe : OD := fun a b => match a, b with
  | .str x, .str y => some (.bl (!decide (x = y)))
  | a, b => if shp a && shp b then some (.bl (!deq a b)) else none
theorem dec_S2 (x y : List Nat) : decide (V.str (S2 x) = V.str (S2 y)) = decide (x = y) := by
  by_cases h : x = y
  · subst h; simp
  · have : ¬ V.str (S2 x) = V.str (S2 y) := fun z => h (S2_inj (V.str.inj z))
    rw [decide_eq_false h, decide_eq_false this]
section
variable {G : GE} {X : Cx}
theorem dEq_serve (hK : X.K = G.K) (hu : X.A.units + 64 < cLine) : ∃ r, OpR X (compareOp .Eq) r ∧ SrvD G r dEq := by
  refine ⟨_, op_eq.or (op_eqD hu), ?_⟩
  intro S H x y v u d Q e hx hy h f
  have gen : (if shp x && shp y then some (D.bl (deq x y)) else none) = some d → rEq v u H Q ∨ rEqD X.K v u H Q := fun h => by
    split at h
    · rename_i c
      cases h
      rw [Bool.and_eq_true] at c
      have c1 : (plain x && SeqAt.shaped (pd x)) = true := c.1
      have c2 : (plain y && SeqAt.shaped (pd y)) = true := c.2
      rw [Bool.and_eq_true] at c1 c2
      refine .inr ⟨pd x, pd y, ?_, ?_, c1.2, c2.2, f.bl e⟩
      · rw [hK]; exact hx.dp e c1.1
      · rw [hK]; exact hy.dp e c2.1
    · cases h
  cases x with
  | str a =>
    cases y with
    | str b =>
      cases h
      cases (show v = V.str (S2 a) from hx)
      cases (show u = V.str (S2 b) from hy)
      exact .inl ⟨rfl, by rw [dec_S2]; exact f.bl e⟩
    | _ => exact gen h
  | _ => exact gen h
theorem dNe_serve (hK : X.K = G.K) (hu : X.A.units + 64 < cLine) : ∃ r, OpR X (compareOp .NotEq) r ∧ SrvD G r dNe := by
  refine ⟨_, op_ne.or (op_neD hu), ?_⟩
  intro S H x y v u d Q e hx hy h f
  have gen : (if shp x && shp y then some (D.bl (!deq x y)) else none) = some d → rNe v u H Q ∨ rNeD X.K v u H Q := fun h => by
    split at h
    · rename_i c
      cases h
      rw [Bool.and_eq_true] at c
      have c1 : (plain x && SeqAt.shaped (pd x)) = true := c.1
      have c2 : (plain y && SeqAt.shaped (pd y)) = true := c.2
      rw [Bool.and_eq_true] at c1 c2
      refine .inr ⟨pd x, pd y, ?_, ?_, c1.2, c2.2, f.bl e⟩
      · rw [hK]; exact hx.dp e c1.1
      · rw [hK]; exact hy.dp e c2.1
    · cases h
  cases x with
  | str a =>
    cases y with
    | str b =>
      cases h
      cases (show v = V.str (S2 a) from hx)
      cases (show u = V.str (S2 b) from hy)
      exact .inl ⟨rfl, by rw [dec_S2]; exact f.bl e⟩
    | _ => exact gen h
  | _ => exact gen h
/-! order -/
def dCmpIS (f : Int → Int → Bool) (g : List Nat → List Nat → Bool) : OD := fun a b => match a, b with
  | .int i, .int j => some (.bl (f i j))
  | .str x, .str y => some (.bl (g x y))
  | _, _ => none
def dLt : OD := dCmpIS (fun i j => decide (i < j)) (fun x y => decide (x < y))
def dLe : OD := dCmpIS (fun i j => decide (i ≤ j)) (fun x y => !decide (y < x))
def dGt : OD := dCmpIS (fun i j => decide (j < i)) (fun x y => decide (y < x))
def dGe : OD := dCmpIS (fun i j => decide (j ≤ i)) (fun x y => !decide (x < y))
theorem cmpIS {f : Int → Int → Bool} {g : List Nat → List Nat → Bool} {r2 : R2} (h2 : ∀ (x y : List Nat) H (Q : VK), Q (.bl (g x y)) H → r2 (.str (S2 x)) (.str (S2 y)) H Q) :
    SrvD G (fun x y H Q => rI0 (fun i j => .bl (f i j)) x y H Q ∨ r2 x y H Q) (dCmpIS f g) := by
  intro S H x y v u d Q e hx hy h q
  unfold dCmpIS at h
  cases x <;> cases y <;> simp only [reduceCtorEq] at h
  case int.int i j => cases h; exact .inl ⟨i, j, hx, hy, q.bl e⟩
  case str.str i j =>
    cases h
    cases (show v = V.str (S2 i) from hx)
    cases (show u = V.str (S2 j) from hy)
    exact .inr (h2 i j H Q (q.bl e))
theorem dLt_serve : ∃ r, OpR X (compareOp .Lt) r ∧ SrvD G r dLt := ⟨_, op_lt.or op_lt_str, cmpIS fun x y H Q q => ⟨_, _, rfl, rfl, by rw [S2_cps, S2_cps]; exact q⟩⟩
theorem dLe_serve : ∃ r, OpR X (compareOp .LtE) r ∧ SrvD G r dLe := ⟨_, op_le.or op_le_str, cmpIS fun x y H Q q => ⟨_, _, rfl, rfl, by rw [S2_cps, S2_cps]; exact q⟩⟩
theorem dGt_serve : ∃ r, OpR X (compareOp .Gt) r ∧ SrvD G r dGt := ⟨_, op_gt.or op_gt_str, cmpIS fun x y H Q q => ⟨_, _, rfl, rfl, by rw [S2_cps, S2_cps]; exact q⟩⟩
theorem dGe_serve : ∃ r, OpR X (compareOp .GtE) r ∧ SrvD G r dGe := ⟨_, op_ge.or op_ge_str, cmpIS fun x y H Q q => ⟨_, _, rfl, rfl, by rw [S2_cps, S2_cps]; exact q⟩⟩
/-! in -/
def isIn (x : D) (ys : List D) : Bool := ys.any fun y => deq y x
theorem pds_any (x : PyData) : ∀ ys : List D, (pds ys).any (fun z => PyData.eqv z x) = ys.any fun y => PyData.eqv (pd y) x
  | [] => rfl
  | y :: ys => by
    show (PyData.eqv (pd y) x || (pds ys).any _) = _
    rw [pds_any x ys]
    rfl
def dInB : D → D → Option Bool := fun a b => match a, b with
  | .str [c], .str y => some (decide (c ∈ y))
  | a, .lst ys => if shp a && shp (.lst ys) then some (isIn a ys) else none
  | a, .lsx ys => if shp a && shp (.lsx ys) then some (isIn a ys) else none
  | _, _ => none
def dIn : OD := fun a b => (dInB a b).map D.bl
def dNotIn : OD := fun a b => (dInB a b).map fun x => D.bl (!x)
theorem in_gen (hK : X.K = G.K) {x : D} {b : Bool} {S H : Hp} {v u : V} {ys : List D} (e : Ex S H) (hx : VAt G S H v x) (hy : Dp X.K H u (.list (pds ys))) (q : SeqAt.shaped (.list (pds ys)) = true) (h : (if shp x && true then some (isIn x ys) else none) = some b) :
    ∃ d ds, Dp X.K H v d ∧ Dp X.K H u (.list ds) ∧ SeqAt.shaped d = true ∧ SeqAt.shaped (.list ds) = true ∧ b = ds.any fun z => PyData.eqv z d := by
  split at h
  · rename_i c
    rw [Bool.and_true] at c
    have c1 : (plain x && SeqAt.shaped (pd x)) = true := c
    rw [Bool.and_eq_true] at c1
    cases h
    exact ⟨pd x, pds ys, by rw [hK]; exact hx.dp e c1.1, hy, c1.2, q, by rw [pds_any]; rfl⟩
  · cases h
theorem dInB_ok (hK : X.K = G.K) {S H : Hp} {x y : D} {v u : V} {b : Bool} (e : Ex S H) (hx : VAt G S H v x) (hy : VAt G S H u y) (h : dInB x y = some b) :
    (∃ (c : Nat) (z : Str), v = .str ⟨#[c]⟩ ∧ u = .str z ∧ b = decide (c ∈ z.cps.toList)) ∨
    ∃ d ds, Dp X.K H v d ∧ Dp X.K H u (.list ds) ∧ SeqAt.shaped d = true ∧ SeqAt.shaped (.list ds) = true ∧ b = ds.any fun z => PyData.eqv z d := by
  unfold dInB at h
  split at h
  · rename_i c z
    cases h
    exact .inl ⟨c, S2 z, hx, hy, by rw [S2_cps]⟩
  · rename_i ys
    refine .inr ?_
    by_cases c : shp (.lst ys) = true
    · have c1 : (plain (.lst ys) && SeqAt.shaped (pd (.lst ys))) = true := c
      rw [Bool.and_eq_true] at c1
      rw [c] at h
      exact in_gen hK e hx (by rw [hK]; exact hy.dp e c1.1) c1.2 h
    · rw [Bool.not_eq_true _ |>.mp c, Bool.and_false] at h
      cases h
  · rename_i ys
    refine .inr ?_
    by_cases c : shp (.lsx ys) = true
    · have c1 : (plain (.lsx ys) && SeqAt.shaped (pd (.lsx ys))) = true := c
      rw [Bool.and_eq_true] at c1
      rw [c] at h
      exact in_gen hK e hx (by rw [hK]; exact hy.dp e c1.1) c1.2 h
    · rw [Bool.not_eq_true _ |>.mp c, Bool.and_false] at h
      cases h
  · cases h
theorem dIn_serve (hK : X.K = G.K) (hu : X.A.units + 65 < cLine) : ∃ r, OpR X (compareOp .In) r ∧ SrvD G r dIn := by
  refine ⟨_, op_in_sign.or (op_inD hu), ?_⟩
  intro S H x y v u d Q e hx hy h f
  unfold dIn at h
  obtain ⟨b, hb, rfl⟩ := Option.map_eq_some_iff.mp h
  rcases dInB_ok (X := X) hK e hx hy hb with ⟨c, z, h1, h2, h3⟩ | ⟨d, ds, h1, h2, h3, h4, h5⟩
  · subst h3; exact .inl ⟨c, z, h1, h2, f.bl e⟩
  · subst h5; exact .inr ⟨d, ds, h1, h2, h3, h4, f.bl e⟩
theorem dNotIn_serve (hK : X.K = G.K) (hu : X.A.units + 65 < cLine) : ∃ r, OpR X (compareOp .NotIn) r ∧ SrvD G r dNotIn := by
  refine ⟨_, op_notIn_sign.or (op_notInD hu), ?_⟩
  intro S H x y v u d Q e hx hy h f
  unfold dNotIn at h
  obtain ⟨b, hb, rfl⟩ := Option.map_eq_some_iff.mp h
  rcases dInB_ok (X := X) hK e hx hy hb with ⟨c, z, h1, h2, h3⟩ | ⟨d, ds, h1, h2, h3, h4, h5⟩
  · subst h3; exact .inl ⟨c, z, h1, h2, f.bl e⟩
  · subst h5; exact .inr ⟨d, ds, h1, h2, h3, h4, f.bl e⟩
/-! is None -/
def isNon : D → Bool
  | .non => true
  | _ => false
def dIsN : OD := fun a b => match b with
  | .non => some (.bl (isNon a))
  | _ => none
def dIsNotN : OD := fun a b => match b with
  | .non => some (.bl (!isNon a))
  | _ => none
theorem VAt.non_iff {S H : Hp} {v : V} {d : D} (h : VAt G S H v d) : decide (v = .non) = isNon d := by
  cases d with
  | non => cases (show v = V.non from h); rfl
  | bl b => cases (show v = V.bl b from h); rfl
  | int b => cases (show v = V.int b from h); rfl
  | str b => cases (show v = V.str (S2 b) from h); rfl
  | tup ds => obtain ⟨a, vs, rfl, _⟩ := h; rfl
  | lst ds => obtain ⟨a, vs, rfl, _⟩ := h; rfl
  | lsx ds => obtain ⟨a, vs, rfl, _⟩ := h; rfl
  | dic ds => obtain ⟨a, vs, rfl, _⟩ := h; rfl
  | dlk ds => exact (show False from h).elim
  | obj c ds => obtain ⟨a, C, dx, gs, rfl, _⟩ := h; rfl
theorem dIsN_serve : ∃ r, OpR X (compareOp .Is) r ∧ SrvD G r dIsN := by
  refine ⟨_, op_isN, ?_⟩
  intro S H x y v u d Q e hx hy h f
  unfold dIsN at h
  cases y <;> simp only [reduceCtorEq] at h
  cases h
  exact ⟨hy, by rw [hx.non_iff]; exact f.bl e⟩
theorem dIsNotN_serve : ∃ r, OpR X (compareOp .IsNot) r ∧ SrvD G r dIsNotN := by
  refine ⟨_, op_notN, ?_⟩
  intro S H x y v u d Q e hx hy h f
  unfold dIsNotN at h
  cases y <;> simp only [reduceCtorEq] at h
  cases h
  exact ⟨hy, by rw [hx.non_iff]; exact f.bl e⟩
end
end LV

/-! LVe -/
set_option Elab.async false
set_option linter.all false
set_option maxRecDepth 100000
set_option maxHeartbeats 2000000
/-! LVe: tests, displays, plain statements, loops. -/
namespace LV
open PySem L2
section
variable {X : Cx} {G : GE} {g : GI} {Wx : WX} {pos : Pos} {a b : Expr} {rest : List Expr}

/-! ### code that is not come to -/
def mBad : ME := fun _ _ => .bad
def tBad : MT := fun _ _ => .bad
def sBad : MS := fun _ _ => .bad
theorem se_bad {e : Expr} : PE X e (rdE G g Wx mBad) := ⟨fun _ _ _ _ _ _ ⟨_, _, _, _, _, q⟩ => (show False from q).elim⟩
theorem st_bad {e : Expr} : PT X e (rdT G g Wx tBad) := ⟨fun _ _ _ _ _ _ ⟨_, _, _, _, _, q⟩ => (show False from q).elim⟩
theorem ss_bad {e : Stmt} : PS X e (rdS G g Wx sBad) := ⟨fun _ _ _ _ _ _ ⟨_, _, _, _, _, q⟩ => (show False from q).elim⟩
theorem sss_bad {e : List Stmt} : PSs X e (rdS G g Wx sBad) := ⟨fun _ _ _ _ _ _ ⟨_, _, _, _, _, q⟩ => (show False from q).elim⟩

/-! ### tests -/
def tru : D → Option Bool
  | .non => some false
  | .bl b => some b
  | .int i => some (i != 0)
  | .str x => if x.length ≤ sizeL then some (!x.isEmpty) else none
  | .tup x => some (!x.isEmpty)
  | .lst x => some (!x.isEmpty)
  | .lsx x => some (!x.isEmpty)
  | _ => none
def tTr (m : ME) : MT := fun env st => (m env st).bind fun u st1 => match get st1 u with
  | some d => match tru d with
    | some b => .ok b st1
    | none => .bad
  | none => .bad
theorem DAts.isEmpty {S : Hp} {vs : List V} {ds : List D} (h : DAts G S vs ds) : vs.isEmpty = ds.isEmpty := by
  cases ds with
  | nil => rw [h.inv0]; rfl
  | cons d ds => obtain ⟨v, r, rfl, _⟩ := h.inv; rfl
theorem VAt.tru {S H : Hp} {v : V} {d : D} {k : Bool} (hK : X.K = G.K) (e : Ex S H) (h : VAt G S H v d) (q : tru d = some k) : TruV X.K v H k := by
  cases d with
  | non => cases (show v = V.non from h); cases q; rfl
  | bl b => cases (show v = V.bl b from h); cases q; rfl
  | int b => cases (show v = V.int b from h); cases q; rfl
  | str b =>
    cases (show v = V.str (S2 b) from h)
    have q : (if b.length ≤ sizeL then some (!b.isEmpty) else none) = some k := q
    split at q
    · rename_i hl
      cases q
      refine ⟨by rw [S2_len, sizeL_eq]; exact hl, ?_⟩
      rw [S2_len]
      cases b with
      | nil => rfl
      | cons z zs => simp; omega
    · cases q
  | tup ds =>
    obtain ⟨a, vs, rfl, h1, h2⟩ := h
    cases q
    exact .inr (.inl ⟨vs, by rw [hK]; exact Ex.st e (SqT.of h1), by rw [h2.isEmpty]⟩)
  | lst ds =>
    obtain ⟨a, vs, rfl, h1, h2⟩ := h
    cases q
    exact .inl ⟨vs, SqL.of h1, by rw [h2.isEmpty]⟩
  | lsx ds =>
    obtain ⟨a, vs, rfl, h1, h2⟩ := h
    cases q
    exact .inl ⟨vs, by rw [hK]; exact h1, by rw [h2.isEmpty]⟩
  | dic ds => cases q
  | dlk ds => cases q
  | obj c ds => cases q
theorem st_tru {m : ME} (hK : X.K = G.K) (ha : PE X a (rdE G g Wx m)) (he : ∀ whole, isTrue a X.env whole = (do let v ← whole; standAt a.pos; holding [v] (truthy v)) := by intro _; rfl) : PT X a (rdT G g Wx (tTr m)) :=
  PT.imp (pt_truth ha he) fun σ H Q ⟨w, env, st, hg, hen, q⟩ => by
    refine ⟨w, env, st, hg, hen, Ok.bind q fun u st1 w1 v H1 l1 g1 x1 q1 => ?_⟩
    cases e1 : get st1 u with
    | none => simp only [e1] at q1; exact (show False from q1).elim
    | some d =>
      simp only [e1] at q1
      cases e2 : tru d with
      | none => simp only [e2] at q1; exact (show False from q1).elim
      | some k =>
        simp only [e2] at q1
        exact ⟨k, VAt.tru hK g1.sub (g1.view x1 e1) e2, q1 w1 k H1 (Le.refl _) g1 rfl⟩
def tAn (a b : MT) : MT := fun env st => (a env st).bind fun x st1 => if x = true then b env st1 else .ok false st1
def tOr' (a b : MT) : MT := fun env st => (a env st).bind fun x st1 => if x = true then .ok true st1 else b env st1
def tNo (a : MT) : MT := fun env st => (a env st).bind fun x st1 => .ok (!x) st1
theorem st_not {m : MT} (ha : PT X a (rdT G g Wx m)) : PT X (.UnaryOp .Not a pos) (rdT G g Wx (tNo m)) := PT.imp (pt_not ha) fun σ H Q ⟨w, env, st, hg, hen, q⟩ =>
  ⟨w, env, st, hg, hen, Ok.bind q fun x st1 w1 v H1 l1 g1 x1 q1 => by cases x1; exact q1 w1 _ H1 (Le.refl _) g1 rfl⟩
theorem sw_and1 {m : MT} (ha : PT X a (rdT G g Wx m)) : PW X (.BoolOp .And [a] pos) (rdT G g Wx m) := pw_and1 ha
theorem sw_or1 {m : MT} (ha : PT X a (rdT G g Wx m)) : PW X (.BoolOp .Or [a] pos) (rdT G g Wx m) := pw_or1 ha
theorem sw_and {m n : MT} (ha : PT X a (rdT G g Wx m)) (hb : PW X (.BoolOp .And (b :: rest) pos) (rdT G g Wx n)) : PW X (.BoolOp .And (a :: b :: rest) pos) (rdT G g Wx (tAn m n)) :=
  PW.imp (pw_and ha hb) fun σ H Q ⟨w, env, st, hg, hen, q⟩ => by
    refine ⟨w, env, st, hg, hen, Ok.bind q fun x st1 w1 v H1 l1 g1 x1 q1 => ?_⟩
    cases x1
    cases x with
    | true => exact ⟨w1, env, st1, g1, hen.mono l1, q1⟩
    | false => exact q1 w1 _ H1 (Le.refl _) g1 rfl
theorem sw_or {m n : MT} (ha : PT X a (rdT G g Wx m)) (hb : PW X (.BoolOp .Or (b :: rest) pos) (rdT G g Wx n)) : PW X (.BoolOp .Or (a :: b :: rest) pos) (rdT G g Wx (tOr' m n)) :=
  PW.imp (pw_or ha hb) fun σ H Q ⟨w, env, st, hg, hen, q⟩ => by
    refine ⟨w, env, st, hg, hen, Ok.bind q fun x st1 w1 v H1 l1 g1 x1 q1 => ?_⟩
    cases x1
    cases x with
    | true => exact q1 w1 _ H1 (Le.refl _) g1 rfl
    | false => exact ⟨w1, env, st1, g1, hen.mono l1, q1⟩
theorem sw_pt {e : Expr} {m : MT} (h : PW X e (rdT G g Wx m)) : PT X e (rdT G g Wx m) := h.pt

/-! ### and, or, not as values -/
def vAn (a b : ME) : ME := fun env st => (a env st).bind fun x st1 => match x with
  | .d (.bl true) => b env st1
  | .d (.bl false) => .ok (.d (.bl false)) st1
  | _ => .bad
def vOr (a b : ME) : ME := fun env st => (a env st).bind fun x st1 => match x with
  | .d (.bl true) => .ok (.d (.bl true)) st1
  | .d (.bl false) => b env st1
  | _ => .bad
def vNo (a : ME) : ME := fun env st => (a env st).bind fun x st1 => match x with
  | .d (.bl b) => .ok (.d (.bl (!b))) st1
  | _ => .bad
theorem sv_one {op} {m : ME} (h : PE X a (rdE G g Wx m)) : PE X (.BoolOp op [a] pos) (rdE G g Wx m) := pe_one h
theorem sv_and {m n : ME} (ha : PE X a (rdE G g Wx m)) (hb : PE X (.BoolOp .And (b :: rest) pos) (rdE G g Wx n)) : PE X (.BoolOp .And (a :: b :: rest) pos) (rdE G g Wx (vAn m n)) :=
  PE.imp (pe_and ha hb) fun σ H Q ⟨w, env, st, hg, hen, q⟩ => by
    refine ⟨w, env, st, hg, hen, Ok.bind q fun x st1 w1 v H1 l1 g1 x1 q1 => ?_⟩
    split at q1
    · exact ⟨true, x1, ⟨w1, env, st1, g1, hen.mono l1, q1⟩⟩
    · exact ⟨false, x1, q1 w1 _ H1 (Le.refl _) g1 rfl⟩
    · exact (show False from q1).elim
theorem sv_or {m n : ME} (ha : PE X a (rdE G g Wx m)) (hb : PE X (.BoolOp .Or (b :: rest) pos) (rdE G g Wx n)) : PE X (.BoolOp .Or (a :: b :: rest) pos) (rdE G g Wx (vOr m n)) :=
  PE.imp (pe_or ha hb) fun σ H Q ⟨w, env, st, hg, hen, q⟩ => by
    refine ⟨w, env, st, hg, hen, Ok.bind q fun x st1 w1 v H1 l1 g1 x1 q1 => ?_⟩
    split at q1
    · exact ⟨true, x1, q1 w1 _ H1 (Le.refl _) g1 rfl⟩
    · exact ⟨false, x1, ⟨w1, env, st1, g1, hen.mono l1, q1⟩⟩
    · exact (show False from q1).elim
theorem sv_not {m : ME} (ha : PE X a (rdE G g Wx m)) : PE X (.UnaryOp .Not a pos) (rdE G g Wx (vNo m)) :=
  PE.imp (pe_not ha) fun σ H Q ⟨w, env, st, hg, hen, q⟩ => by
    refine ⟨w, env, st, hg, hen, Ok.bind q fun x st1 w1 v H1 l1 g1 x1 q1 => ?_⟩
    split at q1
    · rename_i b
      exact ⟨b, x1, q1 w1 _ H1 (Le.refl _) g1 rfl⟩
    · exact (show False from q1).elim
/-- a if t else b -/
def mIf (t : MT) (a b : ME) : ME := fun env st => (t env st).bind fun x st1 => if x = true then a env st1 else b env st1
theorem se_if {c : Expr} {t : MT} {m n : ME} (hc : PT X c (rdT G g Wx t)) (ha : PE X a (rdE G g Wx m)) (hb : PE X b (rdE G g Wx n)) : PE X (.IfExp c a b pos) (rdE G g Wx (mIf t m n)) :=
  PE.imp (pe_ifExp hc ha hb) fun σ H Q ⟨w, env, st, hg, hen, q⟩ => by
    refine ⟨w, env, st, hg, hen, Ok.bind q fun x st1 w1 v H1 l1 g1 x1 q1 => ?_⟩
    cases x1
    cases x with
    | true => exact ⟨w1, env, st1, g1, hen.mono l1, q1⟩
    | false => exact ⟨w1, env, st1, g1, hen.mono l1, q1⟩

/-! ### argument lists, displays -/
def aN : MA := fun _ st => .ok [] st
def aC (m : ME) (r : MA) : MA := fun env st => (m env st).bind fun x st1 => (r env st1).bind fun xs st2 => .ok (x :: xs) st2
theorem sa_nil : PA X [] (rdA G g Wx aN) := PA.imp pa_nil fun σ H Q ⟨w, env, st, hg, hen, q⟩ => q w [] H (Le.refl _) hg .nil
theorem sa_cons {es : List Expr} {m : ME} {r : MA} (ha : PE X a (rdE G g Wx m)) (hr : PA X es (rdA G g Wx r)) (hs : starEach (a :: es) X.env = (false, eval a X.env) :: starEach es X.env := by rfl) : PA X (a :: es) (rdA G g Wx (aC m r)) :=
  PA.imp (pa_cons ha hr hs) fun σ H Q ⟨w, env, st, hg, hen, q⟩ => by
    refine ⟨w, env, st, hg, hen, Ok.bind q fun x st1 w1 v H1 l1 g1 x1 q1 => ?_⟩
    refine ⟨w1, env, st1, g1, hen.mono l1, Ok.bind q1 fun xs st2 w2 vs H2 l2 g2 x2 q2 => ?_⟩
    exact q2 w2 _ H2 (Le.refl _) g2 (.cons (x1.mono l2) x2)
/-- plain data alone -/
def datas : List U → Option (List D)
  | [] => some []
  | .d x :: r => (datas r).map (x :: ·)
  | .c _ :: _ => none
  | .x _ :: _ => none
theorem UAts.data {w : W} : ∀ {us : List U} {vs : List V} {ds : List D}, UAts G w vs us → datas us = some ds → DAts G w.S vs ds
  | [], _, _, h, e => by cases h; cases e; exact .nil
  | .d x :: r, _, _, h, e => by
    cases h with
    | cons h1 h2 =>
      unfold datas at e
      obtain ⟨ds, e1, rfl⟩ := Option.map_eq_some_iff.mp e
      exact .cons h1 (UAts.data h2 e1)
  | .c k :: r, _, _, h, e => by cases e
  | .x k :: r, _, _, h, e => by cases e
def mTup (r : MA) : ME := fun env st => (r env st).bind fun us st1 => match datas us with
  | some ds => if ds.length ≤ sizeL then .ok (.d (.tup ds)) st1 else .bad
  | none => .bad
theorem se_tup {es : List Expr} {x1} {r : MA} (h : PA X es (rdA G g Wx r)) : PE X (.Tuple es x1 pos) (rdE G g Wx (mTup r)) := PE.imp (pe_tup h) fun σ H Q ⟨w, env, st, hg, hen, q⟩ => by
  refine ⟨w, env, st, hg, hen, Ok.bind q fun us st1 w1 vs H1 l1 g1 x1 q1 => ?_⟩
  cases e : datas us with
  | none => simp only [e] at q1; exact (show False from q1).elim
  | some ds =>
    simp only [e] at q1
    have hd := x1.data e
    split at q1
    · rename_i hl
      exact ⟨by rw [hd.length, sizeL_eq]; exact hl, fun p hp => (Ok.fin g1 q1).tup g1.sub hp hd⟩
    · exact (show False from q1).elim
/-! ### new objects: frozen at once, or a cell -/
/-- d stands at p, newly made -/
def relN (G : GE) (g : GI) : W → Hp → V → D → Prop := fun w H v d => ∃ p, v = .ref p ∧ p ∉ w.ps ∧ w.S p = none ∧ g.H0 p = none ∧ CAt G w.S w.L H p d
abbrev MN := EnvU → Sto → R D
def rdN (G : GE) (g : GI) (Wx : WX) (m : MN) : TE := fun σ H Q => ∃ w env st, Good G g w st H ∧ EnvAt G w σ env ∧ Ok G g Wx (relN G g) w σ (m env st) Q
theorem Good.newH0 {w : W} {st : Sto} {H : Hp} (hg : Good G g w st H) {p : Addr} (hp : H p = none) : g.H0 p = none ∧ p ∉ w.ps ∧ w.S p = none := by
  refine ⟨?_, fun h => ?_, hg.sub.free hp⟩
  · cases q : g.H0 p with
    | none => rfl
    | some z =>
      by_cases hb : p ∈ g.w0.ps
      · obtain ⟨r1, e⟩ := hg.le.p
        obtain ⟨o', ho⟩ := hg.used p (by rw [e]; exact List.mem_append_left _ hb)
        rw [hp] at ho; cases ho
      · rw [hg.frame p z q hb] at hp; cases hp
  · obtain ⟨o, ho⟩ := hg.used p h
    rw [hp] at ho; cases ho
/-- a new object laid beside -/
theorem Good.laid {w : W} {st : Sto} {H : Hp} (hg : Good G g w st H) {p : Addr} {o : HO} (hp : H p = none) : Good G g w st (upd H p o) where
  le := hg.le
  sub := hg.sub.trans (Ex.new hp)
  subL := hg.subL.trans (Ex.new hp)
  xo := hg.xo
  len := hg.len
  nd := hg.nd
  cell := fun k q d h1 h2 => let ⟨c1, c2⟩ := hg.cell k q d h1 h2; ⟨c1, c2.keep fun u e => Ex.new hp _ _ e⟩
  used := fun q hq => let ⟨u, hu⟩ := hg.used q hq; ⟨u, Ex.new hp _ _ hu⟩
  frame := fun b u h1 h2 => Ex.new hp _ _ (hg.frame b u h1 h2)
  newS := hg.newS
  newP := hg.newP
/-- a new cell -/
theorem Good.cellNew {w : W} {st : Sto} {H : Hp} (hg : Good G g w st H) {p : Addr} {d : D} (hp : p ∉ w.ps) (h1 : w.S p = none) (h2 : g.H0 p = none) (h3 : CAt G w.S w.L H p d) : Good G g ⟨w.S, w.ps ++ [p], w.L, w.xo⟩ (st ++ [some d]) H where
  le := hg.le.trans ⟨Same.refl _, [p], rfl⟩
  sub := hg.sub
  subL := hg.subL
  xo := hg.xo
  len := by simp [hg.len]
  nd := by
    rw [List.nodup_append]
    refine ⟨hg.nd, by simp, fun a ha b hb e => ?_⟩
    have : b = p := by simpa using hb
    subst this
    subst e
    exact hp ha
  cell := fun k q d' e1 e2 => by
    by_cases hk : k < w.ps.length
    · have e1' : (w.ps ++ [p])[k]? = some q := e1
      rw [List.getElem?_append_left hk] at e1'
      rw [List.getElem?_append_left (by rw [← hg.len]; exact hk)] at e2
      exact hg.cell k q d' e1' e2
    · have e1' : (w.ps ++ [p])[k]? = some q := e1
      have hk2 : k = w.ps.length := by
        have := (List.getElem?_eq_some_iff.mp e1').1
        simp at this
        omega
      subst hk2
      rw [List.getElem?_append_right (Nat.le_refl _)] at e1'
      rw [hg.len, List.getElem?_append_right (Nat.le_refl _)] at e2
      simp at e1' e2
      subst e1' e2
      exact ⟨h1, h3⟩
  used := fun q hq => by
    have hq' : q ∈ w.ps ++ [p] := hq
    rcases List.mem_append.mp hq' with h | h
    · exact hg.used q h
    · have : q = p := by simpa using h
      subst this
      exact h3.there
  frame := hg.frame
  newS := hg.newS
  newP := fun k q hk e => by
    have e' : (w.ps ++ [p])[k]? = some q := e
    by_cases hk2 : k < w.ps.length
    · rw [List.getElem?_append_left hk2] at e'
      exact hg.newP k q hk e'
    · have hk3 : k = w.ps.length := by
        have := (List.getElem?_eq_some_iff.mp e').1
        simp at this
        omega
      subst hk3
      rw [List.getElem?_append_right (Nat.le_refl _)] at e'
      simp at e'
      subst e'
      exact h2
def mCl (m : MN) : ME := fun env st => (m env st).bind fun d st1 => .ok (.c st1.length) (st1 ++ [some d])
theorem cl_imp {m : MN} : ∀ σ H Q, rdE G g Wx (mCl m) σ H Q → rdN G g Wx m σ H Q := fun σ H Q ⟨w, env, st, hg, hen, q⟩ => by
  refine ⟨w, env, st, hg, hen, ?_⟩
  exact Ok.bind q fun d st1 w1 v H1 l1 g1 x1 q1 => by
    obtain ⟨p, rfl, h1, h2, h3, h4⟩ := x1
    refine q1 ⟨w1.S, w1.ps ++ [p], w1.L, w1.xo⟩ (.ref p) H1 ⟨Same.refl _, rfl, rfl, [p], rfl⟩ (g1.cellNew h1 h2 h3 h4) ⟨p, ?_, rfl⟩
    show (w1.ps ++ [p])[st1.length]? = some p
    rw [← g1.len]
    simp
theorem se_cell {e : Expr} {m : MN} (h : PE X e (rdN G g Wx m)) : PE X e (rdE G g Wx (mCl m)) := PE.imp h cl_imp
/-- lists and instances: frozen at once -/
def noDic : D → Bool
  | .dic _ => false
  | .dlk _ => false
  | _ => true
def mFz (m : MN) : ME := fun env st => (m env st).bind fun d st1 => if noDic d = true then .ok (.d d) st1 else .bad
theorem Good.freeze {w : W} {st : Sto} {H : Hp} {p : Addr} {o : HO} (hg : Good G g w st H) (h1 : p ∉ w.ps) (h2 : w.S p = none) (h3 : g.H0 p = none) (ho : H p = some o) : Good G g ⟨upd w.S p o, w.ps, w.L, w.xo⟩ st H where
  le := hg.le.trans ⟨Ex.new h2, [], by simp⟩
  sub := fun b u e => by
    by_cases hb : b = p
    · subst hb
      have e' : upd w.S b o b = some u := e
      rw [upd_same] at e'
      cases e'
      exact ho
    · have e' : upd w.S p o b = some u := e
      rw [upd_ne hb] at e'
      exact hg.sub _ _ e'
  subL := hg.subL
  xo := hg.xo
  len := hg.len
  nd := hg.nd
  cell := fun k q d e1 e2 => by
    obtain ⟨c1, c2⟩ := hg.cell k q d e1 e2
    refine ⟨?_, c2.mono (Ex.new h2)⟩
    have hq : q ≠ p := fun e => h1 (e ▸ List.mem_of_getElem? e1)
    show upd w.S p o q = none
    rw [upd_ne hq]; exact c1
  used := hg.used
  frame := hg.frame
  newS := fun b u e => by
    by_cases hb : b = p
    · subst hb; exact .inr (.inl h3)
    · have e' : upd w.S p o b = some u := e
      rw [upd_ne hb] at e'
      exact hg.newS b u e'
  newP := hg.newP
theorem CAt.froze {S L H : Hp} {p : Addr} {o : HO} {d : D} (h : CAt G S L H p d) (ho : H p = some o) (hs : S p = none) (nd : noDic d = true) : DAt G (upd S p o) (.ref p) d := by
  cases d with
  | lst ds =>
    obtain ⟨_, vs, h1, h2⟩ := h
    rw [h1] at ho; cases ho
    exact ⟨p, vs, rfl, upd_same, DAts.mono (Ex.new hs) ds h2⟩
  | obj c fs =>
    obtain ⟨_, C, dx, gs, h1, h2, h3⟩ := h
    rw [h1] at ho; cases ho
    exact ⟨p, C, dx, gs, rfl, upd_same, h2, DFs.mono (Ex.new hs) fs h3⟩
  | dic _ => cases nd
  | dlk _ => cases nd
  | _ => exact (show False from h).elim
theorem fz_imp {m : MN} : ∀ σ H Q, rdE G g Wx (mFz m) σ H Q → rdN G g Wx m σ H Q := fun σ H Q ⟨w, env, st, hg, hen, q⟩ => by
  refine ⟨w, env, st, hg, hen, ?_⟩
  exact Ok.bind q fun d st1 w1 v H1 l1 g1 x1 q1 => by
    obtain ⟨p, rfl, h1, h2, h3, h4⟩ := x1
    obtain ⟨o, ho⟩ := h4.there
    split at q1
    · rename_i nd
      exact q1 ⟨upd w1.S p o, w1.ps, w1.L, w1.xo⟩ (.ref p) H1 ⟨Ex.new h2, rfl, rfl, [], by simp⟩ (g1.freeze h1 h2 h3 ho) (h4.froze ho h2 nd)
    · exact (show False from q1).elim
theorem se_fz {e : Expr} {m : MN} (h : PE X e (rdN G g Wx m)) : PE X e (rdE G g Wx (mFz m)) := PE.imp h fz_imp
/-- [a, b, ..] -/
def nLst (r : MA) : MN := fun env st => (r env st).bind fun us st1 => match datas us with
  | some ds => if ds.length ≤ sizeL then .ok (.lst ds) st1 else .bad
  | none => .bad
theorem se_lst {es : List Expr} {r : MA} (h : PA X es (rdA G g Wx r)) : PE X (.List es pos) (rdN G g Wx (nLst r)) := PE.imp (pe_lst h) fun σ H Q ⟨w, env, st, hg, hen, q⟩ => by
  refine ⟨w, env, st, hg, hen, Ok.bind q fun us st1 w1 vs H1 l1 g1 x1 q1 => ?_⟩
  cases e : datas us with
  | none => simp only [e] at q1; exact (show False from q1).elim
  | some ds =>
    simp only [e] at q1
    have hd := x1.data e
    split at q1
    · rename_i hl
      refine ⟨by rw [hd.length, sizeL_eq]; exact hl, fun p hp => ?_⟩
      obtain ⟨n1, n2, n3⟩ := g1.newH0 hp
      exact q1 w1 (.ref p) _ (Le.refl _) (g1.laid hp) ⟨p, rfl, n2, n3, n1, g1.subL.free hp, vs, upd_same, hd⟩
    · exact (show False from q1).elim
end
end LV

/-! LVf -/
set_option Elab.async false
set_option linter.all false
set_option maxRecDepth 100000
set_option maxHeartbeats 2000000
/-! LVf: statements, loops. -/
namespace LV
open PySem L2
section
variable {X : Cx} {G : GE} {g : GI} {Wx : WX} {pos : Pos} {a b : Expr}

/-! ### blocks -/
@[reducible] def RS.bind (r : RS) (f : EnvU → Sto → RS) : RS := match r with
  | .nx e st => f e st
  | .rt u st => .rt u st
  | .bk e st => .bk e st
  | .ct e st => .ct e st
  | .exc x e st => .exc x e st
  | .bad => .bad
def sNx : MS := fun env st => .nx env st
def sSeq (m n : MS) : MS := fun env st => (m env st).bind fun e s => n e s
theorem OkS.bind {w : W} {r : RS} {f : EnvU → Sto → RS} {D : Ends} {N : St → Hp → Prop} (h : OkS G g Wx w (r.bind f) D) (k : ∀ e s w1 σ1 H1, Le w w1 → Good G g w1 s H1 → EnvAt G w1 σ1 e → OkS G g Wx w1 (f e s) D → N σ1 H1) : OkS G g Wx w r { D with nx := N } := by
  cases r with
  | nx e s => exact fun w1 σ1 H1 l hg he => k e s w1 σ1 H1 l hg he (OkS.le l h)
  | rt u s => exact h
  | bk e s => exact h
  | ct e s => exact h
  | exc x e s => exact h
  | bad => exact h
theorem sss_nil : PSs X [] (rdS G g Wx sNx) := PSs.imp pss_nil fun D σ H ⟨w, env, st, hg, he, q⟩ => q w σ H (Le.refl _) hg he
theorem sss_cons {s : Stmt} {ss : List Stmt} {m n : MS} (h1 : PS X s (rdS G g Wx m)) (h2 : PSs X ss (rdS G g Wx n)) : PSs X (s :: ss) (rdS G g Wx (sSeq m n)) :=
  PSs.imp (pss_cons h1 h2) fun D σ H ⟨w, env, st, hg, he, q⟩ => by
    refine ⟨w, env, st, hg, he, ?_⟩
    exact OkS.bind q fun e s w1 σ1 H1 l1 g1 e1 q1 => ⟨w1, e, s, g1, e1, q1⟩
theorem sss_one {s : Stmt} {m : MS} (h1 : PS X s (rdS G g Wx m)) : PSs X [s] (rdS G g Wx m) := pss_one h1
def sPass : MS := sNx
theorem ss_pass : PS X (.Pass pos) (rdS G g Wx sPass) := PS.imp ps_pass fun D σ H ⟨w, env, st, hg, he, q⟩ => q w σ H (Le.refl _) hg he
def sBrk : MS := fun env st => .bk env st
def sCont : MS := fun env st => .ct env st
theorem ss_break : PS X (.Break pos) (rdS G g Wx sBrk) := PS.imp ps_break fun D σ H ⟨w, env, st, hg, he, q⟩ => q w σ H (Le.refl _) hg he
theorem ss_continue : PS X (.Continue pos) (rdS G g Wx sCont) := PS.imp ps_continue fun D σ H ⟨w, env, st, hg, he, q⟩ => q w σ H (Le.refl _) hg he
def sExpr (m : ME) : MS := fun env st => (m env st).thenS env fun _ st1 => .nx env st1
theorem ss_expr {m : ME} (h : PE X a (rdE G g Wx m)) (hs : swapsWith a none pos.line X.env = pure false := by rfl) : PS X (.Expr a pos) (rdS G g Wx (sExpr m)) := PS.imp (ps_expr h hs) fun D σ H ⟨w, env, st, hg, he, q⟩ =>
  ⟨w, env, st, hg, he, Ok.thenS he q fun u st1 w1 v H1 l1 g1 e1 x1 q1 => q1 w1 σ H1 (Le.refl _) g1 e1⟩
def sRet (m : ME) : MS := fun env st => (m env st).thenS env fun u st1 => .rt u st1
theorem ss_ret {m : ME} (h : PE X a (rdE G g Wx m)) : PS X (.Return (some a) pos) (rdS G g Wx (sRet m)) := PS.imp (ps_ret h) fun D σ H ⟨w, env, st, hg, he, q⟩ =>
  ⟨w, env, st, hg, he, Ok.thenS he q fun u st1 w1 v H1 l1 g1 e1 x1 q1 => q1 w1 v H1 (Le.refl _) g1 x1⟩
def sRetN : MS := fun _ st => .rt (.d .non) st
theorem ss_retN : PS X (.Return none pos) (rdS G g Wx sRetN) := PS.imp ps_retN fun D σ H ⟨w, env, st, hg, he, q⟩ => q w .non H (Le.refl _) hg rfl
def sIf (t : MT) (m n : MS) : MS := fun env st => (t env st).thenS env fun b st1 => if b = true then m env st1 else n env st1
theorem ss_if {c : Expr} {x y : List Stmt} {t : MT} {m n : MS} (hc : PT X c (rdT G g Wx t)) (ha : PSs X x (rdS G g Wx m)) (hb : PSs X y (rdS G g Wx n)) : PS X (.If c x y pos) (rdS G g Wx (sIf t m n)) :=
  PS.imp (ps_if hc ha hb) fun D σ H ⟨w, env, st, hg, he, q⟩ => by
    refine ⟨w, env, st, hg, he, Ok.thenS he q fun b st1 w1 v H1 l1 g1 e1 x1 q1 => ?_⟩
    cases x1
    cases b with
    | true => exact ⟨w1, env, st1, g1, e1, q1⟩
    | false => exact ⟨w1, env, st1, g1, e1, q1⟩
theorem ss_doc {x j pos pos'} : PS X (.Expr (.Constant (.str x) j pos) pos') (rdS G g Wx sNx) := PS.imp ps_doc fun D σ H ⟨w, env, st, hg, he, q⟩ => q w σ H (Le.refl _) hg he

/-! ### targets -/
/-- what becomes of the walk when the value u is stored into a target -/
abbrev MG := U → EnvU → Sto → RS
/-- the target's reading by value -/
structure SG (X : Cx) (G : GE) (g : GI) (Wx : WX) (target : Expr) (m : MG) : Prop where
  ok : ∃ t : TG, PG X target t ∧ ∀ w v u σ env st H D, Good G g w st H → EnvAt G w σ env → UAt G w v u → OkS G g Wx w (m u env st) D → t v σ H D.nx
def gN (i : Nat) : MG := fun u env st => .nx (env.set i (some u)) st
theorem sg_name {i : Nat} {x : Str} {p : Pos} (hN : X.N.Nodup) (hi : X.N[i]? = some x) (hx : Loc X.env.scope x) (hf : X.fn x = true ∨ X.env.scope.names.lookup x = some .local := by first | exact .inl rfl | exact .inr rfl | assumption) : SG X G g Wx (.Name x p) (gN i) :=
  ⟨gName i, pg_name hN hi hx hf, fun w v u σ env st H D hg he hu q => q w (σ.set i (some v)) H (Le.refl _) hg (he.set i hu)⟩
/-- several targets -/
abbrev MGs := List D → EnvU → Sto → RS
structure SGs (X : Cx) (G : GE) (g : GI) (Wx : WX) (ts : List Expr) (m : MGs) : Prop where
  ok : ∃ t : TGs, PGs X ts t ∧ ∀ w vs ds σ env st H D, Good G g w st H → EnvAt G w σ env → DAts G w.S vs ds → OkS G g Wx w (m ds env st) D → t vs σ H D.nx
def gsN : MGs := fun ds env st => match ds with
  | [] => .nx env st
  | _ => .bad
def gsC (m : MG) (r : MGs) : MGs := fun ds env st => match ds with
  | d :: rest => (m (.d d) env st).bind fun e s => r rest e s
  | [] => .bad
theorem sgs_nil : SGs X G g Wx [] gsN := ⟨gNil, pgs_nil, fun w vs ds σ env st H D hg he hd q => by
  cases ds with
  | nil => exact ⟨hd.inv0, q w σ H (Le.refl _) hg he⟩
  | cons _ _ => exact (show False from q).elim⟩
theorem sgs_cons {e : Expr} {es : List Expr} {m : MG} {r : MGs} (h1 : SG X G g Wx e m) (h2 : SGs X G g Wx es r) (hs : (assignEach (e :: es) X.env).map (·.2) = assign e X.env :: (assignEach es X.env).map (·.2) := by rfl) : SGs X G g Wx (e :: es) (gsC m r) := by
  obtain ⟨t1, p1, k1⟩ := h1.ok
  obtain ⟨t2, p2, k2⟩ := h2.ok
  refine ⟨gCons t1 t2, pgs_cons p1 p2 hs, fun w vs ds σ env st H D hg he hd q => ?_⟩
  cases ds with
  | nil => exact (show False from q).elim
  | cons d ds =>
    obtain ⟨v, rr, rfl, hv, hr⟩ := hd.inv
    refine ⟨v, rr, rfl, ?_⟩
    refine k1 w v (.d d) σ env st H { D with nx := fun σ' H' => t2 rr σ' H' D.nx } hg he hv ?_
    exact OkS.bind q fun e s w1 σ1 H1 l1 g1 e1 q1 => k2 w1 rr ds σ1 e s H1 D g1 e1 (DAts.mono l1.s ds hr) q1
def gTu (n : Nat) (r : MGs) : MG := fun u env st => match u with
  | .d (.tup ds) => if ds.length = n then r ds env st else .bad
  | _ => .bad
theorem sg_tup {es : List Expr} {k : Nat} {p : Pos} {r : MGs} {n : Nat} (hK : X.K = G.K) (hc : X.calm = true) (h : SGs X G g Wx es r) (hn : (assignEach es X.env).length = n := by rfl) (hst : (assignEach es X.env).findIdx? (·.1) = none := by rfl) :
    SG X G g Wx (.Tuple es k p) (gTu n r) := by
  obtain ⟨t, pt, kt⟩ := h.ok
  refine ⟨gTup X.K n t, pg_tup hc pt hn hst, fun w v u σ env st H D hg he hu q => ?_⟩
  unfold gTu at q
  cases u with
  | c _ => exact (show False from q).elim
  | x _ => exact (show False from q).elim
  | d x =>
    cases x with
    | tup ds =>
      obtain ⟨a, vs, rfl, h1, h2⟩ := hu
      simp only at q
      split at q
      · rename_i hl
        exact ⟨a, vs, rfl, by rw [hK]; exact Ex.st hg.sub (SqT.of h1), by rw [h2.length]; exact hl, kt w vs ds σ env st H D hg he h2 q⟩
      · exact (show False from q).elim
    | _ => exact (show False from q).elim
def sAsg (m : ME) (t : MG) : MS := fun env st => (m env st).thenS env fun u st1 => t u env st1
theorem ss_asg {tg : Expr} {m : ME} {t : MG} (h : PE X a (rdE G g Wx m)) (ht : SG X G g Wx tg t) (hs : swapsWithSole [tg] a pos.line X.env = pure false := by rfl) (hw : swappedStores [tg] a X.env = pure none := by rfl)
    (h1 : (assignEach [tg] X.env).map (·.2) = [assign tg X.env] := by rfl) : PS X (.Assign [tg] a pos) (rdS G g Wx (sAsg m t)) := by
  obtain ⟨tt, pt, kt⟩ := ht.ok
  exact PS.imp (ps_asg h pt hs hw h1) fun D σ H ⟨w, env, st, hg, he, q⟩ =>
    ⟨w, env, st, hg, he, Ok.thenS he q fun u st1 w1 v H1 l1 g1 e1 x1 q1 => kt w1 v u σ env st1 H1 D g1 e1 x1 q1⟩
def sSet (i : Nat) (m : ME) : MS := sAsg m (gN i)
theorem ss_set {i : Nat} {x : Str} {m : ME} {pos' : Pos} (hN : X.N.Nodup) (hi : X.N[i]? = some x) (hx : Loc X.env.scope x) (h : PE X a (rdE G g Wx m)) (hs : swapsWith a (some (.Name x pos')) pos.line X.env = pure false := by rfl)
    (hf : X.fn x = true ∨ X.env.scope.names.lookup x = some .local := by first | exact .inl rfl | exact .inr rfl | assumption) : PS X (.Assign [.Name x pos'] a pos) (rdS G g Wx (sSet i m)) :=
  PS.imp (ps_set hN hi hx h hs hf) fun D σ H ⟨w, env, st, hg, he, q⟩ =>
    ⟨w, env, st, hg, he, Ok.thenS he q fun u st1 w1 v H1 l1 g1 e1 x1 q1 => q1 w1 _ H1 (Le.refl _) g1 (e1.set i x1)⟩

theorem set_imp {i : Nat} {m : ME} {D : Ends} {σ : St} {H : Hp} (h : rdS G g Wx (sSet i m) D σ H) : rdE G g Wx m σ H fun x H1 => D.nx (σ.set i (some x)) H1 := by
  obtain ⟨w, env, st, hg, he, q⟩ := h
  exact ⟨w, env, st, hg, he, Ok.thenS he q fun u st1 w1 v H1 l1 g1 e1 x1 q1 => q1 w1 _ H1 (Le.refl _) g1 (e1.set i x1)⟩

/-! ### loops over what is given item by item -/
/-- one turn's outcome: again, out of the loop, or left -/
def forGo (t : MG) (body : MS) : List U → EnvU → Sto → RS
  | [], env, st => .nx env st
  | x :: xs, env, st => match t x env st with
    | .nx e1 s1 => (match body e1 s1 with
      | .nx e2 s2 => forGo t body xs e2 s2
      | .ct e2 s2 => forGo t body xs e2 s2
      | .bk e2 s2 => .nx e2 s2
      | .rt u s2 => .rt u s2
      | .exc x e2 s2 => .exc x e2 s2
      | .bad => .bad)
    | .exc x e2 s2 => .exc x e2 s2
    | _ => .bad
/-- what a for walks, by value: the items are told at once, and each turn finds its item -/
structure SI (X : Cx) (G : GE) (g : GI) (Wx : WX) (tg iter : Expr) (m : EnvU → Sto → R (List D)) : Prop where
  ok : ∃ wi : TI, PI X tg iter wi ∧ ∀ σ H (R' : It → Hp → Prop) w env st, Good G g w st H → EnvAt G w σ env →
    Ok G g Wx (fun w1 H1 (J : It) (ds : List D) => ∀ w2 st2 H2, Le w1 w2 → Good G g w2 st2 H2 → (∀ i, ds.length ≤ i → J.stop i H2) ∧ ∀ i d, ds[i]? = some d → J.go i H2 ∧ ∀ x H3, J.yld i H2 x H3 → ∃ w3, Le w2 w3 ∧ Good G g w3 st2 H3 ∧ DAt G w3.S x d) w σ (m env st) R' → wi σ H R'
def sFor (it : EnvU → Sto → R (List D)) (t : MG) (body : MS) : MS := fun env st => (it env st).thenS env fun ds st1 => forGo t body (ds.map U.d) env st1
theorem ss_for {iter tg : Expr} {body : List Stmt} {it : EnvU → Sto → R (List D)} {t : MG} {m : MS} (hp : PassesOwn (model X.prog X.w) X.A X.env X.xe) (hc : X.calm = true) (hi : SI X G g Wx tg iter it) (hg : SG X G g Wx tg t) (hb : PSs X body (rdS G g Wx m))
    (hs : ∀ x, foldedSetIterable iter X.env x = pure x := by intro _; rfl) : PS X (.For tg iter body [] pos) (rdS G g Wx (sFor it t m)) := by
  obtain ⟨wi, pi, ki⟩ := hi.ok
  obtain ⟨tt, pt, kt⟩ := hg.ok
  refine PS.imp (ps_for hp hc pi pt hb hs) fun D σ H ⟨w, env, st, hg, he, q⟩ => ?_
  refine ki σ H _ w env st hg he ?_
  have q' : OkS G g Wx w ((it env st).thenS env fun ds st1 => forGo t m (ds.map U.d) env st1) D := q
  refine Ok.thenS he q' fun ds st1 w1 J H1 l1 g1 e1 hJ q1 => ?_
  -- the invariant: what is left of the items
  refine ⟨fun i k σ' H' => k = ds.length - i ∧ i ≤ ds.length ∧ ∃ w' e' s', Le w1 w' ∧ Good G g w' s' H' ∧ EnvAt G w' σ' e' ∧ OkS G g Wx w' (forGo t m ((ds.drop i).map U.d) e' s') D, ⟨ds.length, by simp, Nat.zero_le _, w1, env, st1, Le.refl _, g1, e1, q1⟩, ?_⟩
  rintro i k σ' H' ⟨rfl, hi, w', e', s', l', g', en', q'⟩
  obtain ⟨hst, hgo⟩ := hJ w' s' H' l' g'
  by_cases hlt : i < ds.length
  · refine .inr ?_
    obtain ⟨hg1, hy⟩ := hgo i ds[i] (by simp [hlt])
    refine ⟨hg1, fun σ2 H2 => ∃ w2 e2 s2, Le w1 w2 ∧ Good G g w2 s2 H2 ∧ EnvAt G w2 σ2 e2 ∧ OkS G g Wx w2 (forGo t m ((ds.drop (i + 1)).map U.d) e2 s2) D, fun σ2 H2 ⟨w2, e2, s2, z⟩ => ⟨ds.length - (i + 1), by omega, rfl, hlt, w2, e2, s2, z⟩, fun x H3 y => ?_⟩
    obtain ⟨w3, l3, g3, x3⟩ := hy x H3 y
    rw [List.drop_eq_getElem_cons hlt, List.map_cons] at q'
    have q3 : OkS G g Wx w3 (forGo t m (U.d ds[i] :: (ds.drop (i + 1)).map U.d) e' s') D := OkS.le l3 q'
    unfold forGo at q3
    cases r1 : t (U.d ds[i]) e' s' with
    | nx e4 s4 =>
      rw [r1] at q3
      simp only at q3
      refine kt w3 x (.d ds[i]) σ' e' s' H3 { D with nx := fun σ2 H2 => rdS G g Wx m { D with nx := _, ct := _, bk := D.nx } σ2 H2 } g3 (en'.mono l3) x3 ?_
      rw [r1]
      intro w4 σ4 H4 l4 g4 e4'
      refine ⟨w4, e4, s4, g4, e4', ?_⟩
      cases r2 : m e4 s4 with
      | nx e5 s5 =>
        rw [r2] at q3
        exact fun w5 σ5 H5 l5 g5 e5' => ⟨w5, e5, s5, ((l'.trans l3).trans l4).trans l5, g5, e5', OkS.le (l4.trans l5) q3⟩
      | ct e5 s5 =>
        rw [r2] at q3
        exact fun w5 σ5 H5 l5 g5 e5' => ⟨w5, e5, s5, ((l'.trans l3).trans l4).trans l5, g5, e5', OkS.le (l4.trans l5) q3⟩
      | bk e5 s5 =>
        rw [r2] at q3
        exact fun w5 σ5 H5 l5 g5 e5' => OkS.le l4 q3 w5 σ5 H5 l5 g5 e5'
      | rt u s5 =>
        rw [r2] at q3
        exact fun w5 v5 H5 l5 g5 e5' => OkS.le l4 q3 w5 v5 H5 l5 g5 e5'
      | exc x e5 s5 =>
        rw [r2] at q3
        exact fun w5 σ5 H5 cls dd l5 g5 e5' xx => OkS.le l4 q3 w5 σ5 H5 cls dd l5 g5 e5' xx
      | bad =>
        rw [r2] at q3
        exact (show False from q3).elim
    | exc x4 e4 s4 =>
      rw [r1] at q3
      refine kt w3 x (.d ds[i]) σ' e' s' H3 { D with nx := _ } g3 (en'.mono l3) x3 ?_
      rw [r1]
      exact q3
    | bk e4 s4 => rw [r1] at q3; exact (show False from q3).elim
    | ct e4 s4 => rw [r1] at q3; exact (show False from q3).elim
    | rt u4 s4 => rw [r1] at q3; exact (show False from q3).elim
    | bad => rw [r1] at q3; exact (show False from q3).elim
  · refine .inl ⟨hst i (by omega), ?_⟩
    rw [List.drop_eq_nil_of_le (by omega)] at q'
    exact q' w' σ' H' (Le.refl _) g' en'

/-! ### while: at most as many turns as told -/
def whGo (t : MT) (body : MS) : Nat → EnvU → Sto → RS
  | 0, _, _ => .bad
  | n + 1, env, st => match t env st with
    | .ok true s1 => (match body env s1 with
      | .nx e2 s2 => whGo t body n e2 s2
      | .ct e2 s2 => whGo t body n e2 s2
      | .bk e2 s2 => .nx e2 s2
      | .rt u s2 => .rt u s2
      | .exc x e2 s2 => .exc x e2 s2
      | .bad => .bad)
    | .ok false s1 => .nx env s1
    | .exc x s1 => .exc x env s1
    | .bad => .bad
def sWh (fuel : EnvU → Sto → Nat) (t : MT) (body : MS) : MS := fun env st => whGo t body (fuel env st) env st
theorem ss_while {c : Expr} {body : List Stmt} {t : MT} {m : MS} {fuel : EnvU → Sto → Nat} (hp : PassesOwn (model X.prog X.w) X.A X.env X.xe) (hc : PT X c (rdT G g Wx t)) (hb : PSs X body (rdS G g Wx m)) : PS X (.While c body [] pos) (rdS G g Wx (sWh fuel t m)) := by
  refine PS.imp (ps_while hp hc hb) fun D σ H ⟨w, env, st, hg, he, q⟩ => ?_
  refine ⟨fun k σ' H' => ∃ w' e' s', Good G g w' s' H' ∧ EnvAt G w' σ' e' ∧ OkS G g Wx w' (whGo t m k e' s') D, ⟨fuel env st, w, env, st, hg, he, q⟩, ?_⟩
  rintro k σ' H' ⟨w', e', s', g', en', q'⟩
  cases k with
  | zero => exact (show False from q').elim
  | succ k =>
    refine ⟨w', e', s', g', en', ?_⟩
    unfold whGo at q'
    cases r1 : t e' s' with
    | bad => rw [r1] at q'; exact (show False from q').elim
    | exc x s1 =>
      rw [r1] at q'
      exact fun w1 H1 cls dd l1 g1 x1 => q' w1 σ' H1 cls dd l1 g1 (en'.mono l1) x1
    | ok b s1 =>
      rw [r1] at q'
      intro w1 b' H1 l1 g1 hb
      cases hb
      cases b with
      | false =>
        rw [if_neg Bool.false_ne_true]
        exact q' w1 σ' H1 l1 g1 (en'.mono l1)
      | true =>
        rw [if_pos rfl]
        simp only at q'
        refine ⟨fun σ2 H2 => ∃ w2 e2 s2, Good G g w2 s2 H2 ∧ EnvAt G w2 σ2 e2 ∧ OkS G g Wx w2 (whGo t m k e2 s2) D, fun σ2 H2 z => ⟨k, Nat.lt_succ_self k, z⟩, ⟨w1, e', s1, g1, en'.mono l1, ?_⟩⟩
        have q2 := OkS.le l1 q'
        cases r2 : m e' s1 with
        | nx e5 s5 => rw [r2] at q2; exact fun w5 σ5 H5 l5 g5 e5' => ⟨w5, e5, s5, g5, e5', OkS.le l5 q2⟩
        | ct e5 s5 => rw [r2] at q2; exact fun w5 σ5 H5 l5 g5 e5' => ⟨w5, e5, s5, g5, e5', OkS.le l5 q2⟩
        | bk e5 s5 => rw [r2] at q2; exact q2
        | rt u s5 => rw [r2] at q2; exact q2
        | exc x e5 s5 => rw [r2] at q2; exact q2
        | bad => rw [r2] at q2; exact (show False from q2).elim
end
end LV

/-! LVg -/
set_option Elab.async false
set_option linter.all false
set_option maxRecDepth 100000
set_option maxHeartbeats 2000000
/-! LVg: defs and their calls. -/
namespace LV
open PySem L2

abbrev Fm := List U → Sto → R U
/-- write back into the cells sel -/
def putC (st : Sto) : List Nat → Sto → Sto
  | k :: ks, x :: xs => putC (st.set k x) ks xs
  | _, _ => st
theorem putC_length : ∀ (ks : List Nat) (xs st : Sto), (putC st ks xs).length = st.length
  | [], xs, st => by unfold putC; cases xs <;> rfl
  | k :: ks, [], st => by unfold putC; rfl
  | k :: ks, x :: xs, st => by
    unfold putC
    rw [putC_length ks xs]; simp
theorem putC_out : ∀ (ks : List Nat) (xs st : Sto) (k : Nat), k ∉ ks → (putC st ks xs)[k]? = st[k]?
  | [], xs, st, k, _ => by unfold putC; cases xs <;> rfl
  | j :: ks, [], st, k, _ => by unfold putC; rfl
  | j :: ks, x :: xs, st, k, h => by
    unfold putC
    rw [List.mem_cons, not_or] at h
    rw [putC_out ks xs _ k h.2, List.getElem?_set_ne (Ne.symm h.1)]
theorem putC_in : ∀ (ks : List Nat) (xs st : Sto) (j k : Nat), ks.Nodup → ks.length ≤ xs.length → (∀ i ∈ ks, i < st.length) → ks[j]? = some k → (putC st ks xs)[k]? = xs[j]?
  | [], xs, st, j, k, _, _, _, h => by simp at h
  | i :: ks, [], st, j, k, _, hl, _, _ => by simp at hl
  | i :: ks, x :: xs, st, 0, k, nd, hl, hb, h => by
    simp at h; subst h
    unfold putC
    rw [List.nodup_cons] at nd
    rw [putC_out ks xs _ i nd.1, List.getElem?_set_self (hb i List.mem_cons_self)]
    rfl
  | i :: ks, x :: xs, st, j + 1, k, nd, hl, hb, h => by
    unfold putC
    rw [List.nodup_cons] at nd
    rw [putC_in ks xs (st.set i x) j k nd.2 (by simpa using hl) (fun z hz => by simpa using hb z (List.mem_cons_of_mem _ hz)) (by simpa using h)]
    rfl
def ren (sel : List Nat) : U → Option U
  | .d x => some (.d x)
  | .c k => if k ∈ sel then some (.c (sel.idxOf k)) else none
  | .x _ => none
def rens (sel : List Nat) : List U → Option (List U)
  | [] => some []
  | u :: us => match ren sel u, rens sel us with
    | some x, some xs => some (x :: xs)
    | _, _ => none
def live (st : Sto) : List Nat → Option Sto
  | [] => some []
  | k :: ks => match st[k]?, live st ks with
    | some (some d), some r => some (some d :: r)
    | _, _ => none
def unren (sel : List Nat) (n : Nat) : U → U
  | .d x => .d x
  | .c j => match sel[j]? with
    | some k => .c k
    | none => .c (n + (j - sel.length))
  | .x e => .x e
/-- a call: the cells sel are handed in, in this order -/
def callU (F : Fm) (sel : List Nat) (us : List U) (st : Sto) : R U := if sel.Nodup then
    match rens sel us, live st sel with
    | some vs, some sc => (match F vs sc with
      | .ok u s' => if s'.length < sel.length then .bad else .ok (unren sel st.length u) (putC st sel s' ++ s'.drop sel.length)
      | .exc x s' => if s'.length < sel.length then .bad else .exc x (putC st sel s' ++ s'.drop sel.length)
      | .bad => .bad)
    | _, _ => .bad
  else .bad
/-- a call that hands in no cell -/
theorem callU_nil (F : Fm) (us : List U) (st : Sto) : callU F [] us st = match rens [] us with
    | some vs => (match F vs [] with
      | .ok u s' => .ok (unren [] st.length u) (st ++ s')
      | .exc x s' => .exc x (st ++ s')
      | .bad => .bad)
    | none => .bad := by
  unfold callU
  rw [if_pos List.nodup_nil]
  cases rens [] us with
  | none => rfl
  | some vs =>
    simp only [live]
    cases F vs [] with
    | ok u s' => simp [putC]
    | exc x s' => simp [putC]
    | bad => rfl
/-- a def's promise -/
def spF (G : GE) (n : Nat) (F : Fm) : Sp := fun vs H Q E => ∃ w st us, Good G ⟨w, H, none⟩ w st H ∧ UAts G w vs us ∧ us.length = n ∧ Ok G ⟨w, H, none⟩ (fun c d _ H => E c d H) (relU G) w [] (F us st) Q
theorem spF.len {G : GE} {n : Nat} {F : Fm} {vs : List V} {H : Hp} {Q : VK} {E : XK} (h : spF G n F vs H Q E) : vs.length = n := by
  obtain ⟨w, st, us, _, h2, h3, _⟩ := h
  rw [Paired.length h2, h3]

theorem nodup_map {α β : Type} {f : α → β} : ∀ {l : List α}, l.Nodup → (∀ a, a ∈ l → ∀ b, b ∈ l → f a = f b → a = b) → (l.map f).Nodup
  | [], _, _ => List.nodup_nil
  | x :: xs, h, k => by
    rw [List.nodup_cons] at h
    rw [List.map_cons, List.nodup_cons]
    refine ⟨fun hm => ?_, nodup_map h.2 fun a ha b hb => k a (List.mem_cons_of_mem _ ha) b (List.mem_cons_of_mem _ hb)⟩
    obtain ⟨y, hy, e⟩ := List.mem_map.mp hm
    have := k y (List.mem_cons_of_mem _ hy) x List.mem_cons_self e
    subst this
    exact h.1 hy
section
variable {G : GE} {g : GI} {Wx : WX}
theorem live_get {st : Sto} : ∀ {sel : List Nat} {sc : Sto}, live st sel = some sc → sc.length = sel.length ∧ ∀ (j k : Nat), sel[j]? = some k → ∃ d : D, st[k]? = some (some d) ∧ sc[j]? = some (some d)
  | [], sc, h => by cases h; exact ⟨rfl, fun j k e => by simp at e⟩
  | k :: ks, sc, h => by
    unfold live at h
    cases e1 : st[k]? with
    | none => simp only [e1] at h; cases h
    | some o =>
      cases o with
      | none => simp only [e1] at h; cases h
      | some d =>
        cases e2 : live st ks with
        | none => simp only [e1, e2] at h; cases h
        | some r =>
          simp only [e1, e2] at h
          cases h
          obtain ⟨l1, l2⟩ := live_get e2
          refine ⟨by simp [l1], fun j k' e => ?_⟩
          cases j with
          | zero => simp at e; subst e; exact ⟨d, e1, rfl⟩
          | succ j => obtain ⟨d', h1, h2⟩ := l2 j k' (by simpa using e); exact ⟨d', h1, by simpa using h2⟩
theorem Good.callee {w : W} {st sc : Sto} {H : Hp} (hg : Good G g w st H) {sel : List Nat} (nd : sel.Nodup) (hl : live st sel = some sc) :
    ∃ pc : List Addr, pc.length = sel.length ∧ (∀ (j k : Nat), sel[j]? = some k → ∃ p : Addr, w.ps[k]? = some p ∧ pc[j]? = some p) ∧ Good G ⟨⟨w.S, pc, w.L, none⟩, H, none⟩ ⟨w.S, pc, w.L, none⟩ sc H := by
  obtain ⟨l1, l2⟩ := live_get hl
  have hk : ∀ k ∈ sel, k < w.ps.length := fun k hk => by
    obtain ⟨j, hj⟩ := List.mem_iff_getElem?.mp hk
    obtain ⟨d, h1, _⟩ := l2 j k hj
    rw [hg.len]
    exact (List.getElem?_eq_some_iff.mp h1).1
  have at_ : ∀ (j k : Nat), sel[j]? = some k → ∃ p : Addr, w.ps[k]? = some p ∧ (sel.map fun k => w.ps.getD k 0)[j]? = some p := fun j k e => by
    have h1 := hk k (List.mem_of_getElem? e)
    refine ⟨w.ps[k], by simp [h1], ?_⟩
    rw [List.getElem?_map, e]
    simp [List.getD, h1]
  have at2 : ∀ (j : Nat) (p : Addr), (sel.map fun k => w.ps.getD k 0)[j]? = some p → ∃ k : Nat, sel[j]? = some k ∧ w.ps[k]? = some p := fun j p e => by
    rw [List.getElem?_map] at e
    cases q : sel[j]? with
    | none => rw [q] at e; cases e
    | some k =>
      obtain ⟨p', h1, h2⟩ := at_ j k q
      rw [List.getElem?_map, q] at h2
      rw [q] at e
      exact ⟨k, rfl, by rw [h1]; exact h2.symm.trans e⟩
  refine ⟨sel.map fun k => w.ps.getD k 0, by simp, at_, ?_⟩
  refine ⟨L0.refl _, hg.sub, hg.subL, rfl, by simp [l1], ?_, ?_, ?_, fun b o h _ => h, fun b o h => .inl ⟨o, h⟩, fun k p h e => ?_⟩
  · show (sel.map fun k => w.ps.getD k 0).Nodup
    refine nodup_map nd fun a ha b hb e => ?_
    have h1 := hk a ha
    have h2 := hk b hb
    simp only [List.getD, h1, h2, List.getElem?_eq_getElem, Option.getD_some] at e
    exact (List.getElem_inj hg.nd).mp e
  · intro j p d e1 e2
    obtain ⟨k, a1, b1⟩ := at2 j p e1
    obtain ⟨d', h1, h2⟩ := l2 j k a1
    rw [h2] at e2
    cases e2
    exact hg.cell k p d b1 h1
  · intro p hp
    obtain ⟨j, hj⟩ := List.mem_iff_getElem?.mp hp
    obtain ⟨k, a1, b1⟩ := at2 j p hj
    exact hg.used p (List.mem_of_getElem? b1)
  · have := (List.getElem?_eq_some_iff.mp e).1
    exact absurd this (Nat.not_lt.mpr h)
theorem rens_ok {w : W} {sel : List Nat} {pc : List Addr} (hp : ∀ (j k : Nat), sel[j]? = some k → ∃ p : Addr, w.ps[k]? = some p ∧ pc[j]? = some p) : ∀ {us vs' : List U} {vs : List V}, UAts G w vs us → rens sel us = some vs' → UAts G ⟨w.S, pc, w.L, none⟩ vs vs'
  | [], _, _, h, e => by cases h; cases e; exact .nil
  | u :: us, _, _, h, e => by
    cases h with
    | cons h1 h2 =>
      unfold rens at e
      cases e1 : ren sel u with
      | none => simp only [e1] at e; cases e
      | some x =>
        cases e2 : rens sel us with
        | none => simp only [e1, e2] at e; cases e
        | some xs =>
          simp only [e1, e2] at e
          cases e
          refine .cons ?_ (rens_ok hp h2 e2)
          cases u with
          | d y => cases e1; exact h1
          | x y => cases e1
          | c k =>
            have e1 : (if k ∈ sel then some (U.c (sel.idxOf k)) else none) = some x := e1
            split at e1
            · rename_i hk
              cases e1
              obtain ⟨p, q1, q2⟩ := h1
              have hj : sel[sel.idxOf k]? = some k := by
                rw [List.getElem?_eq_getElem (List.idxOf_lt_length_of_mem hk), List.getElem_idxOf]
              obtain ⟨p', r1, r2⟩ := hp _ k hj
              rw [q1] at r1
              cases r1
              exact ⟨p, r2, q2⟩
            · cases e1
/-- behind the call: the caller's state -/
theorem Good.back {w w' : W} {st sc s' : Sto} {H H' : Hp} (hg : Good G g w st H) {sel : List Nat} (nd : sel.Nodup) (hl : live st sel = some sc) {pc : List Addr} (hpl : pc.length = sel.length) (hp : ∀ (j k : Nat), sel[j]? = some k → ∃ p : Addr, w.ps[k]? = some p ∧ pc[j]? = some p)
    (l : Le ⟨w.S, pc, w.L, none⟩ w') (hg' : Good G ⟨⟨w.S, pc, w.L, none⟩, H, none⟩ w' s' H') : sel.length ≤ s'.length ∧ Good G g ⟨w'.S, w.ps ++ w'.ps.drop sel.length, w.L, w.xo⟩ (putC st sel s' ++ s'.drop sel.length) H' ∧
      Le w ⟨w'.S, w.ps ++ w'.ps.drop sel.length, w.L, w.xo⟩ ∧ ∀ v u, UAt G w' v u → UAt G ⟨w'.S, w.ps ++ w'.ps.drop sel.length, w.L, w.xo⟩ v (unren sel st.length u) := by
  obtain ⟨l1, l2⟩ := live_get hl
  obtain ⟨rp, hrp⟩ := l.p
  have hrp : w'.ps = pc ++ rp := hrp
  have hsl : sel.length ≤ s'.length := by
    rw [← hg'.len, hrp, List.length_append]; omega
  have hb : ∀ i ∈ sel, i < st.length := fun k hk => by
    obtain ⟨j, hj⟩ := List.mem_iff_getElem?.mp hk
    obtain ⟨d, h1, _⟩ := l2 j k hj
    exact (List.getElem?_eq_some_iff.mp h1).1
  have hdrop : w'.ps.drop sel.length = rp := by rw [hrp, ← hpl]; simp
  have atc : ∀ (j : Nat) (p : Addr), pc[j]? = some p → w'.ps[j]? = some p := fun j p e => by
    rw [hrp, List.getElem?_append_left (List.getElem?_eq_some_iff.mp e).1]; exact e
  have pcs : ∀ p ∈ pc, ∃ (j k : Nat), sel[j]? = some k ∧ w.ps[k]? = some p ∧ pc[j]? = some p := fun p hpp => by
    obtain ⟨j, hj⟩ := List.mem_iff_getElem?.mp hpp
    have hjl : j < sel.length := by rw [← hpl]; exact (List.getElem?_eq_some_iff.mp hj).1
    obtain ⟨p', r1, r2⟩ := hp j sel[j] (by simp [hjl])
    rw [hj] at r2
    cases r2
    exact ⟨j, sel[j], by simp [hjl], r1, hj⟩
  have newp : ∀ p ∈ rp, H p = none := fun p hpp => by
    obtain ⟨j, hj⟩ := List.mem_iff_getElem?.mp hpp
    refine hg'.newP (pc.length + j) p (Nat.le_add_right _ _) ?_
    rw [hrp, List.getElem?_append_right (Nat.le_add_right _ _)]
    simpa using hj
  have frm : ∀ p o, H p = some o → p ∉ pc → H' p = some o := fun p o e n => hg'.frame p o e n
  have lw : Le w ⟨w'.S, w.ps ++ w'.ps.drop sel.length, w.L, w.xo⟩ := ⟨l.s, rfl, rfl, _, rfl⟩
  have lL : w'.L = w.L := l.l
  have cL : ∀ (k : Nat) (p : Addr) (d : D), w'.ps[k]? = some p → s'[k]? = some (some d) → w'.S p = none ∧ CAt G w'.S w.L H' p d := fun k p d a b => by
    have := hg'.cell k p d a b
    rw [lL] at this
    exact this
  refine ⟨hsl, ?_, lw, ?_⟩
  · refine ⟨hg.le.trans lw.l0, hg'.sub, lL ▸ hg'.subL, hg.xo, ?_, ?_, ?_, ?_, ?_, ?_, ?_⟩
    · show (w.ps ++ w'.ps.drop sel.length).length = _
      rw [List.length_append, List.length_append, putC_length, List.length_drop, List.length_drop, hg.len, hg'.len]
    · show (w.ps ++ w'.ps.drop sel.length).Nodup
      rw [hdrop, List.nodup_append]
      have nd' := hg'.nd
      rw [hrp, List.nodup_append] at nd'
      refine ⟨hg.nd, nd'.2.1, fun a ha b hb e => ?_⟩
      subst e
      obtain ⟨o, ho⟩ := hg.used a ha
      rw [newp a hb] at ho
      cases ho
    · intro k p d e1 e2
      have e1 : (w.ps ++ w'.ps.drop sel.length)[k]? = some p := e1
      by_cases hk : k < w.ps.length
      · rw [List.getElem?_append_left hk] at e1
        rw [List.getElem?_append_left (by rw [putC_length, ← hg.len]; exact hk)] at e2
        by_cases hs : k ∈ sel
        · obtain ⟨j, hj⟩ := List.mem_iff_getElem?.mp hs
          rw [putC_in sel s' st j k nd hsl hb hj] at e2
          obtain ⟨p', r1, r2⟩ := hp j k hj
          rw [e1] at r1
          cases r1
          exact cL j p d (atc j p r2) e2
        · rw [putC_out sel s' st k hs] at e2
          obtain ⟨c1, c2⟩ := hg.cell k p d e1 e2
          have npc : p ∉ pc := fun hpp => by
            obtain ⟨j, k', a1, a2, a3⟩ := pcs p hpp
            have : k' = k := (List.getElem?_inj (List.getElem?_eq_some_iff.mp a2).1 hg.nd).mp (a2.trans e1.symm)
            subst this
            exact hs (List.mem_of_getElem? a1)
          obtain ⟨o, ho⟩ := c2.there
          refine ⟨?_, (c2.mono l.s).keep fun o e => frm p o e npc⟩
          show w'.S p = none
          cases q : w'.S p with
          | none => rfl
          | some z =>
            rcases hg'.newS p z q with ⟨o', r⟩ | r | r
            · have r : w.S p = some o' := r
              rw [c1] at r; cases r
            · have r : H p = none := r
              rw [ho] at r; cases r
            · exact absurd r npc
      · have hk2 : w.ps.length ≤ k := Nat.le_of_not_lt hk
        rw [List.getElem?_append_right hk2, List.getElem?_drop] at e1
        rw [List.getElem?_append_right (by rw [putC_length, ← hg.len]; exact hk2), List.getElem?_drop, putC_length, ← hg.len] at e2
        exact cL _ p d e1 e2
    · intro p hpp
      have hpp : p ∈ w.ps ++ w'.ps.drop sel.length := hpp
      rcases List.mem_append.mp hpp with h | h
      · by_cases hc : p ∈ pc
        · exact hg'.used p (by rw [hrp]; exact List.mem_append_left _ hc)
        · obtain ⟨o, ho⟩ := hg.used p h
          exact ⟨o, frm p o ho hc⟩
      · exact hg'.used p (List.mem_of_mem_drop h)
    · intro b o h1 h2
      refine frm b o (hg.frame b o h1 h2) fun hc => ?_
      obtain ⟨j, k, a1, a2, a3⟩ := pcs b hc
      by_cases hk : k < g.w0.ps.length
      · obtain ⟨r, e⟩ := hg.le.p
        rw [e, List.getElem?_append_left hk] at a2
        exact h2 (List.mem_of_getElem? a2)
      · rw [hg.newP k b (Nat.le_of_not_lt hk) a2] at h1
        cases h1
    · intro b o h1
      rcases hg'.newS b o h1 with ⟨o', r⟩ | r | r
      · exact hg.newS b o' r
      · exact .inr (.inl (Good.newH0 hg r).1)
      · obtain ⟨j, k, a1, a2, a3⟩ := pcs b r
        by_cases hk : k < g.w0.ps.length
        · obtain ⟨r, e⟩ := hg.le.p
          rw [e, List.getElem?_append_left hk] at a2
          exact .inr (.inr (List.mem_of_getElem? a2))
        · exact .inr (.inl (hg.newP k b (Nat.le_of_not_lt hk) a2))
    · intro k p hk e
      have e : (w.ps ++ w'.ps.drop sel.length)[k]? = some p := e
      by_cases hk2 : k < w.ps.length
      · rw [List.getElem?_append_left hk2] at e
        exact hg.newP k p hk e
      · rw [List.getElem?_append_right (Nat.le_of_not_lt hk2), hdrop] at e
        exact (Good.newH0 hg (newp p (List.mem_of_getElem? e))).1
  · intro v u hu
    cases u with
    | d x => exact hu
    | x e =>
      obtain ⟨a, cls, dd, h1, _⟩ := hu
      rw [show w'.xo = none from l.o] at h1
      cases h1
    | c j =>
      obtain ⟨p, q1, q2⟩ := hu
      show UAt G _ v (match sel[j]? with | some k => .c k | none => .c (st.length + (j - sel.length)))
      cases e : sel[j]? with
      | some k =>
        obtain ⟨p', r1, r2⟩ := hp j k e
        rw [atc j p' r2] at q1
        cases q1
        exact ⟨p, lw.at r1, q2⟩
      | none =>
        have hj : sel.length ≤ j := List.getElem?_eq_none_iff.mp e
        refine ⟨p, ?_, q2⟩
        show (w.ps ++ w'.ps.drop sel.length)[st.length + (j - sel.length)]? = some p
        rw [← hg.len, List.getElem?_append_right (Nat.le_add_right _ _), List.getElem?_drop]
        rw [show sel.length + (w.ps.length + (j - sel.length) - w.ps.length) = j by omega]
        exact q1
theorem call_sp {w : W} {σ : St} {st : Sto} {H : Hp} {vs : List V} {us : List U} {n : Nat} {F : Fm} {sel : List Nat} {Q : VK} (hg : Good G g w st H) (hu : UAts G w vs us) (hn : us.length = n) (h : Ok G g Wx (relU G) w σ (callU F sel us st) Q) : spF G n F vs H Q (fun c d H => Wx c d σ H) := by
  unfold callU at h
  split at h
  · rename_i nd
    cases e1 : rens sel us with
    | none => simp only [e1] at h; exact (show False from h).elim
    | some vs' =>
      cases e2 : live st sel with
      | none => simp only [e1, e2] at h; exact (show False from h).elim
      | some sc =>
        simp only [e1, e2] at h
        obtain ⟨pc, hpl, hp, hgc⟩ := hg.callee nd e2
        have hl' : vs'.length = n := by
          rw [← hn]
          have a1 := Paired.length hu
          have a2 := Paired.length (rens_ok hp hu e1)
          omega
        refine ⟨⟨w.S, pc, w.L, none⟩, sc, vs', hgc, rens_ok hp hu e1, hl', ?_⟩
        cases r : F vs' sc with
        | bad => simp only [r] at h; exact (show False from h).elim
        | ok u s' =>
          simp only [r] at h
          intro w' v H' l' g' u'
          obtain ⟨z1, z2, z3, z4⟩ := hg.back nd e2 hpl hp l' g'
          rw [if_neg (by omega)] at h
          exact h _ v H' z3 z2 (z4 v u u')
        | exc x s' =>
          simp only [r] at h
          intro w' H' cls dd l' g' xx
          obtain ⟨z1, z2, z3, z4⟩ := hg.back nd e2 hpl hp l' g'
          rw [if_neg (by omega)] at h
          exact h _ H' cls dd z3 z2 xx
  · exact (show False from h).elim
end
end LV

/-! LVh -/
set_option Elab.async false
set_option linter.all false
set_option maxRecDepth 100000
set_option maxHeartbeats 2000000
/-! LVh: a def's promise from its body; calls as expressions. -/
namespace LV
open PySem L2 PyProof.Rows

/-- what a body's outcome is to the caller; k: the cells that were handed in -/
def fin (k : Nat) : RS → R U
  | .rt (.d x) st => .ok (.d x) (st.take k)
  | .rt (.c j) st => if j < k then .ok (.c j) (st.take k) else match st[j]? with
    | some (some d) => .ok (.c k) (st.take k ++ [some d])
    | _ => .bad
  | .nx _ st => .ok (.d .non) (st.take k)
  | .exc x _ st => .exc x (st.take k)
  | _ => .bad
def fnM (n : Nat) (m : MS) : Fm := fun us st => fin st.length (m (us.map some ++ List.replicate (n - us.length) none) st)
section
variable {G : GE} {g : GI}
theorem Good.take {w : W} {st : Sto} {H : Hp} (hg : Good G g w st H) {k : Nat} (hk : k = g.w0.ps.length) (l0 : Le g.w0 w) : Good G g ⟨w.S, w.ps.take k, w.L, w.xo⟩ (st.take k) H ∧ Le g.w0 ⟨w.S, w.ps.take k, w.L, w.xo⟩ := by
  obtain ⟨r, e⟩ := hg.le.p
  have l : Le g.w0 ⟨w.S, w.ps.take k, w.L, w.xo⟩ := ⟨hg.le.s, l0.l, l0.o, [], by
    show w.ps.take k = _
    rw [e, hk]; simp⟩
  refine ⟨⟨l.l0, hg.sub, hg.subL, hg.xo, ?_, ?_, ?_, ?_, hg.frame, hg.newS, ?_⟩, l⟩
  · show (w.ps.take k).length = _
    rw [List.length_take, List.length_take, hg.len]
  · exact (List.take_sublist k w.ps).nodup hg.nd
  · intro j p d e1 e2
    have e1 : (w.ps.take k)[j]? = some p := e1
    rw [List.getElem?_take] at e1 e2
    split at e1
    · rename_i hj
      rw [if_pos hj] at e2
      exact hg.cell j p d e1 e2
    · cases e1
  · exact fun p hp => hg.used p (List.mem_of_mem_take hp)
  · intro j p hj e1
    have e1 : (w.ps.take k)[j]? = some p := e1
    rw [List.getElem?_take] at e1
    split at e1
    · exact hg.newP j p hj e1
    · cases e1
end
section
variable {P : Program} {w : World} {K : PySem.W.Frag} {mg : Str → Option Value} {base : Heap} {G : GE}
/-- THE RULE for a def -/
theorem fn_ok {x qual : Str} {st : Stmt} {f : Addr} {fd : FuncData} {N ps : List Str} {k : Nat} {m : MS} (F : Fun K x qual st f fd) (S : FnScope N ps (defScope st)) (hNp : ps.length ≤ N.length)
    (hbody : ∀ (cdv : Value) (A : Around) (outer : List Env) (s : Shared) (H : Hp) (E : XK) (g : GI), g.xo = none → Room k (A.deeper (envOfC qual (defScope st) s.heap.objs.size f cdv)) →
      PSs (cxOf (L2.CX P w) P w K mg base N qual (defScope st) f cdv A outer s H E) (defBody st) (rdS G g (fun c d _ H => E c d H) m)) :
    FnOk P w K mg base (L2.CX P w) (k + 1) f fd ps (spF G ps.length (fnM N.length m)) := by
  refine F.okX S (fun vs H Q E h => h.len) (fun cdv A outer s H vs Q E hr h => ?_)
  obtain ⟨w1, st1, us, hg, hu, hn, q⟩ := h
  refine ⟨_, hbody cdv A outer s H E ⟨w1, H, none⟩ rfl hr, ?_⟩
  have hv : vs.length = us.length := Paired.length hu
  refine ⟨w1, us.map some ++ List.replicate (N.length - us.length) none, st1, hg, ⟨?_, fun i u e => ?_⟩, ?_⟩
  · unfold L2.start
    simp [hv]
  · by_cases hi : i < us.length
    · rw [List.getElem?_append_left (by simpa using hi), List.getElem?_map] at e
      cases q : us[i]? with
      | none => rw [q] at e; cases e
      | some u' =>
        rw [q] at e
        cases e
        obtain ⟨v, h1, h2⟩ : ∃ v, vs[i]? = some v ∧ UAt G w1 v u := by
          have gen : ∀ {vs : List V} {us : List U} {i : Nat} {u : U}, UAts G w1 vs us → us[i]? = some u → ∃ v, vs[i]? = some v ∧ UAt G w1 v u := by
            intro vs us i u h
            induction h generalizing i with
            | nil => intro e; simp at e
            | cons h1 _ ih =>
              intro e
              cases i with
              | zero => simp at e; subst e; exact ⟨_, rfl, h1⟩
              | succ i => obtain ⟨v, a, b⟩ := ih (by simpa using e); exact ⟨v, by simpa using a, b⟩
          exact gen hu q
        refine ⟨v, ?_, h2⟩
        unfold L2.start
        rw [List.getElem?_append_left (by simpa [hv] using hi), List.getElem?_map, h1]
        rfl
    · rw [List.getElem?_append_right (by simpa using Nat.le_of_not_lt hi)] at e
      rw [List.getElem?_replicate] at e
      split at e <;> cases e
  · -- the outcome
    unfold fnM at q
    have hk : st1.length = w1.ps.length := hg.len.symm
    revert q
    cases r : m (us.map some ++ List.replicate (N.length - us.length) none) st1 with
    | bad => intro q; exact q
    | bk e s => intro q; exact (show False from q).elim
    | ct e s => intro q; exact (show False from q).elim
    | nx e s =>
      intro q w' σ' H' l g' en'
      obtain ⟨z1, z2⟩ := g'.take hk l
      exact q ⟨w'.S, w'.ps.take st1.length, w'.L, w'.xo⟩ .non H' z2 z1 rfl
    | exc x e s =>
      intro q w' σ' H' cls dd l g' en' xx
      obtain ⟨z1, z2⟩ := g'.take hk l
      exact q ⟨w'.S, w'.ps.take st1.length, w'.L, w'.xo⟩ H' cls dd z2 z1 xx
    | rt u s =>
      cases u with
      | x e => intro q; exact (show False from q).elim
      | d x =>
        intro q w' v H' l g' xx
        obtain ⟨z1, z2⟩ := g'.take hk l
        exact q ⟨w'.S, w'.ps.take st1.length, w'.L, w'.xo⟩ v H' z2 z1 xx
      | c j =>
        intro q
        have q : Ok G ⟨w1, H, none⟩ (fun c d _ H => E c d H) (relU G) w1 [] (if j < st1.length then R.ok (.c j) (s.take st1.length) else match s[j]? with
            | some (some d) => .ok (.c st1.length) (s.take st1.length ++ [some d])
            | _ => .bad) Q := q
        intro w' v H' l g' xx
        obtain ⟨z1, z2⟩ := g'.take hk l
        obtain ⟨p, hp, rfl⟩ := xx
        split at q
        · rename_i hj
          refine q ⟨w'.S, w'.ps.take st1.length, w'.L, w'.xo⟩ _ H' z2 z1 ⟨p, ?_, rfl⟩
          show (w'.ps.take st1.length)[j]? = some p
          rw [List.getElem?_take, if_pos hj]; exact hp
        · rename_i hj
          split at q
          · rename_i d hd
            obtain ⟨c1, c2⟩ := g'.cell j p d hp hd
            have n1 := g'.newP j p (by rw [show (GI.w0 ⟨w1, H, none⟩).ps.length = st1.length from hk.symm]; omega) hp
            have npt : p ∉ w'.ps.take st1.length := fun hm => by
              obtain ⟨i, hi⟩ := List.mem_iff_getElem?.mp hm
              rw [List.getElem?_take] at hi
              split at hi
              · rename_i hi2
                have : i = j := (List.getElem?_inj (List.getElem?_eq_some_iff.mp hi).1 g'.nd).mp (hi.trans hp.symm)
                omega
              · cases hi
            have := z1.cellNew (p := p) (d := d) npt c1 n1 c2
            refine q ⟨w'.S, w'.ps.take st1.length ++ [p], w'.L, w'.xo⟩ _ H' (z2.trans ⟨Same.refl _, rfl, rfl, [p], rfl⟩) this ⟨p, ?_, rfl⟩
            show (w'.ps.take st1.length ++ [p])[st1.length]? = some p
            have hl : (w'.ps.take st1.length).length = st1.length := by
              rw [List.length_take]
              obtain ⟨r, e⟩ := g'.le.p
              have e' : w'.ps.length = w1.ps.length + r.length := by rw [e]; simp
              omega
            rw [List.getElem?_append_right (by omega), hl]
            simp
          · exact (show False from q).elim
end
section
variable {X : Cx} {G : GE} {g : GI} {Wx : WX} {pos p : Pos} {a : Expr} {es : List Expr} {k : Nat} {f : Addr} {fd : FuncData} {ps : List Str} {n : Nat} {F : Fm} {x : Str}
/-- f(e, ..) -/
def mCall (F : Fm) (n : Nat) (sel : List Nat) (r : MA) : ME := fun env st => (r env st).bind fun us st1 => if us.length = n then callU F sel us st1 else .bad
theorem se_call {r : MA} {sel : List Nat} (ok : FnOk X.prog X.w X.K X.mg X.base (L2.CX X.prog X.w) k f fd ps (spF G n F)) (hr : Room k X.A) (hg : Gl X x) (hm : X.mg x = some (.ref f)) (hk : PySem.W.keepIn X.K (.ref f) = true) (hb : Binds X.K fd ps []) (tk : Takes X Wx)
    (ha : PA X (a :: es) (rdA G g Wx r)) (hdb : (x == ("__debug__" : Str)) = false := by decide) (he : starEach (a :: es) X.env = (false, eval a X.env) :: starEach es X.env := by rfl) (hpl : (backTo pos (starEach es X.env)).any (·.1) = false := by rfl) :
    PE X (.Call (.Name x p) (a :: es) [] pos) (rdE G g Wx (mCall F n sel r)) :=
  PE.imp (pe_callSD (dvs := []) (E := fun σ c d H => Wx c d σ H) ok hr hg hm hk hb .nil (fun σ => passAt tk σ) ha hdb he hpl) fun σ H Q ⟨w, env, st, hg, hen, q⟩ => by
    refine ⟨w, env, st, hg, hen, Ok.bind q fun us st1 w1 vs H1 l1 g1 x1 q1 => ?_⟩
    rw [List.append_nil]
    split at q1
    · rename_i hn
      exact call_sp g1 x1 hn q1
    · exact (show False from q1).elim
end
end LV

/-! LVi -/
set_option Elab.async false
set_option linter.all false
set_option maxRecDepth 100000
set_option maxHeartbeats 2000000
/-! LVi: chains, unary minus, items, slices, calls of built-ins. -/
namespace LV
open PySem L2 PyProof.Rows
section
variable {X : Cx} {G : GE} {g : GI} {Wx : WX} {pos p : Pos} {a b c : Expr} {es : List Expr}

/-! ### a op b op' c -/
def mChain (o o' : O2) (ma mb mc : ME) : ME := fun env st => (ma env st).bind fun x st1 => (mb env st1).bind fun y st2 => (o x y st2).bind fun z st3 => match z with
  | .d (.bl true) => (mc env st3).bind fun u st4 => o' y u st4
  | .d (.bl false) => .ok (.d (.bl false)) st3
  | _ => .bad
theorem chain_ok {r r' : R2} {o o' : O2} {ma mb mc : ME} (s : Srv2 G g Wx r o) (s' : Srv2 G g Wx r' o') {σ : L2.St} {H : Hp} {Q : VK} (h : rdE G g Wx (mChain o o' ma mb mc) σ H Q) : tChain r r' (rdE G g Wx ma) (rdE G g Wx mb) (rdE G g Wx mc) σ H Q := by
  obtain ⟨w, env, st, hg, he, q⟩ := h
  refine ⟨w, env, st, hg, he, Ok.bind q fun x st1 w1 v H1 l1 g1 x1 q1 => ?_⟩
  refine ⟨w1, env, st1, g1, he.mono l1, Ok.bind q1 fun y st2 w2 u H2 l2 g2 y2 q2 => ?_⟩
  refine s w2 σ st2 H2 x y v u _ g2 (x1.mono l2) y2 ?_
  refine Ok.bind q2 fun z st3 w3 t H3 l3 g3 z3 q3 => ?_
  split at q3
  · refine ⟨true, z3, ?_⟩
    rw [if_pos rfl]
    refine ⟨w3, env, st3, g3, (he.mono l1).mono (l2.trans l3), Ok.bind q3 fun u' st4 w4 t' H4 l4 g4 u4 q4 => ?_⟩
    exact s' w4 σ st4 H4 y u' u t' Q g4 (y2.mono (l3.trans l4)) u4 q4
  · refine ⟨false, z3, ?_⟩
    rw [if_neg Bool.false_ne_true]
    exact q3 w3 _ H3 (Le.refl _) g3 rfl
  · exact (show False from q3).elim
theorem se_chain {op op' : CmpOp} {r r' : R2} {o o' : O2} {ma mb mc : ME} (s : Srv2 G g Wx r o) (s' : Srv2 G g Wx r' o') (ho : OpR X (compareOp op) r) (ho' : OpR X (compareOp op') r') (ha : PE X a (rdE G g Wx ma)) (hb : PE X b (rdE G g Wx mb)) (hc : PE X c (rdE G g Wx mc))
    (hm : lastMarks [op, op'] [b, c] = false := by with_unfolding_all rfl) : PE X (.Compare a [op, op'] [b, c] pos) (rdE G g Wx (mChain o o' ma mb mc)) := PE.imp (pe_chain ho ho' ha hb hc hm) fun _ _ _ h => chain_ok s s' h
theorem st_chain {op op' : CmpOp} {r r' : R2} {o o' : O2} {ma mb mc : ME} (s : Srv2 G g Wx r o) (s' : Srv2 G g Wx r' o') (ho : OpR X (compareOp op) r) (ho' : OpR X (compareOp op') r') (ha : PE X a (rdE G g Wx ma)) (hb : PE X b (rdE G g Wx mb)) (hc : PE X c (rdE G g Wx mc))
    (hm : lastMarks [op, op'] [b, c] = false := by with_unfolding_all rfl) : PT X (.Compare a [op, op'] [b, c] pos) (rdT G g Wx (mF (mChain o o' ma mb mc))) := PT.imp (pt_chain ho ho' ha hb hc hm) fun _ _ _ h => by
  have h2 := rdT.flag h
  exact chain_ok s s' h2

/-! ### one-place operations and calls by views -/
def lift1 (f : D → Option D) : U → Sto → R U := fun x st => match get st x with
  | some a => (match f a with
    | some d => .ok (.d d) st
    | none => .bad)
  | none => .bad
def mNeg (m : ME) : ME := fun env st => (m env st).bind (lift1 fun
  | .int i => some (.int (-i))
  | _ => none)
theorem lift1_ok {f : D → Option D} {w : W} {σ : L2.St} {st : Sto} {H : Hp} {x : U} {v : V} {Q : VK} {P : Prop} (hg : Good G g w st H) (hx : UAt G w v x) (h : Ok G g Wx (relU G) w σ (lift1 f x st) Q) (k : ∀ a d, VAt G w.S H v a → f a = some d → Fin G w.S H d Q → P) : P := by
  unfold lift1 at h
  cases e1 : get st x with
  | none => simp only [e1] at h; exact (show False from h).elim
  | some a =>
    simp only [e1] at h
    cases q : f a with
    | none => simp only [q] at h; exact (show False from h).elim
    | some d =>
      simp only [q] at h
      exact k a d (hg.view hx e1) q (Ok.fin hg h)
theorem se_neg {m : ME} (ha : PE X a (rdE G g Wx m)) : PE X (.UnaryOp .USub a pos) (rdE G g Wx (mNeg m)) := PE.imp (pe_un un_neg ha) fun σ H Q ⟨w, env, st, hg, he, q⟩ => by
  refine ⟨w, env, st, hg, he, Ok.bind q fun x st1 w1 v H1 l1 g1 x1 q1 => ?_⟩
  refine lift1_ok g1 x1 q1 fun a d ha hd hf => ?_
  cases a <;> simp only [reduceCtorEq] at hd
  case int i =>
    cases hd
    exact ⟨i, ha, hf.int g1.sub⟩
def gets (st : Sto) : List U → Option (List D)
  | [] => some []
  | u :: us => match get st u, gets st us with
    | some x, some xs => some (x :: xs)
    | _, _ => none
def VAts (G : GE) (S H : Hp) : List V → List D → Prop := Paired (VAt G S H)
theorem Good.views {w : W} {st : Sto} {H : Hp} (hg : Good G g w st H) : ∀ {us : List U} {vs : List V} {ds : List D}, UAts G w vs us → gets st us = some ds → VAts G w.S H vs ds
  | [], _, _, h, e => by cases h; cases e; exact .nil
  | u :: us, _, _, h, e => by
    cases h with
    | cons h1 h2 =>
      unfold gets at e
      cases e1 : get st u with
      | none => simp only [e1] at e; cases e
      | some x =>
        cases e2 : gets st us with
        | none => simp only [e1, e2] at e; cases e
        | some xs =>
          simp only [e1, e2] at e
          cases e
          exact .cons (hg.view h1 e1) (hg.views h2 e2)
/-- a built-in called on what is read -/
def liftN (f : List D → Option D) : List U → Sto → R U := fun us st => match gets st us with
  | some ds => (match f ds with
    | some d => .ok (.d d) st
    | none => .bad)
  | none => .bad
def mFn (f : List D → Option D) (r : MA) : ME := fun env st => (r env st).bind (liftN f)
def SrvC (G : GE) (r : List V → Hp → VK → Prop) (f : List D → Option D) : Prop := ∀ S H vs ds d (Q : VK), Ex S H → VAts G S H vs ds → f ds = some d → Fin G S H d Q → r vs H Q
theorem liftN_ok {f : List D → Option D} {w : W} {σ : L2.St} {st : Sto} {H : Hp} {us : List U} {vs : List V} {Q : VK} {P : Prop} (hg : Good G g w st H) (hx : UAts G w vs us) (h : Ok G g Wx (relU G) w σ (liftN f us st) Q) (k : ∀ ds d, VAts G w.S H vs ds → f ds = some d → Fin G w.S H d Q → P) : P := by
  unfold liftN at h
  cases e1 : gets st us with
  | none => simp only [e1] at h; exact (show False from h).elim
  | some ds =>
    simp only [e1] at h
    cases q : f ds with
    | none => simp only [q] at h; exact (show False from h).elim
    | some d =>
      simp only [q] at h
      exact k ds d (hg.views hx e1) q (Ok.fin hg h)
theorem se_fnB {id : String} {x : Str} {r : List V → Hp → VK → Prop} {f : List D → Option D} {ma : MA} (s : SrvC G r f) (hc : CallR X (.builtin id) r) (hg : Gl X x) (hm : X.mg x = none) (hv : bootBuiltins x = some (.builtin id)) (ha : PA X (a :: es) (rdA G g Wx ma)) (hn : x ≠ "__name__" := by decide) (hdb : (x == ("__debug__" : Str)) = false := by decide)
    (he : starEach (a :: es) X.env = (false, eval a X.env) :: starEach es X.env := by rfl) (hpl : (backTo pos (starEach es X.env)).any (·.1) = false := by rfl) :
    PE X (.Call (.Name x p) (a :: es) [] pos) (rdE G g Wx (mFn f ma)) := PE.imp (pe_callB hc hg hm hv ha hn hdb he hpl) fun σ H Q ⟨w, env, st, hg, hen, q⟩ => by
  refine ⟨w, env, st, hg, hen, Ok.bind q fun us st1 w1 vs H1 l1 g1 x1 q1 => ?_⟩
  exact liftN_ok g1 x1 q1 fun ds d hv hd hf => s w1.S H1 vs ds d Q g1.sub hv hd hf
theorem se_fnT {T : String} {x : Str} {r : List V → Hp → VK → Prop} {f : List D → Option D} {ma : MA} (s : SrvC G r f) (hc : CallR X (.type T) r) (hg : Gl X x) (hm : X.mg x = none) (hv : bootBuiltins x = some (.type T)) (ha : PA X (a :: es) (rdA G g Wx ma)) (hn : x ≠ "__name__" := by decide) (hdb : (x == ("__debug__" : Str)) = false := by decide)
    (he : starEach (a :: es) X.env = (false, eval a X.env) :: starEach es X.env := by rfl) (hpl : (backTo pos (starEach es X.env)).any (·.1) = false := by rfl) :
    PE X (.Call (.Name x p) (a :: es) [] pos) (rdE G g Wx (mFn f ma)) := PE.imp (pe_callTy hc hg hm hv ha hn hdb he hpl) fun σ H Q ⟨w, env, st, hg, hen, q⟩ => by
  refine ⟨w, env, st, hg, hen, Ok.bind q fun us st1 w1 vs H1 l1 g1 x1 q1 => ?_⟩
  exact liftN_ok g1 x1 q1 fun ds d hv hd hf => s w1.S H1 vs ds d Q g1.sub hv hd hf
/-! lists made -/
/-- a new list of ds is wished -/
def FinL (G : GE) (S H : Hp) (ds : List D) (Q : VK) : Prop := ∀ p vs, H p = none → DAts G S vs ds → Q (.ref p) (upd H p (.lst vs))
def liftL (f : List D → Option (List D)) : List U → Sto → R D := fun us st => match gets st us with
  | some ds => (match f ds with
    | some d => .ok (.lst d) st
    | none => .bad)
  | none => .bad
def nFn (f : List D → Option (List D)) (r : MA) : MN := fun env st => (r env st).bind (liftL f)
def SrvL (G : GE) (r : List V → Hp → VK → Prop) (f : List D → Option (List D)) : Prop := ∀ S H vs ds d (Q : VK), Ex S H → VAts G S H vs ds → f ds = some d → FinL G S H d Q → r vs H Q
theorem Ok.finL {w : W} {σ : L2.St} {st : Sto} {H : Hp} {ds : List D} {Q : VK} (hg : Good G g w st H) (h : Ok G g Wx (relN G g) w σ (R.ok (.lst ds) st) Q) : FinL G w.S H ds Q := fun p vs hp hv => by
  obtain ⟨n1, n2, n3⟩ := hg.newH0 hp
  exact h w (.ref p) _ (Le.refl _) (hg.laid hp) ⟨p, rfl, n2, n3, n1, hg.subL.free hp, vs, upd_same, hv⟩
theorem liftL_ok {f : List D → Option (List D)} {w : W} {σ : L2.St} {st : Sto} {H : Hp} {us : List U} {vs : List V} {Q : VK} {P : Prop} (hg : Good G g w st H) (hx : UAts G w vs us) (h : Ok G g Wx (relN G g) w σ (liftL f us st) Q) (k : ∀ ds d, VAts G w.S H vs ds → f ds = some d → FinL G w.S H d Q → P) : P := by
  unfold liftL at h
  cases e1 : gets st us with
  | none => simp only [e1] at h; exact (show False from h).elim
  | some ds =>
    simp only [e1] at h
    cases q : f ds with
    | none => simp only [q] at h; exact (show False from h).elim
    | some d =>
      simp only [q] at h
      exact k ds d (hg.views hx e1) q (Ok.finL hg h)
theorem se_flB {id : String} {x : Str} {r : List V → Hp → VK → Prop} {f : List D → Option (List D)} {ma : MA} (s : SrvL G r f) (hc : CallR X (.builtin id) r) (hg : Gl X x) (hm : X.mg x = none) (hv : bootBuiltins x = some (.builtin id)) (ha : PA X (a :: es) (rdA G g Wx ma)) (hn : x ≠ "__name__" := by decide) (hdb : (x == ("__debug__" : Str)) = false := by decide)
    (he : starEach (a :: es) X.env = (false, eval a X.env) :: starEach es X.env := by rfl) (hpl : (backTo pos (starEach es X.env)).any (·.1) = false := by rfl) :
    PE X (.Call (.Name x p) (a :: es) [] pos) (rdN G g Wx (nFn f ma)) := PE.imp (pe_callB hc hg hm hv ha hn hdb he hpl) fun σ H Q ⟨w, env, st, hg, hen, q⟩ => by
  refine ⟨w, env, st, hg, hen, Ok.bind q fun us st1 w1 vs H1 l1 g1 x1 q1 => ?_⟩
  exact liftL_ok g1 x1 q1 fun ds d hv hd hf => s w1.S H1 vs ds d Q g1.sub hv hd hf
theorem se_flT {T : String} {x : Str} {r : List V → Hp → VK → Prop} {f : List D → Option (List D)} {ma : MA} (s : SrvL G r f) (hc : CallR X (.type T) r) (hg : Gl X x) (hm : X.mg x = none) (hv : bootBuiltins x = some (.type T)) (ha : PA X (a :: es) (rdA G g Wx ma)) (hn : x ≠ "__name__" := by decide) (hdb : (x == ("__debug__" : Str)) = false := by decide)
    (he : starEach (a :: es) X.env = (false, eval a X.env) :: starEach es X.env := by rfl) (hpl : (backTo pos (starEach es X.env)).any (·.1) = false := by rfl) :
    PE X (.Call (.Name x p) (a :: es) [] pos) (rdN G g Wx (nFn f ma)) := PE.imp (pe_callTy hc hg hm hv ha hn hdb he hpl) fun σ H Q ⟨w, env, st, hg, hen, q⟩ => by
  refine ⟨w, env, st, hg, hen, Ok.bind q fun us st1 w1 vs H1 l1 g1 x1 q1 => ?_⟩
  exact liftL_ok g1 x1 q1 fun ds d hv hd hf => s w1.S H1 vs ds d Q g1.sub hv hd hf

/-! ### len, abs, int, max, min .. -/
theorem VAts.one {S H : Hp} {vs : List V} {d : D} (h : VAts G S H vs [d]) : ∃ v, vs = [v] ∧ VAt G S H v d := by
  cases h with
  | cons h1 h2 => cases h2; exact ⟨_, rfl, h1⟩
theorem VAts.two {S H : Hp} {vs : List V} {d e : D} (h : VAts G S H vs [d, e]) : ∃ v u, vs = [v, u] ∧ VAt G S H v d ∧ VAt G S H u e := by
  cases h with
  | cons h1 h2 =>
    cases h2 with
    | cons h2 h3 => cases h3; exact ⟨_, _, rfl, h1, h2⟩
def fLen : List D → Option D
  | [.str x] => if x.length ≤ sizeL then some (.int x.length) else none
  | [.lst x] => some (.int x.length)
  | [.lsx x] => some (.int x.length)
  | [.tup x] => some (.int x.length)
  | _ => none
theorem fLen_serve (hK : X.K = G.K) : ∃ r, CallR X (.builtin "len") r ∧ SrvC G r fLen := by
  refine ⟨_, call_len, ?_⟩
  intro S H vs ds d Q e hv hd hf
  unfold fLen at hd
  split at hd
  · rename_i x
    split at hd
    · rename_i hl
      cases hd
      obtain ⟨v, rfl, h⟩ := hv.one
      cases (show v = V.str (S2 x) from h)
      exact ⟨_, x.length, rfl, ⟨by rw [S2_len, sizeL_eq]; exact hl, by rw [S2_len]⟩, hf.int e⟩
    · cases hd
  · cases hd
    obtain ⟨v, rfl, a, vs, rfl, h1, h2⟩ := hv.one
    exact ⟨_, _, rfl, .inl ⟨vs, SqL.of h1, rfl⟩, by rw [h2.length]; exact hf.int e⟩
  · cases hd
    obtain ⟨v, rfl, a, vs, rfl, h1, h2⟩ := hv.one
    exact ⟨_, _, rfl, .inl ⟨vs, by rw [hK]; exact h1, rfl⟩, by rw [h2.length]; exact hf.int e⟩
  · cases hd
    obtain ⟨v, rfl, a, vs, rfl, h1, h2⟩ := hv.one
    exact ⟨_, _, rfl, .inr ⟨vs, by rw [hK]; exact Ex.st e (SqT.of h1), rfl⟩, by rw [h2.length]; exact hf.int e⟩
  · cases hd
def fAbs : List D → Option D
  | [.int i] => some (.int (if i < 0 then -i else i))
  | _ => none
theorem fAbs_serve : ∃ r, CallR X (.builtin "abs") r ∧ SrvC G r fAbs := by
  refine ⟨_, call_abs, ?_⟩
  intro S H vs ds d Q e hv hd hf
  unfold fAbs at hd
  split at hd
  · cases hd
    obtain ⟨v, rfl, h⟩ := hv.one
    cases (show v = V.int _ from h)
    exact ⟨_, rfl, hf.int e⟩
  · cases hd
def fInt : List D → Option D
  | [.int i] => some (.int i)
  | [.bl b] => some (.int (if b then 1 else 0))
  | _ => none
theorem fInt_serve : ∃ r, CallR X (.type "int") r ∧ SrvC G r fInt := by
  refine ⟨_, call_int1, ?_⟩
  intro S H vs ds d Q e hv hd hf
  unfold fInt at hd
  split at hd
  · cases hd
    obtain ⟨v, rfl, h⟩ := hv.one
    cases (show v = V.int _ from h)
    exact .inl ⟨_, rfl, hf.int e⟩
  · cases hd
    obtain ⟨v, rfl, h⟩ := hv.one
    cases (show v = V.bl _ from h)
    exact .inr ⟨_, rfl, hf.int e⟩
  · cases hd
/-- the ints of a list -/
def intsOf : List D → Option (List Int)
  | [] => some []
  | .int i :: r => (intsOf r).map (i :: ·)
  | _ :: _ => none
theorem intsOf_eq : ∀ {ds : List D} {ns : List Int}, intsOf ds = some ns → ds = ns.map D.int
  | [], ns, h => by cases h; rfl
  | d :: r, ns, h => by
    cases d <;> simp only [intsOf, reduceCtorEq] at h
    case int i =>
      obtain ⟨ms, h1, rfl⟩ := Option.map_eq_some_iff.mp h
      rw [intsOf_eq h1]; rfl
theorem DAts.toInts {S : Hp} : ∀ {ns : List Int} {vs : List V}, DAts G S vs (ns.map D.int) → vs = ns.map V.int
  | [], _, h => h.inv0
  | n :: ns, _, h => by
    obtain ⟨v, r, rfl, h1, h2⟩ := h.inv
    rw [DAts.toInts h2, show v = V.int n from h1]; rfl
def strsOf : List D → Option (List (List Nat))
  | [] => some []
  | .str i :: r => (strsOf r).map (i :: ·)
  | _ :: _ => none
theorem strsOf_eq : ∀ {ds : List D} {ns : List (List Nat)}, strsOf ds = some ns → ds = ns.map D.str
  | [], ns, h => by cases h; rfl
  | d :: r, ns, h => by
    cases d <;> simp only [strsOf, reduceCtorEq] at h
    case str i =>
      obtain ⟨ms, h1, rfl⟩ := Option.map_eq_some_iff.mp h
      rw [strsOf_eq h1]; rfl
theorem DAts.toStrs {S : Hp} : ∀ {ns : List (List Nat)} {vs : List V}, DAts G S vs (ns.map D.str) → vs = (ns.map S2).map V.str
  | [], _, h => h.inv0
  | n :: ns, _, h => by
    obtain ⟨v, r, rfl, h1, h2⟩ := h.inv
    rw [DAts.toStrs h2, show v = V.str (S2 n) from h1]; rfl
theorem DAts.strs {S : Hp} : ∀ (ns : List (List Nat)), DAts G S ((ns.map S2).map V.str) (ns.map D.str)
  | [] => .nil
  | _ :: ns => .cons rfl (DAts.strs ns)
def maxI : List Int → Int
  | [] => 0
  | [x] => x
  | x :: xs => max x (maxI xs)
def minI : List Int → Int
  | [] => 0
  | [x] => x
  | x :: xs => min x (minI xs)
theorem maxI_mem : ∀ {l : List Int}, l ≠ [] → maxI l ∈ l ∧ ∀ y, y ∈ l → y ≤ maxI l
  | [], h => absurd rfl h
  | [x], _ => ⟨by simp [maxI], fun y hy => by simp at hy; subst hy; simp [maxI]⟩
  | x :: z :: r, _ => by
    obtain ⟨h1, h2⟩ := maxI_mem (l := z :: r) (by simp)
    have e : maxI (x :: z :: r) = max x (maxI (z :: r)) := rfl
    rw [e]
    refine ⟨?_, fun y hy => ?_⟩
    · by_cases hx : x ≤ maxI (z :: r)
      · rw [Int.max_eq_right hx]; exact List.mem_cons_of_mem _ h1
      · rw [Int.max_eq_left (by omega)]; exact List.mem_cons_self
    · rcases List.mem_cons.mp hy with rfl | hy
      · omega
      · have := h2 y hy; omega
theorem minI_mem : ∀ {l : List Int}, l ≠ [] → minI l ∈ l ∧ ∀ y, y ∈ l → minI l ≤ y
  | [], h => absurd rfl h
  | [x], _ => ⟨by simp [minI], fun y hy => by simp at hy; subst hy; simp [minI]⟩
  | x :: z :: r, _ => by
    obtain ⟨h1, h2⟩ := minI_mem (l := z :: r) (by simp)
    have e : minI (x :: z :: r) = min x (minI (z :: r)) := rfl
    rw [e]
    refine ⟨?_, fun y hy => ?_⟩
    · by_cases hx : x ≤ minI (z :: r)
      · rw [Int.min_eq_left hx]; exact List.mem_cons_self
      · rw [Int.min_eq_right (by omega)]; exact List.mem_cons_of_mem _ h1
    · rcases List.mem_cons.mp hy with rfl | hy
      · omega
      · have := h2 y hy; omega
def fMax : List D → Option D
  | [.int i, .int j] => some (.int (max i j))
  | [.lst ds] => match intsOf ds with
    | some (x :: xs) => some (.int (maxI (x :: xs)))
    | _ => none
  | _ => none
def fMin : List D → Option D
  | [.int i, .int j] => some (.int (min i j))
  | [.lst ds] => match intsOf ds with
    | some (x :: xs) => some (.int (minI (x :: xs)))
    | _ => none
  | _ => none
theorem fMax_serve (hc : X.calm = true) : ∃ r, CallR X (.builtin "max") r ∧ SrvC G r fMax := by
  refine ⟨_, (call_max2 hc).or (cr_max hc), ?_⟩
  intro S H vs ds d Q e hv hd hf
  unfold fMax at hd
  split at hd
  · rename_i i j
    cases hd
    obtain ⟨v, u, rfl, h1, h2⟩ := hv.two
    cases (show v = V.int _ from h1)
    cases (show u = V.int _ from h2)
    refine .inl ⟨i, j, rfl, ?_⟩
    have : max i j = (if j > i then j else i) := by split <;> omega
    rw [← this]
    exact hf.int e
  · rename_i ds
    split at hd
    · rename_i x xs hi
      cases hd
      obtain ⟨v, rfl, a, vs, rfl, h1, h2⟩ := hv.one
      rw [intsOf_eq hi] at h2
      have h3 := h2.toInts
      subst h3
      refine .inr ⟨a, x :: xs, rfl, SqL.of h1, by simp, fun m hm hle => ?_⟩
      obtain ⟨m1, m2⟩ := maxI_mem (l := x :: xs) (by simp)
      have : m = maxI (x :: xs) := Int.le_antisymm (m2 m hm) (hle _ m1)
      rw [this]; exact hf.int e
    · cases hd
  · cases hd
theorem fMin_serve (hc : X.calm = true) : ∃ r, CallR X (.builtin "min") r ∧ SrvC G r fMin := by
  refine ⟨_, (call_min2 hc).or (cr_min hc), ?_⟩
  intro S H vs ds d Q e hv hd hf
  unfold fMin at hd
  split at hd
  · rename_i i j
    cases hd
    obtain ⟨v, u, rfl, h1, h2⟩ := hv.two
    cases (show v = V.int _ from h1)
    cases (show u = V.int _ from h2)
    refine .inl ⟨i, j, rfl, ?_⟩
    have : min i j = (if j < i then j else i) := by split <;> omega
    rw [← this]
    exact hf.int e
  · rename_i ds
    split at hd
    · rename_i x xs hi
      cases hd
      obtain ⟨v, rfl, a, vs, rfl, h1, h2⟩ := hv.one
      rw [intsOf_eq hi] at h2
      have h3 := h2.toInts
      subst h3
      refine .inr ⟨a, x :: xs, rfl, SqL.of h1, by simp, fun m hm hle => ?_⟩
      obtain ⟨m1, m2⟩ := minI_mem (l := x :: xs) (by simp)
      have : m = minI (x :: xs) := Int.le_antisymm (hle _ m1) (m2 m hm)
      rw [this]; exact hf.int e
    · cases hd
  · cases hd
def fSum : List D → Option D
  | [.lst ds] => (intsOf ds).map fun ns => .int ns.sum
  | _ => none
theorem fSum_serve (hc : X.calm = true) : ∃ r, CallR X (.builtin "sum") r ∧ SrvC G r fSum := by
  refine ⟨_, cr_sum hc, ?_⟩
  intro S H vs ds d Q e hv hd hf
  unfold fSum at hd
  split at hd
  · rename_i ds
    obtain ⟨ns, hi, rfl⟩ := Option.map_eq_some_iff.mp hd
    obtain ⟨v, rfl, a, vs, rfl, h1, h2⟩ := hv.one
    rw [intsOf_eq hi] at h2
    have h3 := h2.toInts
    subst h3
    exact ⟨a, ns, rfl, SqL.of h1, hf.int e⟩
  · cases hd
end
end LV

/-! LVj -/
set_option Elab.async false
set_option linter.all false
set_option maxRecDepth 100000
set_option maxHeartbeats 2000000
/-! LVj: what a for walks; list comprehensions. -/
namespace LV
open PySem L2 PyProof.Rows
section
variable {X : Cx} {G : GE} {g : GI} {Wx : WX} {pos p : Pos} {a b c tg iter : Expr} {es : List Expr}

/-- the walk's promise, by value -/
abbrev relI (G : GE) (g : GI) : W → Hp → It → List D → Prop := fun w1 H1 J ds => ∀ w2 st2 H2, Le w1 w2 → Good G g w2 st2 H2 → (∀ i, ds.length ≤ i → J.stop i H2) ∧ ∀ i d, ds[i]? = some d → J.go i H2 ∧ ∀ x H3, J.yld i H2 x H3 → ∃ w3, Le w2 w3 ∧ Good G g w3 st2 H3 ∧ DAt G w3.S x d
abbrev MI := EnvU → Sto → R (List D)
/-- a list that does not change -/
def iL (m : ME) : MI := fun env st => (m env st).bind fun u st1 => match u with
  | .d (.lst ds) => .ok ds st1
  | .d (.lsx ds) => .ok ds st1
  | _ => .bad
theorem Inv.itl_i {K : PySem.W.Frag} {a : Addr} {xs : List V} {H : Hp} {i : Nat} {x : V} {H' : Hp} (h : SqL K H a xs) (y : (Itl K a).yld i H x H') : H' = H ∧ xs[i]? = some x := ⟨y.1, y.2 xs h⟩
theorem si_L {m : ME} (hK : X.K = G.K) (h : PE X iter (rdE G g Wx m)) : SI X G g Wx tg iter (iL m) := by
  refine ⟨iList X.K (rdE G g Wx m), pi_list h, fun σ H R' w env st hg he q => ?_⟩
  refine ⟨w, env, st, hg, he, Ok.bind q fun u st1 w1 v H1 l1 g1 x1 q1 => ?_⟩
  have core : ∀ (ds : List D) (a : Addr) (vs : List V), v = .ref a → SqL G.K w1.S a vs → DAts G w1.S vs ds → Ok G g Wx (relI G g) w1 σ (R.ok ds st1) R' → ∃ a, v = .ref a ∧ (∃ xs, SqL X.K H1 a xs) ∧ R' (Itl X.K a) H1 := by
    intro ds a vs e h1 h2 q1
    refine ⟨a, e, ⟨vs, by rw [hK]; exact Ex.sl g1.sub h1⟩, q1 w1 (Itl X.K a) H1 (Le.refl _) g1 fun w2 st2 H2 l2 g2 => ?_⟩
    have h3 : SqL X.K H2 a vs := by rw [hK]; exact Ex.sl g2.sub (Ex.sl l2.s h1)
    refine ⟨fun i hi => ⟨vs, h3, by rw [h2.length]; exact hi⟩, fun i d hd => ?_⟩
    obtain ⟨y, hy, hyd⟩ := h2.get hd
    refine ⟨⟨vs, y, h3, hy⟩, fun x H3 yl => ?_⟩
    obtain ⟨rfl, e2⟩ := Inv.itl_i h3 yl
    rw [hy] at e2
    cases e2
    exact ⟨w2, Le.refl _, g2, DAt.mono l2.s d hyd⟩
  split at q1
  · rename_i ds
    obtain ⟨a, vs, e, h1, h2⟩ := x1
    exact core ds a vs e (SqL.of h1) h2 q1
  · rename_i ds
    obtain ⟨a, vs, e, h1, h2⟩ := x1
    exact core ds a vs e h1 h2 q1
  · exact (show False from q1).elim
def iT (m : ME) : MI := fun env st => (m env st).bind fun u st1 => match u with
  | .d (.tup ds) => .ok ds st1
  | _ => .bad
theorem si_T {m : ME} (hK : X.K = G.K) (h : PE X iter (rdE G g Wx m)) : SI X G g Wx tg iter (iT m) := by
  refine ⟨iTup X.K (rdE G g Wx m), pi_tup h, fun σ H R' w env st hg he q => ?_⟩
  refine ⟨w, env, st, hg, he, Ok.bind q fun u st1 w1 v H1 l1 g1 x1 q1 => ?_⟩
  split at q1
  · rename_i ds
    obtain ⟨a, vs, e, h1, h2⟩ := x1
    refine ⟨a, e, ⟨vs, by rw [hK]; exact Ex.st g1.sub (SqT.of h1)⟩, q1 w1 (Itt X.K a) H1 (Le.refl _) g1 fun w2 st2 H2 l2 g2 => ?_⟩
    have h3 : SqT X.K H2 a vs := by rw [hK]; exact Ex.st g2.sub (Ex.st l2.s (SqT.of h1))
    refine ⟨fun i hi => ⟨vs, h3, by rw [h2.length]; exact hi⟩, fun i d hd => ?_⟩
    obtain ⟨y, hy, hyd⟩ := h2.get hd
    refine ⟨⟨vs, y, h3, hy⟩, fun x H3 yl => ?_⟩
    obtain ⟨rfl, e2⟩ := yl
    have e3 := e2 vs h3
    rw [hy] at e3
    cases e3
    exact ⟨w2, Le.refl _, g2, DAt.mono l2.s d hyd⟩
  · exact (show False from q1).elim
/-- range(n), range(a, b) -/
def rng (lo : Int) (n : Nat) : List D := (List.range n).map fun (i : Nat) => D.int (lo + i)
theorem rng_length (lo : Int) (n : Nat) : (rng lo n).length = n := by simp [rng]
theorem rng_get {lo : Int} {n i : Nat} {d : D} (h : (rng lo n)[i]? = some d) : i < n ∧ d = .int (lo + i) := by
  have hi : i < n := by
    have := (List.getElem?_eq_some_iff.mp h).1
    rwa [rng_length] at this
  unfold rng at h
  rw [List.getElem?_map, List.getElem?_range hi] at h
  cases h
  exact ⟨hi, rfl⟩
theorem relI_rng {w1 : W} {H1 : Hp} {lo : Int} {n : Nat} : relI G g w1 H1 (Itr lo n) (rng lo n) := fun w2 st2 H2 l2 g2 =>
  ⟨fun i hi => by rw [rng_length] at hi; exact hi, fun i d hd => by
    obtain ⟨hi, rfl⟩ := rng_get hd
    exact ⟨hi, fun x H3 ⟨e1, e2⟩ => by subst e1; subst e2; exact ⟨w2, Le.refl _, g2, rfl⟩⟩⟩
/-- told by a Nat: the kernel must not reckon with long numbers at an unknown -/
def rgOk (i : Int) : Bool := Nat.ble i.natAbs 4000000
theorem rgOk_is {i : Int} (h : rgOk i = true) : -(2 ^ 62) ≤ i ∧ i < 2 ^ 62 := by
  have h1 : i.natAbs ≤ 4000000 := Nat.le_of_ble_eq_true h
  omega
def iR1 (r : MA) : MI := fun env st => (r env st).bind fun us st1 => match us with
  | [.d (.int j)] => if rgOk j = true then .ok (rng 0 j.toNat) st1 else .bad
  | _ => .bad
def iR2 (r : MA) : MI := fun env st => (r env st).bind fun us st1 => match us with
  | [.d (.int i), .d (.int j)] => if (rgOk i && rgOk j) = true then .ok (rng i (j - i).toNat) st1 else .bad
  | _ => .bad
theorem si_R1 {r : MA} (hg : Gl X "range") (hm : X.mg "range" = none) (ha : PA X [a] (rdA G g Wx r)) (hs : starEach [a] X.env = [(false, eval a X.env)] := by rfl) : SI X G g Wx tg (.Call (.Name "range" p) [a] [] pos) (iR1 r) := by
  refine ⟨iRng1 (rdA G g Wx r), pi_range1 hg hm ha hs, fun σ H R' w env st hg he q => ?_⟩
  refine ⟨w, env, st, hg, he, Ok.bind q fun us st1 w1 vs H1 l1 g1 x1 q1 => ?_⟩
  split at q1
  · rename_i j
    split at q1
    · rename_i hj
      have hj' : -(2 ^ 62) ≤ j ∧ j < 2 ^ 62 := rgOk_is hj
      cases x1 with
      | cons h1 h2 =>
        cases h2
        cases (show _ = V.int j from h1)
        exact ⟨j, rfl, hj'.1, hj'.2, q1 w1 _ H1 (Le.refl _) g1 (relI_rng (H1 := H1))⟩
    · exact (show False from q1).elim
  · exact (show False from q1).elim
theorem si_R2 {r : MA} (hg : Gl X "range") (hm : X.mg "range" = none) (ha : PA X [a, b] (rdA G g Wx r)) (hs : starEach [a, b] X.env = [(false, eval a X.env), (false, eval b X.env)] := by rfl) (hs2 : starEach [b] X.env = [(false, eval b X.env)] := by rfl) :
    SI X G g Wx tg (.Call (.Name "range" p) [a, b] [] pos) (iR2 r) := by
  refine ⟨iRng2 (rdA G g Wx r), pi_range2 hg hm ha hs hs2, fun σ H R' w env st hg he q => ?_⟩
  refine ⟨w, env, st, hg, he, Ok.bind q fun us st1 w1 vs H1 l1 g1 x1 q1 => ?_⟩
  split at q1
  · rename_i i j
    split at q1
    · rename_i hj
      rw [Bool.and_eq_true] at hj
      have hi' : -(2 ^ 62) ≤ i ∧ i < 2 ^ 62 := rgOk_is hj.1
      have hj' : -(2 ^ 62) ≤ j ∧ j < 2 ^ 62 := rgOk_is hj.2
      cases x1 with
      | cons h1 h2 =>
        cases h2 with
        | cons h2 h3 =>
          cases h3
          cases (show _ = V.int i from h1)
          cases (show _ = V.int j from h2)
          exact ⟨i, j, rfl, ⟨hi'.1, hi'.2, hj'.1, hj'.2⟩, q1 w1 _ H1 (Le.refl _) g1 (relI_rng (H1 := H1))⟩
    · exact (show False from q1).elim
  · exact (show False from q1).elim
/-- a text, sign by sign -/
def iS (m : ME) : MI := fun env st => (m env st).bind fun u st1 => match u with
  | .d (.str x) => .ok (x.map fun c => D.str [c]) st1
  | _ => .bad
theorem si_S {m : ME} (h : PE X iter (rdE G g Wx m)) : SI X G g Wx tg iter (iS m) := by
  refine ⟨iStr (rdE G g Wx m), pi_str h, fun σ H R' w env st hg he q => ?_⟩
  refine ⟨w, env, st, hg, he, Ok.bind q fun u st1 w1 v H1 l1 g1 x1 q1 => ?_⟩
  split at q1
  · rename_i x
    cases (show v = V.str (S2 x) from x1)
    refine ⟨S2 x, rfl, q1 w1 _ H1 (Le.refl _) g1 fun w2 st2 H2 l2 g2 => ?_⟩
    refine ⟨fun i hi => by simpa [Its] using hi, fun i d hd => ?_⟩
    rw [List.getElem?_map] at hd
    obtain ⟨c, hc, rfl⟩ := Option.map_eq_some_iff.mp hd
    have hlt : i < x.length := (List.getElem?_eq_some_iff.mp hc).1
    refine ⟨by simpa [Its] using hlt, fun y H3 ⟨e1, c', e2, e3⟩ => ?_⟩
    subst e1
    subst e3
    have : c' = c := by
      have e2' : (x.toArray)[i]? = some c' := e2
      rw [List.getElem?_toArray, hc] at e2'
      exact (Option.some.inj e2').symm
    subst this
    exact ⟨w2, Le.refl _, g2, rfl⟩
  · exact (show False from q1).elim

/-! ### list comprehensions -/
def wipeE (env : EnvU) : List Nat → EnvU
  | [] => env
  | i :: is => (wipeE env is).set i none
/-- the reading's wipe -/
theorem EnvAt.wipe {w : W} : ∀ {is : List Nat} {σ : L2.St} {env : EnvU}, EnvAt G w σ env → EnvAt G w (wipe σ is) (wipeE env is)
  | [], _, _, h => h
  | i :: is, σ, env, h => by
    have := (EnvAt.wipe (is := is) h).unset i (o := none)
    exact this
/-- one turn on the list in the cell k -/
def lcGo (k : Nat) (vs : List Nat) (env : EnvU) (t : MG) (cond : MT) (elt : ME) : List D → Sto → R Unit
  | [], st => .ok () st
  | x :: xs, st => match t (.d x) (wipeE env vs) st with
    | .nx e1 s1 => (match cond e1 s1 with
      | .ok true s2 => (match elt e1 s2 with
        | .ok (.d y) s3 => (match s3[k]? with
          | some (some (.lst acc)) => if acc.length < sizeL then lcGo k vs env t cond elt xs ((s3.take (k + 1)).set k (some (.lst (acc ++ [y])))) else .bad
          | _ => .bad)
        | _ => .bad)
      | .ok false s2 => lcGo k vs env t cond elt xs (s2.take (k + 1))
      | _ => .bad)
    | _ => .bad
/-- [elt for t in it if cond] -/
def nLc (it : MI) (vs : List Nat) (t : MG) (cond : MT) (elt : ME) : MN := fun env st => (it env st).bind fun ds st1 =>
  match lcGo st1.length vs env t cond elt ds (st1 ++ [some (.lst [])]) with
  | .ok _ s2 => (match s2[st1.length]? with
    | some (some d) => .ok d (s2.take st1.length)
    | _ => .bad)
  | _ => .bad
def tTrue : MT := fun _ st => .ok true st
theorem Good.drop {w : W} {st : Sto} {H : Hp} (hg : Good G g w st H) {k : Nat} (hk : g.w0.ps.length ≤ k) : Good G g ⟨w.S, w.ps.take k, w.L, w.xo⟩ (st.take k) H := by
  obtain ⟨r, e⟩ := hg.le.p
  have l : L0 g.w0 ⟨w.S, w.ps.take k, w.L, w.xo⟩ := ⟨hg.le.s, r.take (k - g.w0.ps.length), by
    show w.ps.take k = _
    rw [e, List.take_append, List.take_of_length_le hk]⟩
  refine ⟨l, hg.sub, hg.subL, hg.xo, ?_, ?_, ?_, ?_, hg.frame, hg.newS, ?_⟩
  · show (w.ps.take k).length = _
    rw [List.length_take, List.length_take, hg.len]
  · exact (List.take_sublist k w.ps).nodup hg.nd
  · intro j p d e1 e2
    have e1 : (w.ps.take k)[j]? = some p := e1
    rw [List.getElem?_take] at e1 e2
    split at e1
    · rename_i hj
      rw [if_pos hj] at e2
      exact hg.cell j p d e1 e2
    · cases e1
  · exact fun p hp => hg.used p (List.mem_of_mem_take hp)
  · intro j p hj e1
    have e1 : (w.ps.take k)[j]? = some p := e1
    rw [List.getElem?_take] at e1
    split at e1
    · exact hg.newP j p hj e1
    · cases e1
/-- a cell gets a new content -/
theorem Good.write {w : W} {st : Sto} {H : Hp} (hg : Good G g w st H) {k : Nat} {p : Addr} {d d' : D} {o : HO} (hp : w.ps[k]? = some p) (hs : st[k]? = some (some d)) (hL : w.L p = none) (hc : CAt G w.S w.L (upd H p o) p d') : Good G g w (st.set k (some d')) (upd H p o) := by
  obtain ⟨c1, c2⟩ := hg.cell k p d hp hs
  obtain ⟨o0, ho0⟩ := c2.there
  have hkl : k < st.length := (List.getElem?_eq_some_iff.mp hs).1
  refine ⟨hg.le, fun b u e => ?_, fun b u e => ?_, hg.xo, by simp [hg.len], hg.nd, fun j q x e1 e2 => ?_, fun q hq => ?_, fun b u h1 h2 => ?_, hg.newS, hg.newP⟩
  · have : b ≠ p := fun z => by rw [z, c1] at e; cases e
    rw [upd_ne this]; exact hg.sub _ _ e
  · have : b ≠ p := fun z => by rw [z, hL] at e; cases e
    rw [upd_ne this]; exact hg.subL _ _ e
  · by_cases hj : k = j
    · subst hj
      rw [List.getElem?_set_self hkl] at e2
      cases e2
      rw [hp] at e1; cases e1
      exact ⟨c1, hc⟩
    · rw [List.getElem?_set_ne hj] at e2
      obtain ⟨r1, r2⟩ := hg.cell j q x e1 e2
      have : q ≠ p := fun z => by
        subst z
        exact hj ((List.getElem?_inj (List.getElem?_eq_some_iff.mp hp).1 hg.nd).mp (hp.trans e1.symm))
      exact ⟨r1, r2.keep fun u e => by rw [upd_ne this]; exact e⟩
  · by_cases hqp : q = p
    · subst hqp; exact ⟨o, upd_same⟩
    · obtain ⟨u, hu⟩ := hg.used q hq
      exact ⟨u, by rw [upd_ne hqp]; exact hu⟩
  · have : b ≠ p := fun z => by
      subst z
      by_cases hk : k < g.w0.ps.length
      · obtain ⟨r, e⟩ := hg.le.p
        rw [e, List.getElem?_append_left hk] at hp
        exact h2 (List.mem_of_getElem? hp)
      · rw [hg.newP k b (Nat.le_of_not_lt hk) hp] at h1; cases h1
    rw [upd_ne this]; exact hg.frame b u h1 h2
/-- no exception: the block's wish -/
abbrev WF : WX := fun _ _ _ _ => False
structure STs (X : Cx) (G : GE) (g : GI) (ifs : List Expr) (m : MT) : Prop where
  ok : PTs X ifs (rdT G g WF m)
theorem sts_nil : STs X G g [] tTrue := ⟨⟨fun pins s σ H Q I ⟨w, env, st, hg, he, q⟩ => pts_nil.run pins s σ H Q I (q w true H (Le.refl _) hg rfl)⟩⟩
theorem sts_one {m : MT} (h : PT X a (rdT G g WF m)) : STs X G g [a] m := ⟨pts_one h⟩
/-- the reading of a comprehension, by value -/
theorem lc_read {it : MI} {t : MG} {cond : MT} {elt : ME} {wi : TI} {tt : TG} {vs : List Nat} {σ : L2.St} {H : Hp} {Q : VK}
    (kt : ∀ w v u σ env st H D, Good G g w st H → EnvAt G w σ env → UAt G w v u → OkS G g WF w (t u env st) D → tt v σ H D.nx) (keep : ∀ v (σ : L2.St) H Q, tt v σ H Q → tt v σ H fun σ2 H2 => wipe σ2 vs = wipe σ vs ∧ Q σ2 H2) (hww : ∀ σ : L2.St, wipe (wipe σ vs) vs = wipe σ vs)
    (ki : ∀ σ H (R' : It → Hp → Prop) w env st, Good G g w st H → EnvAt G w σ env → Ok G g Wx (relI G g) w σ (it env st) R' → wi σ H R')
    (h : rdN G g Wx (nLc it vs t cond elt) σ H Q) : tLc wi tt (rdT G g WF cond) (rdE G g WF elt) vs σ H Q := by
  obtain ⟨w, env, st, hg, he, q⟩ := h
  refine ki σ H _ w env st hg he ?_
  refine Ok.bind q fun ds st1 w1 J H1 l1 g1 hJ q1 => ?_
  intro D hD
  have e1 := he.mono l1
  obtain ⟨n1, n2, n3⟩ := g1.newH0 hD
  have hk0 : g.w0.ps.length ≤ st1.length := by
    obtain ⟨r, e⟩ := g1.le.p
    rw [← g1.len, e]; simp
  -- the new list is the last cell
  have g2 : Good G g ⟨w1.S, w1.ps ++ [D], w1.L, w1.xo⟩ (st1 ++ [some (.lst [])]) (upd H1 D (.lst [])) := (g1.laid (o := .lst []) hD).cellNew n2 n3 n1 ⟨g1.subL.free hD, [], upd_same, .nil⟩
  have hpk : (w1.ps ++ [D])[st1.length]? = some D := by rw [← g1.len]; simp
  let k := st1.length
  -- the invariant
  refine ⟨fun i m H' => m = ds.length - i ∧ i ≤ ds.length ∧ ∃ w' s', Le ⟨w1.S, w1.ps ++ [D], w1.L, w1.xo⟩ w' ∧ w'.ps = w1.ps ++ [D] ∧ Good G g w' s' H' ∧
      ∃ rr, lcGo k vs env t cond elt (ds.drop i) s' = .ok () rr ∧ ∃ d, rr[k]? = some (some d) ∧ Ok G g Wx (relN G g) w1 σ (.ok d (rr.take k)) Q, ?_, ?_⟩
  · refine ⟨ds.length, by simp, Nat.zero_le _, ⟨w1.S, w1.ps ++ [D], w1.L, w1.xo⟩, st1 ++ [some (.lst [])], Le.refl _, rfl, g2, ?_⟩
    rw [List.drop_zero]
    cases r : lcGo st1.length vs env t cond elt ds (st1 ++ [some (.lst [])]) with
    | ok z s2 =>
      rw [r] at q1
      simp only at q1
      refine ⟨s2, rfl, ?_⟩
      split at q1
      · rename_i d hd
        exact ⟨d, hd, q1⟩
      · exact (show False from q1).elim
    | exc x s2 => rw [r] at q1; exact (show False from q1).elim
    | bad => rw [r] at q1; exact (show False from q1).elim
  · rintro i m H' ⟨rfl, hi, w', s', l', hps, g', rr, hr, d, hd, q'⟩
    have l1' : Le w1 w' := Le.trans (b := ⟨w1.S, w1.ps ++ [D], w1.L, w1.xo⟩) ⟨Same.refl _, rfl, rfl, [D], rfl⟩ l'
    obtain ⟨hst, hgo⟩ := hJ w' s' H' l1' g'
    have hpk' : w'.ps[k]? = some D := by rw [hps]; exact hpk
    have hlen' : s'.length = k + 1 := by rw [← g'.len, hps]; simp [g1.len, k]
    by_cases hlt : i < ds.length
    · refine .inr ?_
      obtain ⟨hg1, hy⟩ := hgo i ds[i] (by simp [hlt])
      refine ⟨hg1, fun H2 => ∃ w2 s2, Le ⟨w1.S, w1.ps ++ [D], w1.L, w1.xo⟩ w2 ∧ w2.ps = w1.ps ++ [D] ∧ Good G g w2 s2 H2 ∧ ∃ rr, lcGo k vs env t cond elt (ds.drop (i + 1)) s2 = .ok () rr ∧ ∃ d, rr[k]? = some (some d) ∧ Ok G g Wx (relN G g) w1 σ (.ok d (rr.take k)) Q,
        fun H2 z => ⟨ds.length - (i + 1), by omega, rfl, hlt, z⟩, fun x H3 y => ?_⟩
      obtain ⟨w3, l3, g3, x3⟩ := hy x H3 y
      have e3 : EnvAt G w3 (wipe σ vs) (wipeE env vs) := EnvAt.wipe (e1.mono (l1'.trans l3))
      rw [List.drop_eq_getElem_cons hlt] at hr
      unfold lcGo at hr
      have e0 : wipe σ vs = wipe (wipe σ vs) vs := (hww σ).symm
      cases r1 : t (U.d ds[i]) (wipeE env vs) s' with
      | nx e4 s4 =>
        rw [r1] at hr
        simp only at hr
        have kk := kt w3 x (.d ds[i]) (wipe σ vs) (wipeE env vs) s' H3 { nx := fun σ2 H2 => (rdT G g WF cond) σ2 H2 fun b H3 => if b = true then (rdE G g WF elt) σ2 H3 fun y H4 => ∃ acc, H4 D = some (.lst acc) ∧ acc.length < sizeLine ∧ (fun H2 => ∃ w2 s2, Le ⟨w1.S, w1.ps ++ [D], w1.L, w1.xo⟩ w2 ∧ w2.ps = w1.ps ++ [D] ∧ Good G g w2 s2 H2 ∧ ∃ rr, lcGo k vs env t cond elt (ds.drop (i + 1)) s2 = .ok () rr ∧ ∃ d, rr[k]? = some (some d) ∧ Ok G g Wx (relN G g) w1 σ (.ok d (rr.take k)) Q) (upd H4 D (.lst (acc ++ [y]))) else (fun H2 => ∃ w2 s2, Le ⟨w1.S, w1.ps ++ [D], w1.L, w1.xo⟩ w2 ∧ w2.ps = w1.ps ++ [D] ∧ Good G g w2 s2 H2 ∧ ∃ rr, lcGo k vs env t cond elt (ds.drop (i + 1)) s2 = .ok () rr ∧ ∃ d, rr[k]? = some (some d) ∧ Ok G g Wx (relN G g) w1 σ (.ok d (rr.take k)) Q) H3, rt := fun _ _ => False } g3 e3 x3 ?_
        · have := keep x (wipe σ vs) H3 _ kk
          simp only [hww] at this
          exact this
        rw [r1]
        intro w4 σ4 H4 l4 g4 e4'
        refine ⟨w4, e4, s4, g4, e4', ?_⟩
        have l34 : Le ⟨w1.S, w1.ps ++ [D], w1.L, w1.xo⟩ w4 := (l'.trans l3).trans l4
        have trunc : ∀ {w5 : W} {s5 : Sto} {H5 : Hp}, Le ⟨w1.S, w1.ps ++ [D], w1.L, w1.xo⟩ w5 → Good G g w5 s5 H5 → Good G g ⟨w5.S, w5.ps.take (k + 1), w5.L, w5.xo⟩ (s5.take (k + 1)) H5 ∧ Le ⟨w1.S, w1.ps ++ [D], w1.L, w1.xo⟩ ⟨w5.S, w5.ps.take (k + 1), w5.L, w5.xo⟩ ∧ w5.ps.take (k + 1) = w1.ps ++ [D] := fun {w5 s5 H5} l5 g5 => by
          obtain ⟨r, e⟩ := l5.p
          have e : w5.ps = (w1.ps ++ [D]) ++ r := e
          have hl : (w1.ps ++ [D]).length = k + 1 := by simp [g1.len, k]
          have e2 : w5.ps.take (k + 1) = w1.ps ++ [D] := by rw [e, List.take_append_of_le_length (by omega), List.take_of_length_le (by omega)]
          exact ⟨g5.drop (by omega), ⟨l5.s, l5.l, l5.o, [], by rw [e2]; simp⟩, e2⟩
        cases r2 : cond e4 s4 with
        | bad => rw [r2] at hr; cases hr
        | exc z s5 => rw [r2] at hr; cases hr
        | ok b s5 =>
          rw [r2] at hr
          intro w5 b' H5 l5 g5 hb'
          cases hb'
          cases b with
          | false =>
            rw [if_neg Bool.false_ne_true]
            obtain ⟨z1, z2, z3⟩ := trunc (l34.trans l5) g5
            exact ⟨⟨w5.S, w5.ps.take (k + 1), w5.L, w5.xo⟩, s5.take (k + 1), z2, z3, z1, rr, hr, d, hd, q'⟩
          | true =>
            rw [if_pos rfl]
            simp only at hr
            refine ⟨w5, e4, s5, g5, e4'.mono l5, ?_⟩
            cases r3 : elt e4 s5 with
            | bad => rw [r3] at hr; cases hr
            | exc z s6 => rw [r3] at hr; cases hr
            | ok u s6 =>
              rw [r3] at hr
              cases u with
              | c j => cases hr
              | x j => cases hr
              | d yv =>
                simp only at hr
                intro w6 y6 H6 l6 g6 x6
                split at hr
                · rename_i acc hacc
                  split at hr
                  · rename_i hsz
                    have l6' := (l34.trans l5).trans l6
                    have hpk6 : w6.ps[k]? = some D := by
                      obtain ⟨r, e⟩ := l6'.p
                      have e : w6.ps = (w1.ps ++ [D]) ++ r := e
                      rw [e, List.getElem?_append_left (by simp [g1.len, k])]
                      exact hpk
                    obtain ⟨c1, c0, avs, hav, hds⟩ := g6.cell k D _ hpk6 hacc
                    refine ⟨avs, hav, by rw [hds.length, sizeL_eq]; exact hsz, ?_⟩
                    obtain ⟨z1, z2, z3⟩ := trunc l6' g6
                    have hk2 : (s6.take (k + 1))[k]? = some (some (.lst acc)) := by rw [List.getElem?_take, if_pos (Nat.lt_succ_self k)]; exact hacc
                    have hp2 : (w6.ps.take (k + 1))[k]? = some D := by rw [List.getElem?_take, if_pos (Nat.lt_succ_self k)]; exact hpk6
                    have g7 := z1.write (k := k) (p := D) (o := .lst (avs ++ [y6])) (d' := .lst (acc ++ [yv])) hp2 hk2 c0 ⟨c0, avs ++ [y6], upd_same, hds.append (.cons x6 .nil)⟩
                    exact ⟨⟨w6.S, w6.ps.take (k + 1), w6.L, w6.xo⟩, _, z2, z3, g7, rr, hr, d, hd, q'⟩
                  · cases hr
                · cases hr
      | bk e4 s4 => rw [r1] at hr; cases hr
      | ct e4 s4 => rw [r1] at hr; cases hr
      | rt u4 s4 => rw [r1] at hr; cases hr
      | exc x4 e4 s4 => rw [r1] at hr; cases hr
      | bad => rw [r1] at hr; cases hr
    · refine .inl ⟨hst i (by omega), ?_⟩
      rw [List.drop_eq_nil_of_le (by omega)] at hr
      cases hr
      obtain ⟨c1, c2⟩ := g'.cell k D d hpk' hd
      have g8 := g'.drop (k := k) hk0
      have e8 : w'.ps.take k = w1.ps := by rw [hps]; simp [g1.len, k]
      refine q' ⟨w'.S, w'.ps.take k, w'.L, w'.xo⟩ (.ref D) H' ⟨l'.s, l'.l, l'.o, [], by rw [e8]; simp⟩ g8 ⟨D, rfl, ?_, c1, n1, c2⟩
      show D ∉ w'.ps.take k
      rw [e8]; exact n2

theorem wipe_in {vs : List Nat} : ∀ {σ : L2.St} {i : Nat} {o : Option V}, i ∈ vs → wipe (σ.set i o) vs = wipe σ vs := by
  induction vs with
  | nil => intro σ i o h; cases h
  | cons v vs ih =>
    intro σ i o h
    unfold wipe
    by_cases hv : i ∈ vs
    · rw [ih hv]
    · have e : i = v := by
        rcases List.mem_cons.mp h with h | h
        · exact h
        · exact absurd h hv
      subst e
      have out : ∀ (ws : List Nat) (σ : L2.St), i ∉ ws → wipe (σ.set i o) ws = (wipe σ ws).set i o := by
        intro ws
        induction ws with
        | nil => intro σ _; rfl
        | cons x ws ih2 =>
          intro σ hn
          rw [List.mem_cons, not_or] at hn
          unfold wipe
          rw [ih2 σ hn.2, List.set_comm _ _ hn.1]
      rw [out vs σ hv, List.set_set]
theorem wipe_wipe (σ : L2.St) : ∀ (ws vs : List Nat), (∀ i ∈ ws, i ∈ vs) → wipe (wipe σ ws) vs = wipe σ vs
  | [], _, _ => rfl
  | w :: ws, vs, h => by
    have e : wipe σ (w :: ws) = (wipe σ ws).set w none := rfl
    rw [e, wipe_in (h w List.mem_cons_self), wipe_wipe σ ws vs fun i hi => h i (List.mem_cons_of_mem _ hi)]
/-- [elt for x in it if cond], x in slot i -/
theorem se_lc {elt : Expr} {x : Str} {tp : Pos} {i : Nat} {ifs : List Expr} {scope : Scope} {own : List (Str × Nat)} {it : MI} {cond : MT} {me : ME} (hc : X.calm = true) (hN : X.N.Nodup) (hi : SI X G g Wx (.Name x tp) iter it) (ok : BlkOk X.N X.env.scope scope own) (hmem : i ∈ own.map (·.2))
    (hg : ∀ (s : Shared) (H : Hp) (C : Addr) (cl : List (Str × Addr)) (fp : List Addr), PG (X.blk s H scope (compEnvC scope cl C X.env) fp) (.Name x tp) (gName i))
    (ht : ∀ (s : Shared) (H : Hp) (C : Addr) (cl : List (Str × Addr)) (fp : List Addr), STs (X.blk s H scope (compEnvC scope cl C X.env) fp) G g ifs cond)
    (he : ∀ (s : Shared) (H : Hp) (C : Addr) (cl : List (Str × Addr)) (fp : List Addr), PE (X.blk s H scope (compEnvC scope cl C X.env) fp) elt (rdE G g WF me)) (hs : ∀ z, foldedSetIterable iter X.env z = pure z := by intro _; rfl) :
    PE X (.ListComp elt [⟨.Name x tp, iter, ifs, 0⟩] scope pos) (rdN G g Wx (nLc it (own.map (·.2)) (gN i) cond me)) := by
  obtain ⟨wi, pi, ki⟩ := hi.ok
  refine PE.imp (pe_lc hc hN pi ok hg (fun s H C cl fp => (ht s H C cl fp).ok) he hs) fun σ H Q h => ?_
  exact lc_read (t := gN i) (fun w v u σ env st H D hg he hu q => q w (σ.set i (some v)) H (Le.refl _) hg (he.set i hu)) (fun v σ H Q q => ⟨wipe_in hmem, q⟩) (fun σ => wipe_wipe σ _ _ fun i h => h) ki h
/-- name = [..] on one line -/
theorem ss_setLc {elt : Expr} {x y : Str} {tp py spos : Pos} {i j : Nat} {ifs : List Expr} {scope : Scope} {own : List (Str × Nat)} {it : MI} {cond : MT} {me : ME} {cv : MN → ME} (hcv : ∀ {m : MN} σ H Q, rdE G g Wx (cv m) σ H Q → rdN G g Wx m σ H Q) (hc : X.calm = true) (hN : X.N.Nodup) (hy : X.N[j]? = some y) (hyl : X.env.scope.names.lookup y = some .local)
    (hsw : swapsWith (.ListComp elt [⟨.Name x tp, iter, ifs, 0⟩] scope pos) (some (.Name y py)) spos.line X.env = pure true) (hi : SI X G g Wx (.Name x tp) iter it) (ok : BlkOk X.N X.env.scope scope own) (hmem : i ∈ own.map (·.2))
    (hg : ∀ (s : Shared) (H : Hp) (C : Addr) (cl : List (Str × Addr)) (fp : List Addr), PG (X.blk s H scope (compEnvC scope cl C X.env) fp) (.Name x tp) (gName i))
    (ht : ∀ (s : Shared) (H : Hp) (C : Addr) (cl : List (Str × Addr)) (fp : List Addr), STs (X.blk s H scope (compEnvC scope cl C X.env) fp) G g ifs cond)
    (he : ∀ (s : Shared) (H : Hp) (C : Addr) (cl : List (Str × Addr)) (fp : List Addr), PE (X.blk s H scope (compEnvC scope cl C X.env) fp) elt (rdE G g WF me)) (hs : ∀ z, foldedSetIterable iter X.env z = pure z := by intro _; rfl) :
    PS X (.Assign [.Name y py] (.ListComp elt [⟨.Name x tp, iter, ifs, 0⟩] scope pos) spos) (rdS G g Wx (sSet j (cv (nLc it (own.map (·.2)) (gN i) cond me)))) := by
  obtain ⟨wi, pi, ki⟩ := hi.ok
  refine PS.imp (ps_setLc hc hN hy hyl hsw pi ok hg (fun s H C cl fp => (ht s H C cl fp).ok) he hs) fun D σ H h => ?_
  exact lc_read (t := gN i) (fun w v u σ env st H D hg he hu q => q w (σ.set i (some v)) H (Le.refl _) hg (he.set i hu)) (fun v σ H Q q => ⟨wipe_in hmem, q⟩) (fun σ => wipe_wipe σ _ _ fun i h => h) ki (hcv _ _ _ (set_imp h))
end
end LV

/-! LVk -/
set_option Elab.async false
set_option linter.all false
set_option maxRecDepth 100000
set_option maxHeartbeats 2000000
/-! LVk: items, slices, attributes, methods of lists and texts. -/
namespace LV
open PySem L2 PyProof.Rows
section
variable {X : Cx} {G : GE} {g : GI} {Wx : WX} {pos p : Pos} {a b c tg iter e : Expr} {es : List Expr}

/-! ### xs[i] -/
theorem atI_vs {S : Hp} {ds : List D} {vs : List V} {i : Int} {d : D} (h : DAts G S vs ds) (e : atI ds i = some d) : ∃ v, atI vs i = some v ∧ DAt G S v d := by
  unfold atI at e ⊢
  rw [h.length]
  obtain ⟨j, h1, h2⟩ := Option.bind_eq_some_iff.mp e
  obtain ⟨v, h3, h4⟩ := h.get h2
  exact ⟨v, by rw [h1]; exact h3, h4⟩
def dIx : OD := fun a b => match a, b with
  | .lst ds, .int i => atI ds i
  | .lsx ds, .int i => atI ds i
  | .tup ds, .int i => atI ds i
  | .str x, .int i => if x.length ≤ sizeL then (atI x i).map fun c => D.str [c] else none
  | _, _ => none
theorem dIx_serve (hK : X.K = G.K) : ∃ r, IxR X r ∧ SrvD G r dIx := by
  refine ⟨_, ix_seq, ?_⟩
  intro S H x y v u d Q e hx hy h f
  unfold dIx at h
  split at h
  · rename_i ds i
    obtain ⟨a, vs, rfl, h1, h2⟩ := hx
    obtain ⟨z, h3, h4⟩ := atI_vs h2 h
    exact .inl ⟨a, vs, i, z, rfl, hy, SqL.of h1, h3, f.now e h4⟩
  · rename_i ds i
    obtain ⟨a, vs, rfl, h1, h2⟩ := hx
    obtain ⟨z, h3, h4⟩ := atI_vs h2 h
    exact .inl ⟨a, vs, i, z, rfl, hy, by rw [hK]; exact h1, h3, f.now e h4⟩
  · rename_i ds i
    obtain ⟨a, vs, rfl, h1, h2⟩ := hx
    obtain ⟨z, h3, h4⟩ := atI_vs h2 h
    exact .inr (.inl ⟨a, vs, i, z, rfl, hy, by rw [hK]; exact Ex.st e (SqT.of h1), h3, f.now e h4⟩)
  · rename_i x i
    split at h
    · rename_i hl
      obtain ⟨c, h1, rfl⟩ := Option.map_eq_some_iff.mp h
      exact .inr (.inr ⟨S2 x, i, c, hx, hy, by rw [S2_len, sizeL_eq]; exact hl, by rw [S2_cps]; exact h1, f.str e⟩)
    · cases h
  · cases h
theorem se_ix {r : R2} {o : O2} {ma mb : ME} (s : Srv2 G g Wx r o) (ho : IxR X r) (ha : PE X a (rdE G g Wx ma)) (hb : PE X b (rdE G g Wx mb)) (hs : PlainIx b := by intro _ _; rfl) : PE X (.Subscript a b pos) (rdE G g Wx (mB o ma mb)) :=
  PE.imp (pe_ix ho ha hb hs) fun _ _ _ h => s.tOp h

/-! ### slices -/
abbrev MO := EnvU → Sto → R (Option Int)
def oN : MO := fun _ st => .ok none st
def oS (m : ME) : MO := fun env st => (m env st).bind fun u st1 => match u with
  | .d (.int i) => .ok (some i) st1
  | _ => .bad
abbrev relO : W → Hp → Option Int → Option Int → Prop := fun _ _ b a => b = a
def rdO (G : GE) (g : GI) (Wx : WX) (m : MO) : TO := fun σ H Q => ∃ w env st, Good G g w st H ∧ EnvAt G w σ env ∧ Ok G g Wx relO w σ (m env st) Q
theorem so_none : PO X none (rdO G g Wx oN) := ⟨fun pins s σ H Q I ⟨w, env, st, hg, he, q⟩ => po_none.run pins s σ H Q I (q w none H (Le.refl _) hg rfl)⟩
theorem so_some {m : ME} (h : PE X e (rdE G g Wx m)) : PO X (some e) (rdO G g Wx (oS m)) := ⟨fun pins s σ H Q I ⟨w, env, st, hg, he, q⟩ => (po_some h).run pins s σ H Q I ⟨w, env, st, hg, he, Ok.bind q fun u st1 w1 v H1 l1 g1 x1 q1 => by
  split at q1
  · rename_i i
    exact ⟨i, x1, q1 w1 _ H1 (Le.refl _) g1 rfl⟩
  · exact (show False from q1).elim⟩⟩
def cutL {α : Type} (xs : List α) (lo hi : Option Int) : List α := (xs.drop (HT.sIx xs.length 0 lo)).take (HT.sIx xs.length xs.length hi - HT.sIx xs.length 0 lo)
theorem DAts.cut {S : Hp} {ds : List D} {vs : List V} (h : DAts G S vs ds) (lo hi : Option Int) : DAts G S (cutV vs lo hi) (cutL ds lo hi) := by
  unfold cutV cutL
  rw [h.length]
  exact (h.drop _).take _
theorem cutS2 (x : List Nat) (lo hi : Option Int) : cutS (S2 x) lo hi = S2 (cutL x lo hi) := by
  unfold cutS cutL
  rw [S2_len, S2_cps]
/-- of a text or a tuple -/
def mSl (m : ME) (lo hi : MO) : ME := fun env st => (m env st).bind fun u st1 => (lo env st1).bind fun i st2 => (hi env st2).bind fun j st3 => match u with
  | .d (.str x) => if x.length ≤ sizeL then .ok (.d (.str (cutL x i j))) st3 else .bad
  | .d (.tup x) => .ok (.d (.tup (cutL x i j))) st3
  | _ => .bad
theorem se_sl {lo hi : Option Expr} {m : ME} {ml mh : MO} {p2 : Pos} (hK : X.K = G.K) (h : PE X e (rdE G g Wx m)) (hl : PO X lo (rdO G g Wx ml)) (hh : PO X hi (rdO G g Wx mh)) : PE X (.Subscript e (.Slice lo hi none p2) pos) (rdE G g Wx (mSl m ml mh)) :=
  PE.imp (pe_slice (sl_str.or sl_tupA) h hl hh) fun σ H Q ⟨w, env, st, hg, he, q⟩ => by
    refine ⟨w, env, st, hg, he, Ok.bind q fun u st1 w1 v H1 l1 g1 x1 q1 => ?_⟩
    refine ⟨w1, env, st1, g1, he.mono l1, Ok.bind q1 fun i st2 w2 i' H2 l2 g2 e2 q2 => ?_⟩
    cases e2
    refine ⟨w2, env, st2, g2, (he.mono l1).mono l2, Ok.bind q2 fun j st3 w3 j' H3 l3 g3 e3 q3 => ?_⟩
    cases e3
    have x3 := x1.mono (l2.trans l3)
    split at q3
    · rename_i x
      split at q3
      · rename_i hz
        refine .inl ⟨S2 x, x3, by rw [S2_len, sizeL_eq]; exact hz, ?_⟩
        rw [cutS2]
        exact (Ok.fin g3 q3).str g3.sub
      · exact (show False from q3).elim
    · rename_i x
      obtain ⟨a, vs, rfl, h1, h2⟩ := x3
      refine .inr ⟨a, vs, rfl, by rw [hK]; exact Ex.st g3.sub (SqT.of h1), fun hw => ?_, fun _ p hp => (Ok.fin g3 q3).tup g3.sub hp (h2.cut i j)⟩
      refine (Ok.fin g3 q3).now g3.sub ⟨a, vs, rfl, h1, ?_⟩
      have : cutL x i j = x := by
        unfold cutL
        rw [h2.length] at hw
        rw [hw.1, hw.2]
        simp
      rw [this]; exact h2
    · exact (show False from q3).elim
/-- of a list -/
def nSl (m : ME) (lo hi : MO) : MN := fun env st => (m env st).bind fun u st1 => (lo env st1).bind fun i st2 => (hi env st2).bind fun j st3 => match get st3 u with
  | some (.lst x) => .ok (.lst (cutL x i j)) st3
  | some (.lsx x) => .ok (.lst (cutL x i j)) st3
  | _ => .bad
theorem se_slL {lo hi : Option Expr} {m : ME} {ml mh : MO} {p2 : Pos} (hK : X.K = G.K) (h : PE X e (rdE G g Wx m)) (hl : PO X lo (rdO G g Wx ml)) (hh : PO X hi (rdO G g Wx mh)) : PE X (.Subscript e (.Slice lo hi none p2) pos) (rdN G g Wx (nSl m ml mh)) :=
  PE.imp (pe_slice sl_list h hl hh) fun σ H Q ⟨w, env, st, hg, he, q⟩ => by
    refine ⟨w, env, st, hg, he, Ok.bind q fun u st1 w1 v H1 l1 g1 x1 q1 => ?_⟩
    refine ⟨w1, env, st1, g1, he.mono l1, Ok.bind q1 fun i st2 w2 i' H2 l2 g2 e2 q2 => ?_⟩
    cases e2
    refine ⟨w2, env, st2, g2, (he.mono l1).mono l2, Ok.bind q2 fun j st3 w3 j' H3 l3 g3 e3 q3 => ?_⟩
    cases e3
    have x3 := x1.mono (l2.trans l3)
    cases e4 : get st3 u with
    | none => rw [e4] at q3; exact (show False from q3).elim
    | some d =>
      rw [e4] at q3
      have vw := g3.view x3 e4
      cases d with
      | lst x =>
        obtain ⟨a, vs, rfl, h1, h2⟩ := vw
        exact ⟨a, vs, rfl, SqL.of h1, fun p hp => Ok.finL g3 q3 p _ hp (h2.cut i j)⟩
      | lsx x =>
        obtain ⟨a, vs, rfl, h1, h2⟩ := vw
        exact ⟨a, vs, rfl, by rw [hK]; exact h1, fun p hp => Ok.finL g3 q3 p _ hp (h2.cut i j)⟩
      | _ => exact (show False from q3).elim

/-! ### e.f -/
/-- what is known of an own class -/
structure OC (K : PySem.W.Frag) (C : Addr) : Prop where
  cl : Cls K C
  ha : PySem.W.findIn K (.ref C) "__class__" = some (some (.builtin "object.__class__"))
  hn : PySem.W.specialIn K (.builtin "object.__class__") "__get__" = some (some (.builtin "getset_descriptor.__get__"))
  ht : PySem.W.takesIn K (.builtin "object.__class__") = some true
  hm : PySem.W.mroIn K C (.type "object") = some true
def mFld (cn f : Str) (m : ME) : ME := fun env st => (m env st).bind fun u st1 => match get st1 u with
  | some (.obj c fs) => if c = cn then (match fs.lookup f with
    | some d => .ok (.d d) st1
    | none => .bad) else .bad
  | _ => .bad
theorem se_fld {cn f : Str} {m : ME} {C : Addr} (hK : X.K = G.K) (hC : G.cls cn = some C) (oc : OC X.K C) (nf : NoAttr X.K C f) (h : PE X e (rdE G g Wx m)) (hb : attributeBase e f X.env (eval e X.env) = eval e X.env := by rfl) : PE X (.Attribute e f pos) (rdE G g Wx (mFld cn f m)) :=
  PE.imp (pe_fld h hb) fun σ H Q ⟨w, env, st, hg, he, q⟩ => by
    refine ⟨w, env, st, hg, he, Ok.bind q fun u st1 w1 v H1 l1 g1 x1 q1 => ?_⟩
    cases e4 : get st1 u with
    | none => rw [e4] at q1; exact (show False from q1).elim
    | some d =>
      rw [e4] at q1
      have vw := g1.view x1 e4
      cases d with
      | obj c fs =>
        simp only at q1
        split at q1
        · rename_i hcn
          subst hcn
          obtain ⟨a, C', dx, gs, rfl, h1, h2, h3⟩ := vw
          rw [hC] at h2
          cases h2
          cases e5 : fs.lookup f with
          | none => rw [e5] at q1; exact (show False from q1).elim
          | some d =>
            rw [e5] at q1
            obtain ⟨z, z1, z2⟩ := h3.look e5
            exact ⟨a, C, dx, gs, z, rfl, h1, oc.cl, nf, z1, q1 w1 z H1 (Le.refl _) g1 z2⟩
        · exact (show False from q1).elim
      | _ => exact (show False from q1).elim
/-- e.f = v, e a cell -/
def sFldC (cn f : Str) (ma mv : ME) : MS := fun env st => (mv env st).thenS env fun x st1 => (ma env st1).thenS env fun u st2 => match x, u with
  | .d d, .c k => (match st2[k]? with
    | some (some (.obj c fs)) => if c = cn ∧ fs.length < 1000 then .nx env (st2.set k (some (.obj c (putD f d fs)))) else .bad
    | _ => .bad)
  | _, _ => .bad
theorem ss_fld {cn f : Str} {ma mv : ME} {C : Addr} {pos' : Pos} {o value : Expr} (hK : X.K = G.K) (hC : G.cls cn = some C) (oc : OC X.K C) (nf : NoAttr X.K C f) (ha : PE X o (rdE G g Wx ma)) (hv : PE X value (rdE G g Wx mv)) (hs : swapsWith value (some (.Attribute o f pos')) pos.line X.env = pure false := by rfl) :
    PS X (.Assign [.Attribute o f pos'] value pos) (rdS G g Wx (sFldC cn f ma mv)) := PS.imp (ps_fld ha hv hs) fun D σ H ⟨w, env, st, hg, he, q⟩ => by
  refine ⟨w, env, st, hg, he, Ok.thenS he q fun x st1 w1 v H1 l1 g1 e1 x1 q1 => ?_⟩
  refine ⟨w1, env, st1, g1, e1, Ok.thenS e1 q1 fun u st2 w2 y H2 l2 g2 e2 x2 q2 => ?_⟩
  have x1' := x1.mono l2
  cases x with
  | x _ => exact (show False from q2).elim
  | c k => exact (show False from q2).elim
  | d d =>
    cases u with
    | x _ => exact (show False from q2).elim
    | d _ => exact (show False from q2).elim
    | c k =>
      obtain ⟨p, hp, rfl⟩ := x2
      simp only at q2
      split at q2
      · rename_i c' fs hst
        split at q2
        · rename_i hcn
          obtain ⟨hcn, hl⟩ := hcn
          subst hcn
          obtain ⟨c1, c0, C', dx, gs, h1, h2, h3⟩ := g2.cell k p _ hp hst
          rw [hC] at h2
          cases h2
          refine ⟨p, C, dx, gs, rfl, h1, oc.cl, nf, by rw [h3.length]; exact hl, ?_⟩
          exact q2 w2 σ _ (Le.refl _) (g2.write hp hst c0 ⟨c0, C, dx, putF f v gs, upd_same, hC, h3.put x1'⟩) e2
        · exact (show False from q2).elim
      · exact (show False from q2).elim

/-! ### methods of built-in types -/
/-- the receiver's kind -/
def isTy (T : String) : D → Bool
  | .str _ => T == "str"
  | .lst _ => T == "list"
  | .lsx _ => T == "list"
  | .int _ => T == "int"
  | _ => false
theorem tyV_of {S H : Hp} {v : V} {d : D} {T : String} (hK : X.K = G.K) (h : VAt G S H v d) (e : isTy T d = true) : tyV X.K T v H := by
  cases d with
  | str x => cases (show v = V.str (S2 x) from h); exact beq_iff_eq.mp e
  | int x => cases (show v = V.int x from h); exact beq_iff_eq.mp e
  | lst ds => obtain ⟨a, vs, rfl, h1, h2⟩ := h; exact .inl ⟨beq_iff_eq.mp e, vs, SqL.of h1⟩
  | lsx ds => obtain ⟨a, vs, rfl, h1, h2⟩ := h; exact .inl ⟨beq_iff_eq.mp e, vs, by rw [hK]; exact h1⟩
  | _ => cases e
/-- the method's work by value -/
abbrev OM := U → List U → Sto → R U
def SrvM (G : GE) (g : GI) (Wx : WX) (r : V → List V → Hp → VK → Prop) (o : OM) : Prop := ∀ w σ st H u us v vs Q, Good G g w st H → UAt G w v u → UAts G w vs us → Ok G g Wx (relU G) w σ (o u us st) Q → r v vs H Q
def mMeth (T : String) (o : OM) (m : ME) (r : MA) : ME := fun env st => (m env st).bind fun u st1 => match get st1 u with
  | some d => if isTy T d = true then (r env st1).bind fun us st2 => o u us st2 else .bad
  | none => .bad
theorem se_meth {T id : String} {name : Str} {apos cpos : Pos} {o : Expr} {r : V → List V → Hp → VK → Prop} {om : OM} {m : ME} {ma : MA} (hK : X.K = G.K) (s : SrvM G g Wx r om) (pa : PlainAttrs T) (slot : Slot T name id) (hty : typeOf (.builtin id) = pure (.type "method_descriptor")) (hm : MtR X id r) (ho : PE X o (rdE G g Wx m)) (ha : PA X (a :: es) (rdA G g Wx ma))
    (hbase : attributeBase o name X.env (eval o X.env) = eval o X.env := by rfl)
    (hfew : ((backTo cpos (starEach (a :: es) X.env)).all (fun x => !x.1) && (backToKw cpos (keywordEach [] X.env)).all (fun x => x.1.isSome)
      && decide ((a :: es).length + ([] : List Keyword).length + (if ([] : List Keyword).isEmpty then 0 else 1) < 30)) = true := by rfl)
    (hline : (apos.endLine == cpos.line) = true := by rfl) (hs : starEach (a :: es) X.env = (false, eval a X.env) :: starEach es X.env := by rfl) (hplain : (backTo cpos (starEach es X.env)).any (·.1) = false := by rfl) :
    PE X (.Call (.Attribute o name apos) (a :: es) [] cpos) (rdE G g Wx (mMeth T om m ma)) :=
  PE.imp (pe_bm pa slot hty hm ho ha hbase hfew hline hs hplain) fun σ H Q ⟨w, env, st, hg, he, q⟩ => by
    refine ⟨w, env, st, hg, he, Ok.bind q fun u st1 w1 v H1 l1 g1 x1 q1 => ?_⟩
    cases e4 : get st1 u with
    | none => simp only [e4] at q1; exact (show False from q1).elim
    | some d =>
      simp only [e4] at q1
      split at q1
      · rename_i ht
        refine ⟨tyV_of hK (g1.view x1 e4) ht, w1, env, st1, g1, he.mono l1, Ok.bind q1 fun us st2 w2 vs H2 l2 g2 x2 q2 => ?_⟩
        exact s w2 σ st2 H2 u us v vs Q g2 (x1.mono l2) x2 q2
      · exact (show False from q1).elim
def mMeth0 (T : String) (o : OM) (m : ME) : ME := fun env st => (m env st).bind fun u st1 => match get st1 u with
  | some d => if isTy T d = true then o u [] st1 else .bad
  | none => .bad
theorem se_meth0 {T id : String} {name : Str} {apos cpos : Pos} {o : Expr} {r : V → List V → Hp → VK → Prop} {om : OM} {m : ME} (hK : X.K = G.K) (s : SrvM G g Wx r om) (pa : PlainAttrs T) (slot : Slot T name id) (hty : typeOf (.builtin id) = pure (.type "method_descriptor")) (hm : MtR X id r) (ho : PE X o (rdE G g Wx m))
    (hbase : attributeBase o name X.env (eval o X.env) = eval o X.env := by rfl) (hline : (apos.endLine == cpos.line) = true := by rfl) : PE X (.Call (.Attribute o name apos) [] [] cpos) (rdE G g Wx (mMeth0 T om m)) :=
  PE.imp (pe_bm0 pa slot hty hm ho hbase hline) fun σ H Q ⟨w, env, st, hg, he, q⟩ => by
    refine ⟨w, env, st, hg, he, Ok.bind q fun u st1 w1 v H1 l1 g1 x1 q1 => ?_⟩
    cases e4 : get st1 u with
    | none => simp only [e4] at q1; exact (show False from q1).elim
    | some d =>
      simp only [e4] at q1
      split at q1
      · rename_i ht
        exact ⟨tyV_of hK (g1.view x1 e4) ht, s w1 σ st1 H1 u [] v [] Q g1 x1 .nil q1⟩
      · exact (show False from q1).elim
/-! on a list in a cell -/
/-- f: what it leaves and hands back -/
def oCell (f : List D → List D → Option (List D × D)) : OM := fun u us st => match u with
  | .c k => (match st[k]?, datas us with
    | some (some (.lst xs)), some ds => (match f xs ds with
      | some (ys, d) => .ok (.d d) (st.set k (some (.lst ys)))
      | none => .bad)
    | _, _ => .bad)
  | _ => .bad
theorem oCell_ok {f : List D → List D → Option (List D × D)} {w : W} {σ : L2.St} {st : Sto} {H : Hp} {u : U} {us : List U} {v : V} {vs : List V} {Q : VK} {P : Prop} (hg : Good G g w st H) (hu : UAt G w v u) (hv : UAts G w vs us) (h : Ok G g Wx (relU G) w σ (oCell f u us st) Q)
    (k : ∀ p xs zs ds ys d, v = .ref p → H p = some (.lst zs) → DAts G w.S zs xs → DAts G w.S vs ds → f xs ds = some (ys, d) → (∀ zs' z, DAts G w.S zs' ys → DAt G w.S z d → Q z (upd H p (.lst zs'))) → P) : P := by
  cases u with
  | x _ => exact (show False from h).elim
  | d _ => exact (show False from h).elim
  | c j =>
    obtain ⟨p, hp, rfl⟩ := hu
    unfold oCell at h
    simp only at h
    split at h
    · rename_i xs ds hst hd
      split at h
      · rename_i ys d hf
        obtain ⟨c1, c0, zs, h1, h2⟩ := hg.cell j p _ hp hst
        refine k p xs zs ds ys d rfl h1 h2 (hv.data hd) hf fun zs' z q1 q2 => ?_
        exact h w z _ (Le.refl _) (hg.write hp hst c0 ⟨c0, zs', upd_same, q1⟩) q2
      · exact (show False from h).elim
    · exact (show False from h).elim
def oAppend : OM := oCell fun xs ds => match ds with
  | [d] => if xs.length < sizeL then some (xs ++ [d], .non) else none
  | _ => none
theorem oAppend_serve : SrvM G g Wx rAppend oAppend := by
  intro w σ st H u us v vs Q hg hu hv h
  refine oCell_ok hg hu hv h fun p xs zs ds ys d e h1 h2 h3 hf k => ?_
  split at hf
  · rename_i d'
    split at hf
    · rename_i hl
      cases hf
      obtain ⟨y, r, rfl, h4, h5⟩ := h3.inv
      rw [h5.inv0]
      exact ⟨p, zs, y, e, rfl, h1, by rw [h2.length, sizeL_eq]; exact hl, k _ .non (h2.append (.cons h4 .nil)) rfl⟩
    · cases hf
  · cases hf
def oPop : OM := oCell fun xs ds => match ds with
  | [] => match xs[xs.length - 1]? with
    | some d => some (xs.dropLast, d)
    | none => none
  | _ => none
theorem DAts.dropLast {S : Hp} {ds : List D} {vs : List V} (h : DAts G S vs ds) : DAts G S vs.dropLast ds.dropLast := by
  rw [List.dropLast_eq_take, List.dropLast_eq_take, h.length]
  exact h.take _
theorem oPop_serve : SrvM G g Wx rPop oPop := by
  intro w σ st H u us v vs Q hg hu hv h
  refine oCell_ok hg hu hv h fun p xs zs ds ys d e h1 h2 h3 hf k => ?_
  split at hf
  · split at hf
    · rename_i d' hd
      cases hf
      obtain ⟨y, hy, hyd⟩ := h2.get hd
      rw [h3.inv0]
      exact ⟨p, zs, y, e, rfl, h1, by rw [h2.length]; exact hy, k _ y h2.dropLast hyd⟩
    · cases hf
  · cases hf
def oPopAt : OM := oCell fun xs ds => match ds with
  | [.int i] => if rgOk i = true then (match seqIndex? i xs.length with
    | some j => match xs[j]? with
      | some d => some (xs.eraseIdx j, d)
      | none => none
    | none => none) else none
  | _ => none
theorem oPopAt_serve : SrvM G g Wx rPopAt oPopAt := by
  intro w σ st H u us v vs Q hg hu hv h
  refine oCell_ok hg hu hv h fun p xs zs ds ys d e h1 h2 h3 hf k => ?_
  split at hf
  · rename_i i
    split at hf
    · rename_i hr
      have hr' : -(2 ^ 62) ≤ i ∧ i < 2 ^ 62 := rgOk_is hr
      split at hf
      · rename_i j hj
        split at hf
        · rename_i d' hd
          cases hf
          obtain ⟨y, hy, hyd⟩ := h2.get hd
          obtain ⟨y', r, rfl, h4, h5⟩ := h3.inv
          rw [h5.inv0]
          cases (show y' = V.int i from h4)
          exact ⟨p, zs, i, j, y, e, rfl, h1, by omega, by omega, by rw [h2.length]; exact hj, hy, k _ y (h2.erase j) hyd⟩
        · cases hf
      · cases hf
    · cases hf
  · cases hf
def oReverse : OM := oCell fun xs ds => match ds with
  | [] => some (xs.reverse, .non)
  | _ => none
theorem oReverse_serve : SrvM G g Wx rReverse oReverse := by
  intro w σ st H u us v vs Q hg hu hv h
  refine oCell_ok hg hu hv h fun p xs zs ds ys d e h1 h2 h3 hf k => ?_
  split at hf
  · cases hf
    rw [h3.inv0]
    exact ⟨p, zs, e, rfl, h1, k _ .non h2.rev rfl⟩
  · cases hf
def oClear : OM := oCell fun xs ds => match ds with
  | [] => some ([], .non)
  | _ => none
theorem oClear_serve : SrvM G g Wx rClear oClear := by
  intro w σ st H u us v vs Q hg hu hv h
  refine oCell_ok hg hu hv h fun p xs zs ds ys d e h1 h2 h3 hf k => ?_
  split at hf
  · cases hf
    rw [h3.inv0]
    exact ⟨p, zs, e, rfl, h1, k _ .non .nil rfl⟩
  · cases hf
def oExtend : OM := oCell fun xs ds => match ds with
  | [.lst zs] => if xs.length + zs.length ≤ sizeL then some (xs ++ zs, .non) else none
  | _ => none
theorem oExtend_serve : SrvM G g Wx rExtend oExtend := by
  intro w σ st H u us v vs Q hg hu hv h
  refine oCell_ok hg hu hv h fun p xs zs ds ys d e h1 h2 h3 hf k => ?_
  split at hf
  · rename_i ws
    split at hf
    · rename_i hl
      cases hf
      obtain ⟨y, r, rfl, h4, h5⟩ := h3.inv
      rw [h5.inv0]
      obtain ⟨b, us', rfl, h6, h7⟩ := h4
      exact ⟨p, b, zs, us', e, rfl, h1, hg.sub _ _ h6, by rw [h2.length, h7.length, sizeL_eq]; exact hl, k _ .non (h2.append h7) rfl⟩
    · cases hf
  · cases hf
/-! xs[i] = v, xs in a cell -/
def gSubC (mo mi : ME) : MG := fun u env st => (mo env st).thenS env fun o st1 => (mi env st1).thenS env fun i st2 => match u, o, i with
  | .d d, .c k, .d (.int i) => (match st2[k]? with
    | some (some (.lst xs)) => (match ixN xs.length i with
      | some j => .nx env (st2.set k (some (.lst (xs.set j d))))
      | none => .bad)
    | _ => .bad)
  | _, _, _ => .bad
theorem sg_sub {o i : Expr} {mo mi : ME} (ho : PE X o (rdE G g Wx mo)) (hi : PE X i (rdE G g Wx mi))
    (ha : ∀ v, assign (.Subscript o i pos) X.env v = (do
      let ov ← holding [v] (eval o X.env)
      let iv ← holding [v, ov] (eval i X.env)
      standAt pos
      holding [v, ov, iv] (setItem ov iv v)
      release [v, ov, iv] []) := by intro _; rfl) : SG X G g Wx (.Subscript o i pos) (gSubC mo mi) := by
  refine ⟨_, pg_sub ho hi set_list ha, fun w v u σ env st H D hg he hu q => ?_⟩
  refine ⟨w, env, st, hg, he, Ok.thenS he q fun o' st1 w1 vo H1 l1 g1 e1 x1 q1 => ?_⟩
  refine ⟨w1, env, st1, g1, e1, Ok.thenS e1 q1 fun i' st2 w2 vi H2 l2 g2 e2 x2 q2 => ?_⟩
  have hu2 := hu.mono (l1.trans l2)
  have x1' := x1.mono l2
  split at q2
  · rename_i d k i
    obtain ⟨p, hp, rfl⟩ := x1'
    split at q2
    · rename_i xs hst
      split at q2
      · rename_i j hj
        obtain ⟨c1, c0, zs, h1, h2⟩ := g2.cell k p _ hp hst
        exact ⟨p, zs, i, j, rfl, x2, h1, by rw [h2.length]; exact hj, q2 w2 σ _ (Le.refl _) (g2.write hp hst c0 ⟨c0, _, upd_same, h2.set j hu2⟩) e2⟩
      · exact (show False from q2).elim
    · exact (show False from q2).elim
  · exact (show False from q2).elim
end
end LV

/-! LVl -/
set_option Elab.async false
set_option linter.all false
set_option maxRecDepth 100000
set_option maxHeartbeats 2000000
/-! LVl: sorting. -/
namespace LV
open PySem L2 PyProof.Rows
section
variable {α : Type} {lt : α → α → Bool}
def ins (lt : α → α → Bool) (x : α) : List α → List α
  | [] => [x]
  | y :: ys => if lt y x = true then y :: ins lt x ys else x :: y :: ys
def isrt (lt : α → α → Bool) : List α → List α
  | [] => []
  | x :: xs => ins lt x (isrt lt xs)
theorem ins_perm (x : α) : ∀ l : List α, (ins lt x l).Perm (x :: l)
  | [] => List.Perm.refl _
  | y :: ys => by
    unfold ins
    split
    · exact ((ins_perm x ys).cons y).trans (List.Perm.swap x y ys)
    · exact List.Perm.refl _
theorem isrt_perm : ∀ l : List α, (isrt lt l).Perm l
  | [] => List.Perm.refl _
  | x :: xs => by
    unfold isrt
    exact (ins_perm x _).trans ((isrt_perm xs).cons x)
/-- a strict total order -/
structure Tot (lt : α → α → Bool) : Prop where
  as : ∀ x y, lt x y = true → lt y x = false
  tr : ∀ x y z, lt y x = false → lt z y = false → lt z x = false
  an : ∀ x y, lt x y = false → lt y x = false → x = y
abbrev Asc (lt : α → α → Bool) (l : List α) : Prop := l.Pairwise fun x y => lt y x = false
theorem ins_asc (T : Tot lt) (x : α) : ∀ {l : List α}, Asc lt l → Asc lt (ins lt x l)
  | [], _ => List.pairwise_singleton _ _
  | y :: ys, h => by
    unfold ins
    have h' := List.pairwise_cons.mp h
    split
    · rename_i hl
      refine List.pairwise_cons.mpr ⟨fun z hz => ?_, ins_asc T x h'.2⟩
      rcases List.mem_cons.mp ((ins_perm x ys).mem_iff.mp hz) with rfl | hz
      · exact T.as _ _ hl
      · exact h'.1 z hz
    · rename_i hl
      have hl : lt y x = false := by simpa using hl
      refine List.pairwise_cons.mpr ⟨fun z hz => ?_, h⟩
      rcases List.mem_cons.mp hz with rfl | hz
      · exact hl
      · exact T.tr x y z hl (h'.1 z hz)
theorem isrt_asc (T : Tot lt) : ∀ l : List α, Asc lt (isrt lt l)
  | [] => List.Pairwise.nil
  | x :: xs => by unfold isrt; exact ins_asc T x (isrt_asc T xs)
theorem asc_uniq (T : Tot lt) : ∀ {l m : List α}, l.Perm m → Asc lt l → Asc lt m → l = m
  | [], m, h, _, _ => by rw [h.nil_eq]
  | x :: xs, [], h, _, _ => by have := h.length_eq; simp at this
  | x :: xs, y :: ys, h, h1, h2 => by
    have a1 := List.pairwise_cons.mp h1
    have a2 := List.pairwise_cons.mp h2
    have irr : ∀ z, lt z z = false := fun z => by
      cases e : lt z z with
      | false => rfl
      | true => have := T.as z z e; rw [e] at this; exact this
    have e1 : lt y x = false := by
      have : y ∈ x :: xs := h.mem_iff.mpr List.mem_cons_self
      rcases List.mem_cons.mp this with e | hm
      · rw [e]; exact irr x
      · exact a1.1 y hm
    have e2 : lt x y = false := by
      have : x ∈ y :: ys := h.mem_iff.mp List.mem_cons_self
      rcases List.mem_cons.mp this with e | hm
      · rw [e]; exact irr y
      · exact a2.1 x hm
    have e := T.an x y e2 e1
    subst e
    rw [asc_uniq T (List.Perm.cons_inv h) a1.2 a2.2]
theorem isrt_eq (T : Tot lt) {l m : List α} (h : m.Perm l) (a : Asc lt m) : m = isrt lt l := asc_uniq T (h.trans (isrt_perm l).symm) a (isrt_asc T l)
end
def ltI (x y : Int) : Bool := decide (x < y)
theorem tot_I : Tot ltI := by
  refine ⟨fun x y h => ?_, fun x y z h1 h2 => ?_, fun x y h1 h2 => ?_⟩
  · simp [ltI] at *; omega
  · simp [ltI] at *; omega
  · simp [ltI] at *; omega
def ltP (x y : Int × Int) : Bool := SrtO.lexB x y
theorem tot_P : Tot ltP := by
  have key : ∀ x y : Int × Int, ltP x y = false ↔ (y.1 < x.1 ∨ (x.1 = y.1 ∧ y.2 ≤ x.2)) := fun x y => by
    unfold ltP SrtO.lexB
    by_cases h : x.1 = y.1
    · rw [if_pos h, decide_eq_false_iff_not]; omega
    · rw [if_neg h, decide_eq_false_iff_not]; omega
  refine ⟨fun x y h => ?_, fun x y z h1 h2 => ?_, fun x y h1 h2 => ?_⟩
  · rw [key]
    have : ¬ ltP x y = false := by rw [h]; decide
    rw [key] at this
    omega
  · rw [key] at *; omega
  · rw [key] at h1 h2
    have e1 : x.1 = y.1 := by omega
    have e2 : x.2 = y.2 := by omega
    exact Prod.ext e1 e2

abbrev ltS : List Nat → List Nat → Bool := PySem.Spec.ltCps
theorem tot_S : Tot ltS := by
  have as : ∀ x y, ltS x y = true → ltS y x = false := by
    intro x
    induction x with
    | nil => intro y h; cases y <;> simp [ltS, PySem.Spec.ltCps] at h ⊢
    | cons a r ih =>
      intro y h
      cases y with
      | nil => simp [ltS, PySem.Spec.ltCps] at h
      | cons b t =>
        simp only [ltS, PySem.Spec.ltCps, Bool.or_eq_true, Bool.and_eq_true, decide_eq_true_eq, beq_iff_eq] at h
        simp only [ltS, PySem.Spec.ltCps, Bool.or_eq_false_iff, Bool.and_eq_false_iff, decide_eq_false_iff_not, beq_eq_false_iff_ne]
        rcases h with h | ⟨h1, h2⟩
        · exact ⟨by omega, .inl (by omega)⟩
        · exact ⟨by omega, .inr (ih t h2)⟩
  have an : ∀ x y, ltS x y = false → ltS y x = false → x = y := by
    intro x
    induction x with
    | nil => intro y h1 h2; cases y with
      | nil => rfl
      | cons b t => simp [ltS, PySem.Spec.ltCps] at h1
    | cons a r ih =>
      intro y h1 h2
      cases y with
      | nil => simp [ltS, PySem.Spec.ltCps] at h2
      | cons b t =>
        simp only [ltS, PySem.Spec.ltCps, Bool.or_eq_false_iff, Bool.and_eq_false_iff, decide_eq_false_iff_not, beq_eq_false_iff_ne] at h1 h2
        have e : a = b := by omega
        subst e
        rw [ih t (by simpa using h1.2) (by simpa using h2.2)]
  have tr : ∀ x y z, ltS y x = false → ltS z y = false → ltS z x = false := by
    intro x
    induction x with
    | nil =>
      intro y z h1 h2
      cases z with
      | nil => rfl
      | cons c u => rfl
    | cons a r ih =>
      intro y z h1 h2
      cases y with
      | nil => simp [ltS, PySem.Spec.ltCps] at h1
      | cons b t =>
        cases z with
        | nil => simp [ltS, PySem.Spec.ltCps] at h2
        | cons c u =>
          simp only [ltS, PySem.Spec.ltCps, Bool.or_eq_false_iff, Bool.and_eq_false_iff, decide_eq_false_iff_not, beq_eq_false_iff_ne] at h1 h2 ⊢
          refine ⟨by omega, ?_⟩
          by_cases e : c = a
          · subst e
            have e2 : b = c := by omega
            subst e2
            exact .inr (ih t u (by simpa using h1.2) (by simpa using h2.2))
          · exact .inl e
  exact ⟨as, tr, an⟩
/-- what the sort of texts promises -/
theorem rising_asc : ∀ (l : List (List Nat)) (p : List Nat), PyProof.Rows.risingS (S2 p) (l.map S2) = true → Asc ltS (p :: l)
  | [], p, _ => List.pairwise_singleton _ _
  | x :: r, p, h => by
    have h' : (!PySem.Spec.ltCps (S2 x).cps.toList (S2 p).cps.toList && PyProof.Rows.risingS (S2 x) (r.map S2)) = true := h
    rw [S2_cps, S2_cps, Bool.and_eq_true] at h'
    have ih := rising_asc r x h'.2
    have hx : ltS x p = false := by simpa using h'.1
    refine List.pairwise_cons.mpr ⟨fun z hz => ?_, ih⟩
    rcases List.mem_cons.mp hz with rfl | hz
    · exact hx
    · exact tot_S.tr p x z hx ((List.pairwise_cons.mp ih).1 z hz)
theorem sorted_asc {l : List (List Nat)} (h : PyProof.Rows.sortedS (l.map S2) = true) : Asc ltS l := by
  cases l with
  | nil => exact List.Pairwise.nil
  | cons x r => exact rising_asc r x h
def prD (p : Int × Int) : D := .tup [.int p.1, .int p.2]
def prsOf : List D → Option (List (Int × Int))
  | [] => some []
  | .tup [.int i, .int j] :: r => (prsOf r).map ((i, j) :: ·)
  | _ :: _ => none
theorem prsOf_eq : ∀ {ds : List D} {ns : List (Int × Int)}, prsOf ds = some ns → ds = ns.map prD
  | [], ns, h => by cases h; rfl
  | d :: r, ns, h => by
    unfold prsOf at h
    split at h
    · rename_i e; cases e
    · rename_i i j r' e
      cases e
      obtain ⟨ms, h1, rfl⟩ := Option.map_eq_some_iff.mp h
      rw [prsOf_eq h1]; rfl
    · cases h
def fSorted : List D → Option (List D)
  | [.lst ds] => match intsOf ds with
    | some ns => some ((isrt ltI ns).map D.int)
    | none => match strsOf ds with
      | some xs => if xs.length < 64 then some ((isrt ltS xs).map D.str) else none
      | none => match prsOf ds with
        | some ps => some ((isrt ltP ps).map prD)
        | none => none
  | _ => none
section
variable {X : Cx} {G : GE} {g : GI} {Wx : WX}
theorem S2s_inj : ∀ {l m : List (List Nat)}, l.map S2 = m.map S2 → l = m
  | [], [], _ => rfl
  | [], _ :: _, h => by simp at h
  | _ :: _, [], h => by simp at h
  | x :: xs, y :: ys, h => by
    rw [List.map_cons, List.map_cons] at h
    injection h with h1 h2
    rw [S2_inj h1, S2s_inj h2]
def unS (x : Str) : List Nat := x.cps.toList
theorem unS_S2 (x : Str) : S2 (unS x) = x := by
  obtain ⟨c⟩ := x
  simp [unS, S2]
def kOf (H : Hp) (x : V) : Int × Int := match x with
  | .ref t => match H t with
    | some (.tup [.int i, .int j]) => (i, j)
    | _ => (0, 0)
  | _ => (0, 0)
theorem pairs_k {S H : Hp} (e : Ex S H) : ∀ {ps : List (Int × Int)} {vs : List V}, DAts G S vs (ps.map prD) → vs.map (kOf H) = ps ∧ ∀ x ∈ vs, (∃ t, x = V.ref t ∧ H t = some (.tup [.int (kOf H x).1, .int (kOf H x).2])) ∧ DAt G S x (prD (kOf H x))
  | [], _, h => by rw [h.inv0]; exact ⟨rfl, fun x hx => by cases hx⟩
  | p :: ps, _, h => by
    obtain ⟨v, r, rfl, h1, h2⟩ := h.inv
    obtain ⟨i1, i2⟩ := pairs_k e h2
    have h1' := h1
    obtain ⟨a, vs, rfl, h3, h4⟩ := h1
    obtain ⟨v1, r1, rfl, h5, h6⟩ := h4.inv
    obtain ⟨v2, r2, rfl, h7, h8⟩ := h6.inv
    rw [h8.inv0] at h3
    cases (show v1 = V.int p.1 from h5)
    cases (show v2 = V.int p.2 from h7)
    have e1 : kOf H (.ref a) = p := by
      unfold kOf
      simp only [e _ _ h3]
    refine ⟨by rw [List.map_cons, e1, i1], fun x hx => ?_⟩
    rcases List.mem_cons.mp hx with rfl | hx
    · rw [e1]; exact ⟨⟨a, rfl, e _ _ h3⟩, h1'⟩
    · exact i2 x hx
theorem dats_of {S : Hp} {f : V → D} : ∀ {vs : List V}, (∀ x ∈ vs, DAt G S x (f x)) → DAts G S vs (vs.map f)
  | [], _ => .nil
  | v :: vs, h => .cons (h v List.mem_cons_self) (dats_of fun x hx => h x (List.mem_cons_of_mem _ hx))
theorem fSorted_serve : ∃ r, CallR X (.builtin "sorted") r ∧ SrvL G r fSorted := by
  refine ⟨fun vs H Q => rSortedI X.K vs H Q ∨ rSortedS X.K vs H Q ∨ rSortedPO X.K vs H Q, fun pins s σ H xs us Q I r h => ?_, ?_⟩
  · rcases h with h | h | h
    · exact cr_sortedI pins s σ H xs us Q I r h
    · exact cr_sortedS pins s σ H xs us Q I r h
    · exact cr_sortedPO pins s σ H xs us Q I r h
  intro S H vs ds d Q e hv hd hf
  unfold fSorted at hd
  split at hd
  · rename_i ds
    obtain ⟨v, rfl, a, vs, rfl, h1, h2⟩ := hv.one
    split at hd
    · rename_i ns hi
      cases hd
      rw [intsOf_eq hi] at h2
      have h3 := h2.toInts
      subst h3
      refine .inl ⟨a, ns, rfl, SqL.of h1, fun ns' p q1 q2 hp => ?_⟩
      rw [← isrt_eq (m := ns') tot_I q1 (q2.imp fun {x y} h => by simp [ltI]; omega)] at hf
      exact hf p _ hp DAts.ints
    · split at hd
      · rename_i xs hi
        split at hd
        · rename_i hl
          cases hd
          rw [strsOf_eq hi] at h2
          have h3 := h2.toStrs
          subst h3
          refine .inr (.inl ⟨a, xs.map S2, rfl, SqL.of h1, by simpa using hl, fun ys p q1 q2 hp => ?_⟩)
          have ey : ys = (ys.map unS).map S2 := by
            rw [List.map_map]
            conv => lhs; rw [← List.map_id ys]
            exact List.map_congr_left fun y _ => (unS_S2 y).symm
          have pe : (ys.map unS).Perm xs := by
            have := q1.map unS
            have e2 : (xs.map S2).map unS = xs := by
              rw [List.map_map]
              conv => rhs; rw [← List.map_id xs]
              exact List.map_congr_left fun y _ => by simp [unS, S2]
            rw [e2] at this
            exact this
          rw [ey] at q2
          rw [← isrt_eq tot_S pe (sorted_asc q2)] at hf
          rw [ey]
          refine hf p _ hp ?_
          have := DAts.strs (G := G) (S := S) (ys.map unS)
          rw [← ey] at this ⊢
          exact this
        · cases hd
      · split at hd
        · rename_i ps hi
          cases hd
          rw [prsOf_eq hi] at h2
          obtain ⟨k1, k2⟩ := pairs_k e h2
          refine .inr (.inr ⟨a, vs, kOf H, rfl, SqL.of h1, fun x hx => (k2 x hx).1, fun ys p q1 q2 hp => ?_⟩)
          have pe : (ys.map (kOf H)).Perm ps := by
            have := q2.perm.map (kOf H)
            rw [k1] at this
            exact this
          have as : Asc ltP (ys.map (kOf H)) := List.pairwise_map.mpr q1
          rw [← isrt_eq tot_P pe as, List.map_map] at hf
          exact hf p ys hp (dats_of fun x hx => (k2 x (q2.perm.mem_iff.mp hx)).2)
        · cases hd
  · cases hd
end
end LV

/-! LVm -/
set_option Elab.async false
set_option linter.all false
set_option maxRecDepth 100000
set_option maxHeartbeats 2000000
/-! LVm: look-up in a dict whose keys are texts, numbers, None and tuples together. -/
namespace LV
open PySem PySem.Spec PyProof.Rows SeqAt
abbrev Yt := NestedKey × Value × Value
def fi (ys : List Yt) (k : NestedKey) : Option Nat := ys.findIdx? fun y => decide (y.1 = k)
/-- the table of a dict, in the heap -/
structure TabAt (w : World) (h : Heap) (es : Array DictEntry) (ys : List Yt) : Prop where
  es : es.toList = ys.map (entOf w)
  key : ∀ y ∈ ys, NestedIs h y.1 y.2.1 ∧ y.1.depth ≤ 8
  nd : (ys.map (·.1)).Nodup
theorem TabAt.get {w : World} {h : Heap} {es : Array DictEntry} {ys : List Yt} (T : TabAt w h es ys) (j : Nat) : es[j]? = (ys[j]?).map (entOf w) := by
  rw [← Array.getElem?_toList, T.es, List.getElem?_map]
theorem TabAt.size {w : World} {h : Heap} {es : Array DictEntry} {ys : List Yt} (T : TabAt w h es ys) : es.size = ys.length := by
  rw [← Array.length_toList, T.es, List.length_map]
theorem fi_some {ys : List Yt} {k : NestedKey} (nd : (ys.map (·.1)).Nodup) {j : Nat} {y : Yt} (h : ys[j]? = some y) (e : y.1 = k) : fi ys k = some j := by
  unfold fi
  obtain ⟨hj, hy⟩ := List.getElem?_eq_some_iff.mp h
  rw [List.findIdx?_eq_some_iff_getElem]
  refine ⟨hj, by rw [hy]; simpa using e, fun i hi => ?_⟩
  have hi' : i < ys.length := Nat.lt_trans hi hj
  intro q
  have q : ys[i].1 = k := by simpa using q
  have a1 : (ys.map (·.1))[i]? = some k := by rw [List.getElem?_map, List.getElem?_eq_getElem hi', Option.map_some, q]
  have a2 : (ys.map (·.1))[j]? = some k := by rw [List.getElem?_map, h, Option.map_some, e]
  have := (List.getElem?_inj (List.getElem?_eq_some_iff.mp a1).1 nd).mp (a1.trans a2.symm)
  omega
theorem fi_none {ys : List Yt} {k : NestedKey} (h : ∀ y ∈ ys, y.1 ≠ k) : fi ys k = none := by
  unfold fi
  rw [List.findIdx?_eq_none_iff]
  intro y hy
  simpa using h y hy
theorem fi_at {ys : List Yt} {k : NestedKey} {j : Nat} (h : fi ys k = some j) : ∃ y, ys[j]? = some y ∧ y.1 = k := by
  unfold fi at h
  rw [List.findIdx?_eq_some_iff_getElem] at h
  obtain ⟨hj, e, _⟩ := h
  exact ⟨ys[j], List.getElem?_eq_getElem hj, by simpa using e⟩
section
variable {prog : Program} {w : World} {A : Around} {E : Value → Shared → Prop} {s : Shared} {d : Addr} {o : Obj} {es : Array DictEntry} {ep : Nat} {ys : List Yt} {k : NestedKey} {kv v : Value}
theorem tellsNot {stored : List Value} {Q : Bool → Shared → Prop} (hk : NestedIs s.heap k kv) (hd : k.depth ≤ 8) (hst : ∀ u ∈ stored, ∃ k', NestedIs s.heap k' u ∧ k'.depth ≤ 8) (h : Q false s) : wpAny (model prog w) A (tableMayTell kv stored) Q E s := by
  unfold tableMayTell
  split
  · exact wpAny_pure h
  · refine wpAny_bind (quiet_key k kv 8 s hk hd A E _ ?_)
    simp only [Bool.not_true, Bool.false_eq_true, if_false]
    refine wpAny_bind ?_
    refine wpAny_forIn_list _ (fun rest r s' => s' = s ∧ r = (none, ()) ∧ ∀ u ∈ rest, ∃ k', NestedIs s.heap k' u ∧ k'.depth ≤ 8) _ ?_ ?_ _ _ ⟨rfl, rfl, hst⟩
    · rintro x rest r s' ⟨rfl, rfl, hr⟩
      obtain ⟨k', hb, hb2⟩ := hr x List.mem_cons_self
      refine wpAny_bind (quiet_key k' x 8 s' hb hb2 A E _ ?_)
      simp only [Bool.not_true, Bool.false_eq_true, if_false]
      exact wpAny_pure ⟨rfl, rfl, fun u hu => hr u (List.mem_cons_of_mem _ hu)⟩
    · rintro r s' ⟨rfl, rfl, _⟩
      exact wpAny_pure h
theorem eqKeys {x y : NestedKey} {a b : Value} {Q : Bool → Shared → Prop} (hu : A.units + 8 < cLine) (hx : NestedIs s.heap x a) (hy : NestedIs s.heap y b) (dx : x.depth ≤ 8) (h : Q (decide (x = y)) s) : wpAny (model prog w) A (eqBool a b) Q E s :=
  eqAt_key x y A s a b hx hy (by omega) _ _ _ _ (by rw [← NestedKey.decide_eq]; exact h)
/-- the entries that the look-up asks -/
theorem places_in (T : TabAt w s.heap es ys) {i : Nat} (h : i ∈ placesWithHash es.size (fun i => es[i]?.map (·.hash)) (k.hash w)) : ∃ y, ys[i]? = some y ∧ es[i]? = some (entOf w y) ∧ y.1.hash w = k.hash w := by
  unfold placesWithHash at h
  obtain ⟨h1, h2⟩ := List.mem_filter.mp h
  have hi : i < ys.length := by rw [← T.size]; exact List.mem_range.mp h1
  have e : es[i]? = some (entOf w ys[i]) := by rw [T.get, List.getElem?_eq_getElem hi]; rfl
  refine ⟨ys[i], List.getElem?_eq_getElem hi, e, ?_⟩
  dsimp only at h2
  rw [e] at h2
  simpa [entOf] using h2
theorem places_of (T : TabAt w s.heap es ys) {i : Nat} {y : Yt} (h : ys[i]? = some y) (e : y.1 = k) : i ∈ placesWithHash es.size (fun i => es[i]?.map (·.hash)) (k.hash w) := by
  unfold placesWithHash
  refine List.mem_filter.mpr ⟨List.mem_range.mpr (by rw [T.size]; exact (List.getElem?_eq_some_iff.mp h).1), ?_⟩
  dsimp only
  rw [T.get, h]
  simp [entOf, e]
theorem find_none (T : TabAt w s.heap es ys) (h : ∀ i ∈ placesWithHash es.size (fun i => es[i]?.map (·.hash)) (k.hash w), ∀ y, ys[i]? = some y → y.1 ≠ k) : fi ys k = none := by
  refine fi_none fun y hy e => ?_
  obtain ⟨i, hi⟩ := List.mem_iff_getElem?.mp hy
  exact h i (places_of T hi e) y hi e
theorem dWalkPlain {Q : Option Nat → Shared → Prop} (hu : A.units + 8 < cLine) (hk : NestedIs s.heap k kv) (ho : s.heap.get? d = some o) (hd : o.data = .dict es ep) (T : TabAt w s.heap es ys) (h : Q (fi ys k) s) :
    wpAny (model prog w) A (dictWalkPlain d kv (k.hash w) es (placesWithHash es.size (fun i => es[i]?.map (·.hash)) (k.hash w))) Q E s := by
  unfold dictWalkPlain
  refine wpAny_bind (wpAny_forIn_list _ (fun rest r s' => s' = s ∧ r = (none, ()) ∧ ∃ pre, placesWithHash es.size (fun i => es[i]?.map (·.hash)) (k.hash w) = pre ++ rest ∧ ∀ i ∈ pre, ∀ y, ys[i]? = some y → y.1 ≠ k) _ ?_ ?_ _ _ ⟨rfl, rfl, [], rfl, fun i hi => by cases hi⟩)
  · rintro i rest r s' ⟨rfl, rfl, pre, hp, hno⟩
    obtain ⟨y, h1, h2, h3⟩ := places_in (k := k) T (i := i) (by rw [hp]; simp)
    have hy := T.key y (List.mem_of_getElem? h1)
    have hon : ∀ (ne : y.1 ≠ k), ∃ pre', placesWithHash es.size (fun i => es[i]?.map (·.hash)) (k.hash w) = pre' ++ rest ∧ ∀ i ∈ pre', ∀ y, ys[i]? = some y → y.1 ≠ k := fun ne =>
      ⟨pre ++ [i], by rw [hp]; simp, fun j hj z hz => by
        rcases List.mem_append.mp hj with hj | hj
        · exact hno j hj z hz
        · have : j = i := by simpa using hj
          subst this
          rw [h1] at hz; cases hz
          exact ne⟩
    rw [h2]
    dsimp only
    rw [if_pos (show ((entOf w y).hash == k.hash w) = true by simp [entOf, h3])]
    refine wpAny_bind (wpAny_dictEpoch ho hd (wpAny_bind (eqKeys hu hy.1 hk hy.2 (wpAny_bind (wpAny_dictEpoch ho hd ?_)))))
    show wpAny _ _ (if (ep != ep) = true then _ else _) _ E _
    rw [if_neg (by simp)]
    by_cases e : y.1 = k
    · rw [decide_eq_true e]
      rw [fi_some T.nd h1 e] at h
      exact wpAny_bind (wpAny_rule (wpAny_pure (wpAny_pure h)))
    · rw [decide_eq_false e]
      exact wpAny_bind (wpAny_rule (wpAny_pure ⟨rfl, rfl, hon e⟩))
  · rintro r s' ⟨rfl, rfl, pre, hp, hno⟩
    rw [find_none T fun i hi => hno i (by rw [hp, List.append_nil] at hi; exact hi)] at h
    exact wpAny_pure h
theorem findIdx_same {α : Type} {p q : α → Bool} : ∀ {l : List α}, (∀ a ∈ l, p a = q a) → l.findIdx? p = l.findIdx? q
  | [], _ => rfl
  | a :: l, h => by
    rw [List.findIdx?_cons, List.findIdx?_cons, h a List.mem_cons_self, findIdx_same fun b hb => h b (List.mem_cons_of_mem _ hb)]
theorem found_same {x : Str} (T : TabAt w s.heap es ys) : (es.findIdx? fun e => e.key.isStr x) = fi ys (.text x) := by
  unfold fi
  have ee : es = (ys.map (entOf w)).toArray := by
    rw [← T.es]
  rw [ee, List.findIdx?_toArray, List.findIdx?_map]
  have : ∀ y ∈ ys, ((fun e : DictEntry => e.key.isStr x) ∘ entOf w) y = decide (y.1 = .text x) := fun y hy => by
    have := (T.key y hy).1
    show y.2.1.isStr x = decide (y.1 = .text x)
    generalize y.2.1 = v at this
    generalize y.1 = n at this
    cases this with
    | text z t => by_cases e : z = x <;> simp [Value.isStr, e]
    | _ => simp [Value.isStr]
  exact findIdx_same this
theorem dFind {Q : Option Nat → Shared → Prop} (hu : A.units + 8 < cLine) (hk : NestedIs s.heap k kv) (hdk : k.depth ≤ 8) (ho : s.heap.get? d = some o) (hd : o.data = .dict es ep) (T : TabAt w s.heap es ys) (h : Q (fi ys k) s) :
    wpAny (model prog w) A (dictFind d kv (k.hash w)) Q E s := by
  have nd := T.nd
  have hst : ∀ u ∈ (placesWithHash es.size (fun i => es[i]?.map (·.hash)) (k.hash w)).filterMap (fun i => es[i]?.map (·.key)), ∃ k', NestedIs s.heap k' u ∧ k'.depth ≤ 8 := by
    intro u hu
    obtain ⟨i, hi, e⟩ := List.mem_filterMap.mp hu
    obtain ⟨y, h1, h2, _⟩ := places_in T hi
    rw [h2] at e
    cases e
    exact ⟨y.1, T.key y (List.mem_of_getElem? h1)⟩
  have hany : ∀ a, kv = .ref a → ¬ (es.any fun e => e.key == kv && e.hash != k.hash w) = true := by
    rintro a rfl
    rw [← Array.any_toList, T.es, List.any_eq_true]
    rintro ⟨e, he, hc⟩
    obtain ⟨y, hy, rfl⟩ := List.mem_map.mp he
    rw [Bool.and_eq_true] at hc
    have h1 : y.2.1 = .ref a := eq_of_beq hc.1
    have h2 := (T.key y hy).1
    rw [h1] at h2
    have h3 := NestedIs.inj _ _ _ h2 hk
    have h4 := hc.2
    simp [entOf, h3] at h4
  have plain := dWalkPlain (prog := prog) (E := E) hu hk ho hd T h
  have found : ∀ x t, kv = .str x t → wpAny (model prog w) A (foundByValue d kv es x) Q E s := by
    rintro x t rfl
    cases hk
    unfold foundByValue
    rw [found_same T]
    cases hf : fi ys (.text x) with
    | none => rw [hf] at h; exact wpAny_pure h
    | some i =>
      rw [hf] at h
      obtain ⟨y, h1, h2⟩ := fi_at hf
      have hy := T.key y (List.mem_of_getElem? h1)
      have e : es[i]? = some (entOf w y) := by rw [T.get, h1]; rfl
      simp only [e]
      refine wpAny_bind (wpAny_dictEpoch ho hd (wpAny_bind (eqKeys hu hy.1 (.text x t) hy.2 (wpAny_bind (wpAny_dictEpoch ho hd ?_)))))
      show wpAny _ _ (if (ep != ep) = true then _ else _) _ E _
      rw [if_neg (by simp), decide_eq_true h2]
      exact wpAny_bind (wpAny_rule (wpAny_pure h))
  -- the loop over the places
  have turnOk : ∀ (i : Nat) (rest pre : List Nat), placesWithHash es.size (fun i => es[i]?.map (·.hash)) (k.hash w) = pre ++ i :: rest → ∃ y, ys[i]? = some y ∧ es[i]? = some (entOf w y) ∧ (entOf w y).hash == k.hash w ∧ NestedIs s.heap y.1 y.2.1 ∧ y.1.depth ≤ 8 := fun i rest pre hp => by
    obtain ⟨y, h1, h2, h3⟩ := places_in (k := k) T (i := i) (by rw [hp]; simp)
    exact ⟨y, h1, h2, by simp [entOf, h3], T.key y (List.mem_of_getElem? h1)⟩
  generalize hP : placesWithHash es.size (fun i => es[i]?.map (·.hash)) (k.hash w) = P at *
  generalize hS : P.filterMap (fun i => es[i]?.map (·.key)) = S at *
  have hfn : (∀ i ∈ P, ∀ y, ys[i]? = some y → y.1 ≠ k) → fi ys k = none := fun q => find_none T (by rw [hP]; exact q)
  have loop : ∀ (f : Nat → Option (Option Nat) × Option Nat → Sem (ForInStep (Option (Option Nat) × Option Nat))) (fl : Option (Option Nat) × Option Nat → Sem (Option Nat)), (∀ r h', fl (some r, h') = pure r) → (∀ h', fl (none, h') = pure h') →
      (∀ (i : Nat) (hit : Option Nat) (y : Yt) (Qt : ForInStep (Option (Option Nat) × Option Nat) → Shared → Prop), es[i]? = some (entOf w y) → ((entOf w y).hash == k.hash w) = true → NestedIs s.heap y.1 y.2.1 → y.1.depth ≤ 8 →
        (y.1 = k → hit = none ∧ Qt (.done (some (some i), hit)) s ∧ Qt (.yield (none, some i)) s) → (y.1 ≠ k → Qt (.yield (none, hit)) s) → wpAny (model prog w) A (f i (none, hit)) Qt E s) →
      wpAny (model prog w) A (forIn P (none, none) f >>= fl) Q E s := by
    intro f fl f1 f2 turn
    refine wpAny_bind (wpAny_forIn_list _ (fun rest r s' => s' = s ∧ ∃ hit pre, r = (none, hit) ∧ P = pre ++ rest ∧ ((hit = none ∧ ∀ i ∈ pre, ∀ y, ys[i]? = some y → y.1 ≠ k) ∨ ∃ j y, hit = some j ∧ j ∈ pre ∧ ys[j]? = some y ∧ y.1 = k)) _ ?_ ?_ _ _
      ⟨rfl, none, [], rfl, rfl, .inl ⟨rfl, fun i hi => by cases hi⟩⟩)
    · rintro i rest r s' ⟨rfl, hit, pre, rfl, hp, hh⟩
      obtain ⟨y, h1, h2, h3, h4, h5⟩ := turnOk i rest pre hp
      have nod : P.Nodup := by rw [← hP]; exact List.filter_sublist.nodup List.nodup_range
      have hni : i ∉ pre := fun hm => by
        rw [hp, List.nodup_append] at nod
        exact nod.2.2 i hm i List.mem_cons_self rfl
      have hp' : P = (pre ++ [i]) ++ rest := by rw [hp]; simp
      refine turn i hit y _ h2 h3 h4 h5 (fun e => ?_) (fun ne => ?_)
      · rcases hh with ⟨rfl, hno⟩ | ⟨j, z, rfl, hj, hz, ez⟩
        · exact ⟨rfl, by
            show wpAny _ _ (fl (some (some i), none)) _ _ _
            rw [f1]
            refine wpAny_pure ?_
            rw [← fi_some nd h1 e]; exact h, rfl, some i, pre ++ [i], rfl, hp', .inr ⟨i, y, rfl, by simp, h1, e⟩⟩
        · have a1 := fi_some nd hz ez
          rw [fi_some nd h1 e] at a1
          cases a1
          exact absurd hj hni
      · refine ⟨rfl, hit, pre ++ [i], rfl, hp', ?_⟩
        rcases hh with ⟨rfl, hno⟩ | ⟨j, z, rfl, hj, hz, ez⟩
        · refine .inl ⟨rfl, fun j hj z hz => ?_⟩
          rcases List.mem_append.mp hj with hj | hj
          · exact hno j hj z hz
          · have : j = i := by simpa using hj
            subst this
            rw [h1] at hz; cases hz
            exact ne
        · exact .inr ⟨j, z, rfl, by simp [hj], hz, ez⟩
    · rintro r s' ⟨rfl, hit, pre, rfl, hp, hh⟩
      rw [List.append_nil] at hp
      show wpAny _ _ (fl (none, hit)) _ _ _
      rw [f2]
      refine wpAny_pure ?_
      rcases hh with ⟨rfl, hno⟩ | ⟨j, z, rfl, hj, hz, ez⟩
      · rw [← hfn fun i hi => hno i (hp ▸ hi)]; exact h
      · rw [← fi_some nd hz ez]; exact h
  have tn : ∀ Q' : Bool → Shared → Prop, Q' false s → wpAny (model prog w) A (tableMayTell kv S) Q' E s := fun Q' q => tellsNot hk hdk hst q
  unfold dictFind
  try with_reducible refine wpAny_holding ?_
  refine wpAny_bind (wpAny_dictEntries ho hd ?_)
  dsimp only
  rw [hP, hS]
  have hk0 := hk
  cases hk with
  | text x t =>
    dsimp only
    by_cases hs : (es.all fun e => isExactStrKey e.key) = true
    · rw [if_pos hs]; exact found x t rfl
    · rw [if_neg hs]
      by_cases hc : (Value.str x t :: S).all carriedByValue = true
      · rw [if_pos hc]; exact plain
      · rw [if_neg hc]
        by_cases hone : (S == [Value.str x t]) = true
        · rw [if_pos hone]
          refine wpAny_bind (wpAny_pure ?_)
          rw [if_neg (by simp)]
          refine loop _ _ (fun _ _ => rfl) (fun _ => rfl) fun i hit y Qt h2 h3 h4 h5 q1 q2 => ?_
          simp only [h2]
          rw [if_pos h3]
          refine wpAny_bind (wpAny_dictEpoch ho hd (wpAny_bind (eqKeys hu h4 hk0 h5 (wpAny_bind (wpAny_dictEpoch ho hd ?_)))))
          show wpAny _ _ (if (ep != ep) = true then _ else _) _ E _
          rw [if_neg (by simp)]
          refine wpAny_ite_split (fun e => ?_) (fun e => ?_)
          · obtain ⟨rfl, q3, q4⟩ := q1 (of_decide_eq_true e)
            rw [if_neg (by simp)]
            refine wpAny_bind (wpAny_rule ?_)
            split
            · exact wpAny_pure q3
            · exact wpAny_pure q4
          · refine wpAny_bind (wpAny_rule ?_)
            rw [if_neg (by simp)]
            exact wpAny_pure (q2 fun h => e (decide_eq_true h))
        · rw [if_neg hone]
          refine wpAny_bind (tn _ ?_)
          rw [if_neg (by simp)]
          refine loop _ _ (fun _ _ => rfl) (fun _ => rfl) fun i hit y Qt h2 h3 h4 h5 q1 q2 => ?_
          simp only [h2]
          rw [if_pos h3]
          refine wpAny_bind (wpAny_dictEpoch ho hd (wpAny_bind (eqKeys hu h4 hk0 h5 (wpAny_bind (wpAny_dictEpoch ho hd ?_)))))
          show wpAny _ _ (if (ep != ep) = true then _ else _) _ E _
          rw [if_neg (by simp)]
          refine wpAny_ite_split (fun e => ?_) (fun e => ?_)
          · obtain ⟨rfl, q3, q4⟩ := q1 (of_decide_eq_true e)
            rw [if_neg (by simp)]
            refine wpAny_bind (wpAny_rule ?_)
            split
            · exact wpAny_pure q3
            · exact wpAny_pure q4
          · refine wpAny_bind (wpAny_rule ?_)
            rw [if_neg (by simp)]
            exact wpAny_pure (q2 fun h => e (decide_eq_true h))
  | none =>
    dsimp only
    by_cases hc : (Value.none :: S).all carriedByValue = true
    · rw [if_pos hc]; exact plain
    · rw [if_neg hc]
      by_cases hone : (S == [Value.none]) = true
      · rw [if_pos hone]
        refine wpAny_bind (wpAny_pure ?_)
        rw [if_neg (by simp)]
        refine loop _ _ (fun _ _ => rfl) (fun _ => rfl) fun i hit y Qt h2 h3 h4 h5 q1 q2 => ?_
        simp only [h2]
        rw [if_pos h3]
        refine wpAny_bind (wpAny_dictEpoch ho hd (wpAny_bind (eqKeys hu h4 hk0 h5 (wpAny_bind (wpAny_dictEpoch ho hd ?_)))))
        show wpAny _ _ (if (ep != ep) = true then _ else _) _ E _
        rw [if_neg (by simp)]
        refine wpAny_ite_split (fun e => ?_) (fun e => ?_)
        · obtain ⟨rfl, q3, q4⟩ := q1 (of_decide_eq_true e)
          rw [if_neg (by simp)]
          refine wpAny_bind (wpAny_rule ?_)
          split
          · exact wpAny_pure q3
          · exact wpAny_pure q4
        · refine wpAny_bind (wpAny_rule ?_)
          rw [if_neg (by simp)]
          exact wpAny_pure (q2 fun h => e (decide_eq_true h))
      · rw [if_neg hone]
        refine wpAny_bind (tn _ ?_)
        rw [if_neg (by simp)]
        refine loop _ _ (fun _ _ => rfl) (fun _ => rfl) fun i hit y Qt h2 h3 h4 h5 q1 q2 => ?_
        simp only [h2]
        rw [if_pos h3]
        refine wpAny_bind (wpAny_dictEpoch ho hd (wpAny_bind (eqKeys hu h4 hk0 h5 (wpAny_bind (wpAny_dictEpoch ho hd ?_)))))
        show wpAny _ _ (if (ep != ep) = true then _ else _) _ E _
        rw [if_neg (by simp)]
        refine wpAny_ite_split (fun e => ?_) (fun e => ?_)
        · obtain ⟨rfl, q3, q4⟩ := q1 (of_decide_eq_true e)
          rw [if_neg (by simp)]
          refine wpAny_bind (wpAny_rule ?_)
          split
          · exact wpAny_pure q3
          · exact wpAny_pure q4
        · refine wpAny_bind (wpAny_rule ?_)
          rw [if_neg (by simp)]
          exact wpAny_pure (q2 fun h => e (decide_eq_true h))
  | bool e1 =>
    rename_i b _
    dsimp only
    by_cases hc : (Value.bool b :: S).all carriedByValue = true
    · rw [if_pos hc]; exact plain
    · rw [if_neg hc]
      by_cases hone : (S == [Value.bool b]) = true
      · rw [if_pos hone]
        refine wpAny_bind (wpAny_pure ?_)
        rw [if_neg (by simp)]
        refine loop _ _ (fun _ _ => rfl) (fun _ => rfl) fun i hit y Qt h2 h3 h4 h5 q1 q2 => ?_
        simp only [h2]
        rw [if_pos h3]
        refine wpAny_bind (wpAny_dictEpoch ho hd (wpAny_bind (eqKeys hu h4 hk0 h5 (wpAny_bind (wpAny_dictEpoch ho hd ?_)))))
        show wpAny _ _ (if (ep != ep) = true then _ else _) _ E _
        rw [if_neg (by simp)]
        refine wpAny_ite_split (fun e => ?_) (fun e => ?_)
        · obtain ⟨rfl, q3, q4⟩ := q1 (of_decide_eq_true e)
          rw [if_neg (by simp)]
          refine wpAny_bind (wpAny_rule ?_)
          split
          · exact wpAny_pure q3
          · exact wpAny_pure q4
        · refine wpAny_bind (wpAny_rule ?_)
          rw [if_neg (by simp)]
          exact wpAny_pure (q2 fun h => e (decide_eq_true h))
      · rw [if_neg hone]
        refine wpAny_bind (tn _ ?_)
        rw [if_neg (by simp)]
        refine loop _ _ (fun _ _ => rfl) (fun _ => rfl) fun i hit y Qt h2 h3 h4 h5 q1 q2 => ?_
        simp only [h2]
        rw [if_pos h3]
        refine wpAny_bind (wpAny_dictEpoch ho hd (wpAny_bind (eqKeys hu h4 hk0 h5 (wpAny_bind (wpAny_dictEpoch ho hd ?_)))))
        show wpAny _ _ (if (ep != ep) = true then _ else _) _ E _
        rw [if_neg (by simp)]
        refine wpAny_ite_split (fun e => ?_) (fun e => ?_)
        · obtain ⟨rfl, q3, q4⟩ := q1 (of_decide_eq_true e)
          rw [if_neg (by simp)]
          refine wpAny_bind (wpAny_rule ?_)
          split
          · exact wpAny_pure q3
          · exact wpAny_pure q4
        · refine wpAny_bind (wpAny_rule ?_)
          rw [if_neg (by simp)]
          exact wpAny_pure (q2 fun h => e (decide_eq_true h))
  | int i1 t1 =>
    dsimp only
    by_cases hc : (Value.int i1 t1 :: S).all carriedByValue = true
    · rw [if_pos hc]; exact plain
    · rw [if_neg hc]
      by_cases hone : (S == [Value.int i1 t1]) = true
      · rw [if_pos hone]
        refine wpAny_bind (wpAny_pure ?_)
        rw [if_neg (by simp)]
        refine loop _ _ (fun _ _ => rfl) (fun _ => rfl) fun i hit y Qt h2 h3 h4 h5 q1 q2 => ?_
        simp only [h2]
        rw [if_pos h3]
        refine wpAny_bind (wpAny_dictEpoch ho hd (wpAny_bind (eqKeys hu h4 hk0 h5 (wpAny_bind (wpAny_dictEpoch ho hd ?_)))))
        show wpAny _ _ (if (ep != ep) = true then _ else _) _ E _
        rw [if_neg (by simp)]
        refine wpAny_ite_split (fun e => ?_) (fun e => ?_)
        · obtain ⟨rfl, q3, q4⟩ := q1 (of_decide_eq_true e)
          rw [if_neg (by simp)]
          refine wpAny_bind (wpAny_rule ?_)
          split
          · exact wpAny_pure q3
          · exact wpAny_pure q4
        · refine wpAny_bind (wpAny_rule ?_)
          rw [if_neg (by simp)]
          exact wpAny_pure (q2 fun h => e (decide_eq_true h))
      · rw [if_neg hone]
        refine wpAny_bind (tn _ ?_)
        rw [if_neg (by simp)]
        refine loop _ _ (fun _ _ => rfl) (fun _ => rfl) fun i hit y Qt h2 h3 h4 h5 q1 q2 => ?_
        simp only [h2]
        rw [if_pos h3]
        refine wpAny_bind (wpAny_dictEpoch ho hd (wpAny_bind (eqKeys hu h4 hk0 h5 (wpAny_bind (wpAny_dictEpoch ho hd ?_)))))
        show wpAny _ _ (if (ep != ep) = true then _ else _) _ E _
        rw [if_neg (by simp)]
        refine wpAny_ite_split (fun e => ?_) (fun e => ?_)
        · obtain ⟨rfl, q3, q4⟩ := q1 (of_decide_eq_true e)
          rw [if_neg (by simp)]
          refine wpAny_bind (wpAny_rule ?_)
          split
          · exact wpAny_pure q3
          · exact wpAny_pure q4
        · refine wpAny_bind (wpAny_rule ?_)
          rw [if_neg (by simp)]
          exact wpAny_pure (q2 fun h => e (decide_eq_true h))
  | tup k1 k2 k3 k4 =>
    rename_i a _ _ _ _
    dsimp only
    by_cases hc : (Value.ref a :: S).all carriedByValue = true
    · rw [if_pos hc]; exact plain
    · rw [if_neg hc]
      rw [if_neg (hany _ rfl)]
      by_cases hone : (S == [Value.ref a]) = true
      · rw [if_pos hone]
        refine wpAny_bind (wpAny_pure ?_)
        rw [if_neg (by simp)]
        refine loop _ _ (fun _ _ => rfl) (fun _ => rfl) fun i hit y Qt h2 h3 h4 h5 q1 q2 => ?_
        simp only [h2]
        rw [if_pos h3]
        refine wpAny_bind (wpAny_dictEpoch ho hd (wpAny_bind (eqKeys hu h4 hk0 h5 (wpAny_bind (wpAny_dictEpoch ho hd ?_)))))
        show wpAny _ _ (if (ep != ep) = true then _ else _) _ E _
        rw [if_neg (by simp)]
        refine wpAny_ite_split (fun e => ?_) (fun e => ?_)
        · obtain ⟨rfl, q3, q4⟩ := q1 (of_decide_eq_true e)
          rw [if_neg (by simp)]
          refine wpAny_bind (wpAny_rule ?_)
          split
          · exact wpAny_pure q3
          · exact wpAny_pure q4
        · refine wpAny_bind (wpAny_rule ?_)
          rw [if_neg (by simp)]
          exact wpAny_pure (q2 fun h => e (decide_eq_true h))
      · rw [if_neg hone]
        refine wpAny_bind (tn _ ?_)
        rw [if_neg (by simp)]
        refine loop _ _ (fun _ _ => rfl) (fun _ => rfl) fun i hit y Qt h2 h3 h4 h5 q1 q2 => ?_
        simp only [h2]
        rw [if_pos h3]
        refine wpAny_bind (wpAny_dictEpoch ho hd (wpAny_bind (eqKeys hu h4 hk0 h5 (wpAny_bind (wpAny_dictEpoch ho hd ?_)))))
        show wpAny _ _ (if (ep != ep) = true then _ else _) _ E _
        rw [if_neg (by simp)]
        refine wpAny_ite_split (fun e => ?_) (fun e => ?_)
        · obtain ⟨rfl, q3, q4⟩ := q1 (of_decide_eq_true e)
          rw [if_neg (by simp)]
          refine wpAny_bind (wpAny_rule ?_)
          split
          · exact wpAny_pure q3
          · exact wpAny_pure q4
        · refine wpAny_bind (wpAny_rule ?_)
          rw [if_neg (by simp)]
          exact wpAny_pure (q2 fun h => e (decide_eq_true h))
end
end LV

/-! LVn -/
set_option Elab.async false
set_option linter.all false
set_option maxRecDepth 100000
set_option maxHeartbeats 2000000
/-! LVn: d[k], d[k] = v, in, get of such a dict, at the library's level. -/
namespace LV
open PySem PySem.Spec PyProof.Rows SeqAt
/-- the dict at d, its entries -/
def DcAt (w : World) (h : Heap) (d : Addr) (ys : List Yt) : Prop := ∃ o es ep, h.get? d = some o ∧ o.ExactDict ∧ o.data = .dict es ep ∧ es.toList = ys.map (entOf w)
def KOk (h : Heap) (ys : List Yt) : Prop := (∀ y ∈ ys, NestedIs h y.1 y.2.1 ∧ y.1.depth ≤ 8) ∧ (ys.map (·.1)).Nodup
def valY (ys : List Yt) (k : NestedKey) : Option Value := match fi ys k with
  | some j => (ys[j]?).map (·.2.2)
  | none => none
def putY (ys : List Yt) (k : NestedKey) (kv v : Value) : List Yt := match fi ys k with
  | some j => ys.modify j fun y => (y.1, y.2.1, v)
  | none => ys ++ [(k, kv, v)]
theorem DcAt.typeIs {w : World} {s : Shared} {d : Addr} {ys : List Yt} (x : DcAt w s.heap d ys) : s.TypeIs (.ref d) "dict" := let ⟨o, _, _, h1, h2, _⟩ := x; ⟨o, h1, h2.1⟩
theorem modMap {α β : Type} {e : α → β} {f : α → α} {g : β → β} (h : ∀ a, g (e a) = e (f a)) : ∀ (l : List α) (j : Nat), (l.map e).modify j g = (l.modify j f).map e
  | [], j => by simp
  | a :: l, 0 => by simp [h]
  | a :: l, j + 1 => by simp [modMap h l j]
section
variable {prog : Program} {w : World} {A : Around} {E : Value → Shared → Prop} {s : Shared} {d : Addr} {ys : List Yt} {k : NestedKey} {kv v : Value}
theorem o_get {Q : Option Value → Shared → Prop} (hu : A.units + 8 < cLine) (hk : NestedIs s.heap k kv) (hdk : k.depth ≤ 8) (hm : DcAt w s.heap d ys) (ok : KOk s.heap ys) (h : Q (valY ys k) { s with toks := s.toks + k.draws }) : wpAny (model prog w) A (dictGet d kv) Q E s := by
  obtain ⟨o, es, ep, ho, _, hd, he⟩ := hm
  unfold dictGet
  try with_reducible refine wpAny_holding ?_
  have T : TabAt w s.heap es ys := ⟨he, ok.1, ok.2⟩
  refine wpAny_bind (pyHash_key (w := w) k kv A s _ hk (by omega) (wpAny_bind (dFind (s := { s with toks := s.toks + k.draws }) hu hk hdk ho hd T ?_)))
  unfold valY at h
  cases hf : fi ys k with
  | none => rw [hf] at h; exact wpAny_pure h
  | some j =>
    rw [hf] at h
    refine wpAny_bind (wpAny_dictEntries (s := { s with toks := s.toks + k.draws }) ho hd ?_)
    obtain ⟨y, h1, h2⟩ := fi_at hf
    simp only [h1] at h
    rw [T.get, h1]
    exact wpAny_pure h
theorem o_put {Q : Unit → Shared → Prop} (hu : A.units + 8 < cLine) (hk : NestedIs s.heap k kv) (hdk : k.depth ≤ 8) (hm : DcAt w s.heap d ys) (ok : KOk s.heap ys) (hz : ys.length ≤ sizeLine)
    (h : ∀ h', DcAt w h' d (putY ys k kv v) → Heap.SameBut d s.heap h' → Q () { s with heap := h', toks := s.toks + k.draws }) : wpAny (model prog w) A (dictSet d kv v) Q E s := by
  obtain ⟨o, es, ep, ho, hc, hd, he⟩ := hm
  have T : TabAt w s.heap es ys := ⟨he, ok.1, ok.2⟩
  unfold dictSet
  try with_reducible refine wpAny_holding ?_
  refine wpAny_bind (pyHash_key (w := w) k kv A s _ hk (by omega) ?_)
  unfold dictSetHashed
  try with_reducible refine wpAny_holding ?_
  refine wpAny_bind (dFind (s := { s with toks := s.toks + k.draws }) hu hk hdk ho hd T ?_)
  unfold putY at h
  cases hf : fi ys k with
  | none =>
    rw [hf] at h
    refine wpAny_bind (wpAny_rule (wpAny_updateDictKeys (hz := by rw [T.size]; exact hz) (s := { s with toks := s.toks + k.draws }) ho hd (h _ ⟨_, _, ep + 1, Heap.get?_update_self _ ho (Obj.isFreed_of_dict (Obj.data_mapDictKeys hd _)), hc.mapDictKeys _, Obj.data_mapDictKeys hd _, ?_⟩ (Heap.SameBut.update ..))))
    rw [Array.toList_push, he, List.map_append]; rfl
  | some j =>
    rw [hf] at h
    refine wpAny_bind (wpAny_rule (wpAny_bind (wpAny_updateDict (s := { s with toks := s.toks + k.draws }) ho hd (wpAny_point (h _ ⟨_, _, ep, Heap.get?_update_self _ ho (Obj.isFreed_of_dict (Obj.data_mapDict hd _)), hc.mapDict _, Obj.data_mapDict hd _, ?_⟩ (Heap.SameBut.update ..))))))
    show (es.modify j _).toList = (ys.modify j _).map (entOf w)
    rw [Array.toList_modify, he]
    exact modMap (e := entOf w) (f := fun y : Yt => (y.1, y.2.1, v)) (g := fun e : DictEntry => { e with val := v }) (fun _ => rfl) ys j
theorem o_in {Q : Value → Shared → Prop} (hu : A.units + 9 < cLine) (hk : NestedIs s.heap k kv) (hdk : k.depth ≤ 8) (hs : (d == sysModules) = false) (hm : DcAt w s.heap d ys) (ok : KOk s.heap ys)
    (h : ∀ t, Q (.bool (valY ys k).isSome) { s with toks := t }) : wpAny (model prog w) A (compareOp .In kv (.ref d)) Q E s := by
  refine wpAny_bind (m := contains (.ref d) kv) ?_
  unfold contains
  try with_reducible refine wpAny_holding ?_
  refine wpAny_bind (wpAny_specialOf hm.typeIs slot_dict_contains.lookup ?_)
  show wpAny _ _ (if (some (Value.builtin "dict.__contains__") == some Value.none) = true then _ else _) _ E s
  rw [if_neg (by rw [beq_builtin_none]; exact Bool.false_ne_true)]
  refine wpAny_bind (wpAny_callSpecialUnlessNone?_slot (name := Str.ofString "__contains__") hm.typeIs slot_dict_contains (wpAny_call_entry slot_dict_contains hm.typeIs entry_dict_contains ?_ (args_dict_contains _ _)))
  refine wpAny_bind (m := dictGet d kv) (o_get (by show A.units + 1 + 8 < cLine; omega) hk hdk hm ok ?_)
  cases hf : valY ys k with
  | some p =>
    rw [hf] at h
    show wpAny _ _ (ret (.bool true)) _ _ _
    exact wpAny_pure ⟨_, rfl, wpAny_truthy_bool (wpAny_pure (h _))⟩
  | none =>
    rw [hf] at h
    refine wpAny_bind (m := Builtin.Dict.pendingKey? d kv) (wpAny_pendingKey_other hs (wpAny_pure ⟨_, rfl, wpAny_truthy_bool (wpAny_pure (h _))⟩))
theorem o_notIn {Q : Value → Shared → Prop} (hu : A.units + 9 < cLine) (hk : NestedIs s.heap k kv) (hdk : k.depth ≤ 8) (hs : (d == sysModules) = false) (hm : DcAt w s.heap d ys) (ok : KOk s.heap ys)
    (h : ∀ t, Q (.bool (!(valY ys k).isSome)) { s with toks := t }) : wpAny (model prog w) A (compareOp .NotIn kv (.ref d)) Q E s := by
  refine wpAny_bind (m := contains (.ref d) kv) ?_
  unfold contains
  try with_reducible refine wpAny_holding ?_
  refine wpAny_bind (wpAny_specialOf hm.typeIs slot_dict_contains.lookup ?_)
  show wpAny _ _ (if (some (Value.builtin "dict.__contains__") == some Value.none) = true then _ else _) _ E s
  rw [if_neg (by rw [beq_builtin_none]; exact Bool.false_ne_true)]
  refine wpAny_bind (wpAny_callSpecialUnlessNone?_slot (name := Str.ofString "__contains__") hm.typeIs slot_dict_contains (wpAny_call_entry slot_dict_contains hm.typeIs entry_dict_contains ?_ (args_dict_contains _ _)))
  refine wpAny_bind (m := dictGet d kv) (o_get (by show A.units + 1 + 8 < cLine; omega) hk hdk hm ok ?_)
  cases hf : valY ys k with
  | some p =>
    rw [hf] at h
    show wpAny _ _ (ret (.bool true)) _ _ _
    exact wpAny_pure ⟨_, rfl, wpAny_truthy_bool (wpAny_pure (h _))⟩
  | none =>
    rw [hf] at h
    refine wpAny_bind (m := Builtin.Dict.pendingKey? d kv) (wpAny_pendingKey_other hs (wpAny_pure ⟨_, rfl, wpAny_truthy_bool (wpAny_pure (h _))⟩))
theorem o_getItem {Q : Value → Shared → Prop} (hu : A.units + 9 < cLine) (hk : NestedIs s.heap k kv) (hdk : k.depth ≤ 8) (hm : DcAt w s.heap d ys) (ok : KOk s.heap ys) (hv : valY ys k = some v)
    (h : ∀ t, Q v { s with toks := t }) : wpAny (model prog w) A (getItem (.ref d) kv) Q E s := by
  unfold getItem
  try with_reducible refine wpAny_holding ?_
  refine wpAny_bind (wpAny_sequenceKey hm.typeIs (by decide) ?_)
  refine wpAny_bind (wpAny_callSpecial?_slot (name := Str.ofString "__getitem__") hm.typeIs slot_dict_getitem (wpAny_call_entry slot_dict_getitem hm.typeIs entry_dict_getitem ?_ (args_dict_getitem _ _)))
  refine wpAny_bind (m := dictGet d kv) (o_get (by show A.units + 1 + 8 < cLine; omega) hk hdk hm ok ?_)
  rw [hv]
  exact wpAny_pure ⟨v, rfl, wpAny_pure (h _)⟩
theorem o_setItem {Q : Unit → Shared → Prop} (hu : A.units + 9 < cLine) (hk : NestedIs s.heap k kv) (hdk : k.depth ≤ 8) (hm : DcAt w s.heap d ys) (ok : KOk s.heap ys) (hz : ys.length ≤ sizeLine)
    (h : ∀ h' t, DcAt w h' d (putY ys k kv v) → Heap.SameBut d s.heap h' → Q () { s with heap := h', toks := t }) : wpAny (model prog w) A (setItem (.ref d) kv v) Q E s := by
  unfold setItem
  try with_reducible refine wpAny_holding ?_
  refine wpAny_bind (wpAny_sequenceKey hm.typeIs (by decide) ?_)
  refine wpAny_bind (wpAny_callSpecial?_slot (name := Str.ofString "__setitem__") hm.typeIs slot_dict_setitem (wpAny_call_entry slot_dict_setitem hm.typeIs entry_dict_setitem ?_ (args_dict_setitem _ _ _)))
  refine wpAny_bind (m := Builtin.Dict.notOrdered "__setitem__" ⟨[.ref d, kv, v], []⟩) (wpAny_notOrdered_dict hm.typeIs ?_)
  show wpAny _ _ (dictSet d kv v >>= _) _ _ s
  exact wpAny_bind (o_put (by show A.units + 1 + 8 < cLine; omega) hk hdk hm ok hz fun h' hm' hs' => wpAny_pure ⟨.none, rfl, wpAny_pure (h h' _ hm' hs')⟩)
theorem o_get2 {x : Value} {Q : Value → Shared → Prop} (hu : A.units + 9 < cLine) (hk : NestedIs s.heap k kv) (hdk : k.depth ≤ 8) (hs : (d == sysModules) = false) (hm : DcAt w s.heap d ys) (ok : KOk s.heap ys)
    (h : ∀ t, Q ((valY ys k).getD x) { s with toks := t }) : wpAny (model prog w) A (call (.builtin "dict.get") [.ref d, kv, x]) Q E s := by
  refine call_meetsIn PySem.F.slot_dict_get hm.typeIs PySem.F.entry_dict_get (PySem.F.args_dict_get_3 _ _ _) (S := fun A' R s' => A'.units + 9 < cLine ∧ s' = s ∧ ∀ t, R (.ok (.ret ((valY ys k).getD x))) { s with toks := t }) (.of_wp fun A' R s' ⟨hu', e, hh⟩ => ?_) ⟨hu, rfl, h⟩
  subst e
  refine wpAny_bind (m := dictGet d kv) (o_get (by show A'.units + 1 + 8 < cLine; omega) hk hdk hm ok ?_)
  cases hf : valY ys k with
  | some v => rw [hf] at hh; exact wpAny_pure ⟨v, rfl, hh _⟩
  | none =>
    rw [hf] at hh
    exact wpAny_bind (m := Builtin.Dict.missed d kv) (wpAny_missed_other hs (wpAny_pure ⟨x, rfl, hh _⟩))
theorem o_len {n : Nat} {Q : Value → Shared → Prop} (hs : (d == sysModules) = false) (hm : DcAt w s.heap d ys) (hn : n = ys.length) (hz : ys.length ≤ sizeLine) (h : ∀ t, Q (.int n t) { s with toks := t + 1 }) : wpAny (model prog w) A (call (.builtin "len") [.ref d]) Q E s := by
  subst hn
  obtain ⟨o, es, ep, ho, hc, hd, he⟩ := id hm
  have hsz : es.size = ys.length := by rw [← Array.length_toList, he, List.length_map]
  refine PyProof.Rows.call_len_slot (n := ys.length) hm.typeIs PySem.F.slot_dict_len (fun Q' hq => ?_) (by omega) (by rw [sizeLine_eq] at hz; omega) (h _)
  rw [← hsz] at hq
  exact call_len_raw hs ⟨o, ho, hc, hd⟩ hq
end
end LV

/-! LVo -/
set_option Elab.async false
set_option linter.all false
set_option maxRecDepth 100000
set_option maxHeartbeats 2000000
/-! LVo: dicts by value. -/
namespace LV
open PySem PySem.Spec PyProof.Rows SeqAt L2
section
variable {X : Cx} {G : GE} {pins : List (Addr × Obj)} {σ : L2.St} {H S : Hp} {s : Shared}
mutual
theorem nested_at (I : Inv X pins σ H s) (hK : X.K = G.K) (e : Ex S H) : ∀ (d : D) (n : NestedKey) (v : V) (u : Value), DAt G S v d → nk d = some n → RelV v u → NestedIs s.heap n u
  | .non, n, v, u, h, q, r => by cases (show v = V.non from h); cases q; cases r; exact .none
  | .bl b, n, v, u, h, q, r => by cases (show v = V.bl b from h); cases q; cases r; exact .bool rfl
  | .int i, n, v, u, h, q, r => by cases (show v = V.int i from h); cases q; obtain ⟨t, rfl⟩ := r; exact .int i t
  | .str x, n, v, u, h, q, r => by cases (show v = V.str (S2 x) from h); cases q; obtain ⟨t, rfl⟩ := r; exact .text _ t
  | .tup ds, n, v, u, h, q, r => by
    unfold nk at q
    obtain ⟨ns, q1, rfl⟩ := Option.map_eq_some_iff.mp q
    unfold DAt at h
    obtain ⟨a, vs, rfl, h2, h3⟩ := h
    cases r
    obtain ⟨its, rv, ⟨o, ho, hc, m, hd⟩, hz⟩ := I.tuple (by rw [hK]; exact Ex.st e (SqT.of h2))
    exact .tup ho hc hd (by simpa using nested_ats I hK e ds ns vs its h3 q1 rv)
  | .lst ds, n, v, u, h, q, r => by unfold nk at q; cases q
  | .lsx ds, n, v, u, h, q, r => by unfold nk at q; cases q
  | .dic ds, n, v, u, h, q, r => by unfold nk at q; cases q
  | .obj c ds, n, v, u, h, q, r => by unfold nk at q; cases q
theorem nested_ats (I : Inv X pins σ H s) (hK : X.K = G.K) (e : Ex S H) : ∀ (ds : List D) (ns : List NestedKey) (vs : List V) (us : List Value), DAts G S vs ds → nks ds = some ns → Vals vs us → NestedAll s.heap ns us
  | [], ns, vs, us, h, q, r => by
    cases q
    rw [h.inv0] at r
    cases r
    exact .nil
  | d :: ds, ns, vs, us, h, q, r => by
    obtain ⟨v, t, rfl, h1, h2⟩ := h.inv
    unfold nks at q
    cases e1 : nk d with
    | none => simp only [e1] at q; cases q
    | some a =>
      cases e2 : nks ds with
      | none => simp only [e1, e2] at q; cases q
      | some b =>
        simp only [e1, e2] at q
        cases q
        cases r with
        | cons r1 r2 => exact .cons (nested_at I hK e d a v _ h1 e1 r1) (nested_ats I hK e ds b t _ h2 e2 r2)
end
theorem nq_nk {d : D} {n : NestedKey} (h : nq d = some n) : nk d = some n ∧ n.depth ≤ 8 := by
  unfold nq at h
  split at h
  · rename_i m e
    split at h
    · rename_i hd
      cases h
      exact ⟨e, hd⟩
    · cases h
  · cases h
theorem DKs.kok (I : Inv X pins σ H s) (hK : X.K = G.K) (e : Ex S H) : ∀ {kvs : List (D × D)} {es : List Ent} {ys : List Yt}, DKs G S es kvs → Paired REnt es ys → ∀ y ∈ ys, NestedIs s.heap y.1 y.2.1 ∧ y.1.depth ≤ 8
  | [], es, ys, h, p, y, hy => by
    unfold DKs at h
    subst h
    cases p
    cases hy
  | (k, d) :: r, es, ys, h, p, y, hy => by
    unfold DKs at h
    obtain ⟨n, kv, v, t, rfl, h1, h2, h3, h4⟩ := h
    cases p with
    | cons p1 p2 =>
      rename_i y' ys'
      rcases List.mem_cons.mp hy with rfl | hy
      · obtain ⟨q1, q2⟩ := nq_nk h1
        obtain ⟨e1, e2, e3⟩ := p1
        rw [← e1]
        exact ⟨nested_at I hK e k n kv _ h2 q1 e2, q2⟩
      · exact DKs.kok I hK e h4 p2 y hy
theorem paired_keys : ∀ {es : List Ent} {ys : List Yt}, Paired REnt es ys → es.map (·.1) = ys.map (·.1)
  | _, _, .nil => rfl
  | _, _, .cons h t => by rw [List.map_cons, List.map_cons, h.1, paired_keys t]
/-- the dict as it stands in the heap -/
theorem dc_of (I : Inv X pins σ H s) (hK : X.K = G.K) (hw : X.w = G.w) (e : Ex S H) {a : Addr} {es : List Ent} {kvs : List (D × D)} (h : Rd H a (dO G.w a es)) (hk : DKs G S es kvs) :
    ∃ ys, Paired REnt es ys ∧ DcAt X.w s.heap a ys ∧ KOk s.heap ys ∧ es.length ≤ sizeLine ∧ ys.length = es.length ∧ (a == sysModules) = false := by
  have ok : dO G.w a es = dO G.w a es := rfl
  obtain ⟨⟨z, hs, nd, ys, p, o, dt, ep, ho, hc, hd, he⟩, _, _⟩ := rd_of I.hok h
  exact ⟨ys, p, ⟨o, dt, ep, ho, hc, hd, by rw [hw]; exact he⟩, ⟨DKs.kok I hK e hk p, by rw [← paired_keys p]; exact nd⟩, z, (Paired.length p).symm, hs⟩
end
/-! ### what is found, what is put -/
def lookD : List (D × D) → NestedKey → Option D
  | [], _ => none
  | (k, d) :: r, n => if nq k = some n then some d else lookD r n
def putKD (k : D) (n : NestedKey) (d : D) : List (D × D) → List (D × D)
  | [] => [(k, d)]
  | (k', d') :: r => if nq k' = some n then (k', d) :: r else (k', d') :: putKD k n d r
def putE (n : NestedKey) (kv v : V) : List Ent → List Ent
  | [] => [(n, kv, v)]
  | y :: r => if y.1 = n then (y.1, y.2.1, v) :: r else y :: putE n kv v r
theorem valY_cons {y : Yt} {ys : List Yt} {k : NestedKey} : valY (y :: ys) k = if y.1 = k then some y.2.2 else valY ys k := by
  unfold valY fi
  rw [List.findIdx?_cons]
  by_cases h : y.1 = k
  · rw [if_pos h, decide_eq_true h]; rfl
  · rw [if_neg h, decide_eq_false h]
    cases e : List.findIdx? (fun y => decide (y.1 = k)) ys with
    | none => simp
    | some j => simp
theorem putY_cons {y : Yt} {ys : List Yt} {k : NestedKey} {kv v : Value} : putY (y :: ys) k kv v = if y.1 = k then (y.1, y.2.1, v) :: ys else y :: putY ys k kv v := by
  unfold putY fi
  rw [List.findIdx?_cons]
  by_cases h : y.1 = k
  · rw [if_pos h, decide_eq_true h]; rfl
  · rw [if_neg h, decide_eq_false h]
    cases e : List.findIdx? (fun y => decide (y.1 = k)) ys with
    | none => simp
    | some j => simp
section
variable {G : GE} {S : Hp}
theorem look_some : ∀ {kvs : List (D × D)} {es : List Ent} {ys : List Yt} {n : NestedKey} {d : D}, DKs G S es kvs → Paired REnt es ys → lookD kvs n = some d → ∃ v u, valY ys n = some u ∧ RelV v u ∧ DAt G S v d
  | [], es, ys, n, d, h, p, q => by cases q
  | (k, d') :: r, es, ys, n, d, h, p, q => by
    unfold DKs at h
    obtain ⟨m, kv, v, t, rfl, h1, h2, h3, h4⟩ := h
    cases p with
    | cons p1 p2 =>
      obtain ⟨e1, e2, e3⟩ := p1
      have e1 : m = _ := e1
      unfold lookD at q
      rw [valY_cons]
      split at q
      · rename_i hk
        cases q
        rw [h1] at hk
        cases hk
        rw [if_pos e1.symm]
        exact ⟨v, _, rfl, e3, h3⟩
      · rename_i hk
        rw [if_neg (fun z => hk (by rw [h1, e1, z]))]
        exact look_some h4 p2 q
theorem look_none : ∀ {kvs : List (D × D)} {es : List Ent} {ys : List Yt} {n : NestedKey}, DKs G S es kvs → Paired REnt es ys → lookD kvs n = none → valY ys n = none
  | [], es, ys, n, h, p, q => by
    unfold DKs at h
    subst h
    cases p
    rfl
  | (k, d') :: r, es, ys, n, h, p, q => by
    unfold DKs at h
    obtain ⟨m, kv, v, t, rfl, h1, h2, h3, h4⟩ := h
    cases p with
    | cons p1 p2 =>
      obtain ⟨e1, e2, e3⟩ := p1
      have e1 : m = _ := e1
      unfold lookD at q
      rw [valY_cons]
      split at q
      · cases q
      · rename_i hk
        rw [if_neg (fun z => hk (by rw [h1, e1, z]))]
        exact look_none h4 p2 q
theorem look_isSome {kvs : List (D × D)} {es : List Ent} {ys : List Yt} {n : NestedKey} (h : DKs G S es kvs) (p : Paired REnt es ys) : (valY ys n).isSome = (lookD kvs n).isSome := by
  cases e : lookD kvs n with
  | none => rw [look_none h p e]; rfl
  | some d => obtain ⟨v, u, e1, _⟩ := look_some h p e; rw [e1]; rfl
theorem put_rel {n : NestedKey} {kv v : V} {ku u : Value} (r1 : RelV kv ku) (r2 : RelV v u) : ∀ {es : List Ent} {ys : List Yt}, Paired REnt es ys → Paired REnt (putE n kv v es) (putY ys n ku u)
  | _, _, .nil => .cons ⟨rfl, r1, r2⟩ .nil
  | _, _, .cons (a := a) (b := b) p t => by
    rw [putY_cons]
    unfold putE
    have e : a.1 = b.1 := p.1
    by_cases h : a.1 = n
    · rw [if_pos h, if_pos (e ▸ h)]
      exact .cons ⟨p.1, p.2.1, r2⟩ t
    · rw [if_neg h, if_neg (e ▸ h)]
      exact .cons p (put_rel r1 r2 t)
theorem put_dks {n : NestedKey} {k d : D} {kv v : V} (hn : nq k = some n) (hk : DAt G S kv k) (hd : DAt G S v d) : ∀ {kvs : List (D × D)} {es : List Ent}, DKs G S es kvs → DKs G S (putE n kv v es) (putKD k n d kvs)
  | [], es, h => by
    unfold DKs at h
    subst h
    unfold putE putKD DKs
    exact ⟨n, kv, v, [], rfl, hn, hk, hd, by unfold DKs; rfl⟩
  | (k', d') :: r, es, h => by
    unfold DKs at h
    obtain ⟨m, kv', v', t, rfl, h1, h2, h3, h4⟩ := h
    unfold putE putKD
    by_cases q : m = n
    · subst q
      rw [if_pos rfl, if_pos h1]
      unfold DKs
      exact ⟨m, kv', v, t, rfl, h1, h2, hd, h4⟩
    · rw [if_neg q, if_neg (fun z => q (by rw [h1] at z; exact Option.some.inj z))]
      unfold DKs
      exact ⟨m, kv', v', _, rfl, h1, h2, h3, put_dks hn hk hd h4⟩
end
theorem putE_keys {n : NestedKey} {kv v : V} : ∀ {es : List Ent}, (putE n kv v es).map (·.1) = es.map (·.1) ∨ (n ∉ es.map (·.1) ∧ (putE n kv v es).map (·.1) = es.map (·.1) ++ [n])
  | [] => .inr ⟨by simp, rfl⟩
  | y :: r => by
    unfold putE
    by_cases h : y.1 = n
    · rw [if_pos h]; exact .inl rfl
    · rw [if_neg h]
      rcases putE_keys (n := n) (kv := kv) (v := v) (es := r) with q | ⟨q1, q2⟩
      · exact .inl (by rw [List.map_cons, q, List.map_cons])
      · refine .inr ⟨?_, by rw [List.map_cons, q2, List.map_cons]; rfl⟩
        rw [List.map_cons, List.mem_cons, not_or]
        exact ⟨fun z => h z.symm, q1⟩
theorem putE_nodup {n : NestedKey} {kv v : V} {es : List Ent} (h : (es.map (·.1)).Nodup) : ((putE n kv v es).map (·.1)).Nodup := by
  rcases putE_keys (n := n) (kv := kv) (v := v) (es := es) with q | ⟨q1, q2⟩
  · rw [q]; exact h
  · rw [q2, List.nodup_append]
    refine ⟨h, by simp, fun a ha b hb z => ?_⟩
    have : b = n := by simpa using hb
    subst this
    subst z
    exact q1 ha
theorem putE_length {n : NestedKey} {kv v : V} {es : List Ent} : (putE n kv v es).length ≤ es.length + 1 := by
  rcases putE_keys (n := n) (kv := kv) (v := v) (es := es) with q | ⟨_, q⟩
  · have := congrArg List.length q; simp at this; omega
  · have := congrArg List.length q; simp at this; omega
theorem DKs.length {G : GE} {S : Hp} : ∀ {kvs : List (D × D)} {es : List Ent}, DKs G S es kvs → es.length = kvs.length
  | [], es, h => by unfold DKs at h; subst h; rfl
  | (k, d) :: r, es, h => by
    unfold DKs at h
    obtain ⟨m, kv', v', t, rfl, h1, h2, h3, h4⟩ := h
    simp [DKs.length h4]
end LV

/-! LVp -/
set_option Elab.async false
set_option linter.all false
set_option maxRecDepth 100000
set_option maxHeartbeats 2000000
/-! LVp: d[k], k in d, d[k] = v, {}, len, get; freezing. -/
namespace LV
open PySem PySem.Spec PyProof.Rows SeqAt L2
section
variable {X : Cx} {G : GE} {g : GI} {Wx : WX} {pos pos' p q apos cpos : Pos} {o i a b : Expr} {es : List Expr}
theorem VAt.key {S H : Hp} {v : V} {k : D} {n : NestedKey} (h : VAt G S H v k) (e : nk k = some n) : DAt G S v k := by
  cases k with
  | lst ds => unfold nk at e; cases e
  | lsx ds => unfold nk at e; cases e
  | dic ds => unfold nk at e; cases e
  | dlk ds => unfold nk at e; cases e
  | obj c ds => unfold nk at e; cases e
  | _ => exact h
theorem nested_k {pins : List (Addr × Obj)} {σ : L2.St} {H S : Hp} {s : Shared} (I : Inv X pins σ H s) (hK : X.K = G.K) (e : Ex S H) {v : V} {k : D} {n : NestedKey} {u : Value} (h : VAt G S H v k) (hn : nq k = some n) (r : RelV v u) : NestedIs s.heap n u ∧ n.depth ≤ 8 :=
  let ⟨h1, h2⟩ := nq_nk hn
  ⟨nested_at I hK e k n v u (h.key h1) h1 r, h2⟩
theorem eu9 (hu : X.A.units + 64 < cLine) : X.A.units + 9 < cLine := by omega
/-! d[k] -/
def dDx : OD := fun x y => match x with
  | .dic kvs => (nq y).bind (lookD kvs)
  | _ => none
def rDx (G : GE) : R2 := fun x y H Q => ∃ S kd kvs n d, Ex S H ∧ VAt G S H x (.dic kvs) ∧ VAt G S H y kd ∧ nq kd = some n ∧ lookD kvs n = some d ∧ Fin G S H d Q
theorem rDx_serve : SrvD G (rDx G) dDx := by
  intro S H x y v u d Q e hx hy h f
  unfold dDx at h
  split at h
  · rename_i kvs
    obtain ⟨n, h1, h2⟩ := Option.bind_eq_some_iff.mp h
    exact ⟨S, y, kvs, n, d, e, hx, hy, h1, h2, f⟩
  · cases h
theorem se_dix {mo mi : ME} (hK : X.K = G.K) (hw : X.w = G.w) (hu : X.A.units + 64 < cLine) (ho : PE X o (rdE G g Wx mo)) (hi : PE X i (rdE G g Wx mi)) (hs : NoSl i := by intro _ _; rfl) : PE X (.Subscript o i pos) (rdE G g Wx (mB (lift2 dDx) mo mi)) := by
  refine ⟨fun pins s σ H Q I h => ?_⟩
  have h2 := (rDx_serve.lift (G := G)).tOp h
  refine subD_of PySem.F.slot_dict_getitem.lookup hs (thn (ho.run pins s σ H _ I h2) fun u s1 ⟨x, H1, I1, rx, q1⟩ => thn (hi.run pins s1 σ H1 _ I1 q1) fun iv s2 ⟨y, H2, I2, ry, q2⟩ => ?_)
  obtain ⟨S, kd, kvs, n, d, e, ⟨a, ent, rfl, h3, h4⟩, hy, h5, h6, f⟩ := q2
  obtain rfl : u = Value.ref a := rx
  obtain ⟨ys, pr, dc, ok, z, zl, hs⟩ := dc_of I2 hK hw e h3 h4
  obtain ⟨k1, k2⟩ := nested_k I2 hK e hy h5 ry
  obtain ⟨v, uu, e1, e2, e3⟩ := look_some h4 pr h6
  exact ⟨dc.typeIs, o_getItem (eu9 hu) k1 k2 dc ok e1 fun t => ⟨v, H2, I2.tok t, e2, f.now e e3⟩⟩
/-! k in d -/
def dInK : OD := fun y x => match x with
  | .dic kvs => (nq y).map fun n => .bl (lookD kvs n).isSome
  | _ => none
def dNotInK : OD := fun y x => match x with
  | .dic kvs => (nq y).map fun n => .bl (!(lookD kvs n).isSome)
  | _ => none
theorem dInK_serve (hK : X.K = G.K) (hw : X.w = G.w) (hu : X.A.units + 64 < cLine) : ∃ r, OpR X (compareOp .In) r ∧ SrvD G r dInK := by
  refine ⟨fun y x H Q => ∃ S kd kvs n, Ex S H ∧ VAt G S H x (.dic kvs) ∧ VAt G S H y kd ∧ nq kd = some n ∧ Q (.bl (lookD kvs n).isSome) H, fun pins s σ H y x v u Q I ry rx h => ?_, ?_⟩
  · obtain ⟨S, kd, kvs, n, e, ⟨a, ent, rfl, h3, h4⟩, hy, h5, f⟩ := h
    obtain rfl : u = Value.ref a := rx
    obtain ⟨ys, pr, dc, ok, z, zl, hs⟩ := dc_of I hK hw e h3 h4
    obtain ⟨k1, k2⟩ := nested_k I hK e hy h5 ry
    refine o_in (eu9 hu) k1 k2 hs dc ok fun t => ⟨_, H, I.tok t, ?_, f⟩
    rw [look_isSome h4 pr]; rfl
  · intro S H y x v u d Q e hy hx h f
    unfold dInK at h
    split at h
    · rename_i kvs
      obtain ⟨n, h1, rfl⟩ := Option.map_eq_some_iff.mp h
      exact ⟨S, y, kvs, n, e, hx, hy, h1, f.bl e⟩
    · cases h
theorem dNotInK_serve (hK : X.K = G.K) (hw : X.w = G.w) (hu : X.A.units + 64 < cLine) : ∃ r, OpR X (compareOp .NotIn) r ∧ SrvD G r dNotInK := by
  refine ⟨fun y x H Q => ∃ S kd kvs n, Ex S H ∧ VAt G S H x (.dic kvs) ∧ VAt G S H y kd ∧ nq kd = some n ∧ Q (.bl (!(lookD kvs n).isSome)) H, fun pins s σ H y x v u Q I ry rx h => ?_, ?_⟩
  · obtain ⟨S, kd, kvs, n, e, ⟨a, ent, rfl, h3, h4⟩, hy, h5, f⟩ := h
    obtain rfl : u = Value.ref a := rx
    obtain ⟨ys, pr, dc, ok, z, zl, hs⟩ := dc_of I hK hw e h3 h4
    obtain ⟨k1, k2⟩ := nested_k I hK e hy h5 ry
    refine o_notIn (eu9 hu) k1 k2 hs dc ok fun t => ⟨_, H, I.tok t, ?_, f⟩
    rw [look_isSome h4 pr]; rfl
  · intro S H y x v u d Q e hy hx h f
    unfold dNotInK at h
    split at h
    · rename_i kvs
      obtain ⟨n, h1, rfl⟩ := Option.map_eq_some_iff.mp h
      exact ⟨S, y, kvs, n, e, hx, hy, h1, f.bl e⟩
    · cases h
/-! d[k] = v, d in a cell -/
theorem dO_new {P : Program} {w : World} {H' : Hp} {h' : Heap} {a : Addr} {en : List Ent} {ys : List Yt} (z : en.length ≤ sizeLine) (hs : (a == sysModules) = false) (nd : (en.map (·.1)).Nodup) (pr : Paired REnt en ys) (dc : DcAt w h' a ys) : ObjOk P w H' h' a (dO w a en) := by
  obtain ⟨ob, dt, ep, h1, h2, h3, h4⟩ := dc
  refine ⟨⟨z, hs, nd, ys, pr, ob, dt, ep, h1, h2, h3, h4⟩, ⟨ob, h1⟩, fun m1 m2 ⟨z, hs, nd, ys, pr, ob, dt, ep, h1, h2, h3, h4⟩ k => ⟨z, hs, nd, ys, pr, ob, dt, ep, k _ h1, h2, h3, h4⟩⟩
theorem same_at {a : Addr} {h h' : Heap} {ys : List Yt} {w : World} (dc : DcAt w h' a ys) : ∃ q, h'.get? a = some q := let ⟨ob, _, _, h1, _⟩ := dc; ⟨ob, h1⟩
def rSetO (G : GE) : V → V → V → Hp → (Hp → Prop) → Prop := fun o i v H Q => ∃ S a en kvs kd n, o = .ref a ∧ Ex S H ∧ H a = some (dO G.w a en) ∧ DKs G S en kvs ∧ VAt G S H i kd ∧ nq kd = some n ∧ en.length < sizeLine ∧ Q (upd H a (dO G.w a (putE n i v en)))
theorem dput_len {n : NestedKey} {kv v : V} {en : List Ent} (h : en.length < sizeLine) : (putE n kv v en).length ≤ sizeLine := by
  have := putE_length (n := n) (kv := kv) (v := v) (es := en)
  omega
theorem d_store {pins : List (Addr × Obj)} {σ : L2.St} {H S : Hp} {s : Shared} {h' : Heap} {t : Nat} {a : Addr} {en : List Ent} {ys : List Yt} {n : NestedKey} {i v : V} {iv u : Value} (hw : X.w = G.w) (I : Inv X pins σ H s) (hH : H a = some (dO G.w a en)) (hl : en.length < sizeLine) (nd : (en.map (·.1)).Nodup) (hs : (a == sysModules) = false)
    (pr : Paired REnt en ys) (ri : RelV i iv) (rv : RelV v u) (dc : DcAt X.w h' a (putY ys n iv u)) (sb : Heap.SameBut a s.heap h') : Inv X pins σ (upd H a (dO G.w a (putE n i v en))) { s with heap := h', toks := t } := by
  refine I.write (x := a) (e := a) (by rw [hH]; exact True.intro) (.inl rfl) (fun b q hb z => (sb.2 b hb).trans z) (same_at (h := h') dc) ?_
  rw [← hw]
  exact dO_new (dput_len hl) hs (putE_nodup nd) (put_rel ri rv pr) dc
theorem dO_nodup {pins : List (Addr × Obj)} {σ : L2.St} {H : Hp} {s : Shared} {a : Addr} {en : List Ent} (I : Inv X pins σ H s) (h : Rd H a (dO G.w a en)) : (en.map (·.1)).Nodup := by
  obtain ⟨⟨z, hs, nd, r⟩, _, _⟩ := rd_of I.hok h
  exact nd
theorem set_dO (hK : X.K = G.K) (hw : X.w = G.w) (hu : X.A.units + 64 < cLine) : PSet X (rSetO G) := by
  intro pins s σ H o i v ov iv u Q I ro ri rv h
  obtain ⟨S, a, en, kvs, kd, n, rfl, e, hH, hk, hy, hn, hl, f⟩ := h
  obtain rfl : ov = Value.ref a := ro
  obtain ⟨ys, pr, dc, ok, z, zl, hs⟩ := dc_of I hK hw e (.inl hH) hk
  obtain ⟨k1, k2⟩ := nested_k I hK e hy hn ri
  exact o_setItem (eu9 hu) k1 k2 dc ok (by omega) fun h' t dc' sb => ⟨_, d_store (S := S) hw I hH hl (dO_nodup I (.inl hH)) hs pr ri rv dc' sb, f⟩
def gSubK (mo mi : ME) : MG := fun u env st => (mo env st).thenS env fun o st1 => (mi env st1).thenS env fun i st2 => match u, o, i with
  | .d d, .c k, .d kd => (match st2[k]?, nq kd with
    | some (some (.dic kvs)), some n => if kvs.length < sizeL then .nx env (st2.set k (some (.dic (putKD kd n d kvs)))) else .bad
    | _, _ => .bad)
  | _, _, _ => .bad
theorem sg_subK {mo mi : ME} (hK : X.K = G.K) (hw : X.w = G.w) (hu : X.A.units + 64 < cLine) (ho : PE X o (rdE G g Wx mo)) (hi : PE X i (rdE G g Wx mi))
    (ha : ∀ v, assign (.Subscript o i pos) X.env v = (do
      let ov ← holding [v] (eval o X.env)
      let iv ← holding [v, ov] (eval i X.env)
      standAt pos
      holding [v, ov, iv] (setItem ov iv v)
      release [v, ov, iv] []) := by intro _; rfl) : SG X G g Wx (.Subscript o i pos) (gSubK mo mi) := by
  refine ⟨_, pg_sub ho hi (set_dO hK hw hu) ha, fun w v u σ env st H D hg he hu q => ?_⟩
  refine ⟨w, env, st, hg, he, Ok.thenS he q fun o' st1 w1 vo H1 l1 g1 e1 x1 q1 => ?_⟩
  refine ⟨w1, env, st1, g1, e1, Ok.thenS e1 q1 fun i' st2 w2 vi H2 l2 g2 e2 x2 q2 => ?_⟩
  have hu2 := hu.mono (l1.trans l2)
  have x1' := x1.mono l2
  split at q2
  · rename_i d k kd
    obtain ⟨a, hp, rfl⟩ := x1'
    split at q2
    · rename_i kvs n hst hn
      split at q2
      · rename_i hl
        obtain ⟨c1, c0, en, h1, h2⟩ := g2.cell k a _ hp hst
        refine ⟨w2.S, a, en, kvs, kd, n, rfl, g2.sub, h1, h2, g2.view (st := st2) (u := .d kd) x2 rfl, hn, by rw [h2.length, sizeL_eq]; exact hl, ?_⟩
        have hkd : DAt G w2.S vi kd := x2
        exact q2 w2 σ _ (Le.refl _) (g2.write hp hst c0 ⟨c0, _, upd_same, put_dks hn hkd hu2 h2⟩) e2
      · exact (show False from q2).elim
    · exact (show False from q2).elim
  · exact (show False from q2).elim
/-! {} -/
def nDic0 : MN := fun _ st => .ok (.dic []) st
def tDNewO (G : GE) : TE := fun _ H Q => ∀ p, H p = none → Q (.ref p) (upd H p (dO G.w p []))
theorem dO_empty {P : Program} {w : World} {H : Hp} (h : Heap) (hb : sysModules < h.objs.size) : ObjOk P w H (h.push { cls := .type "dict", data := .dict #[] }) h.objs.size (dO w h.objs.size []) :=
  dO_new (ys := []) (Nat.zero_le _) (beq_eq_false_iff_ne.mpr (Ne.symm (Nat.ne_of_lt hb))) List.nodup_nil .nil ⟨_, #[], 0, Heap.get?_push_size _ rfl, ⟨rfl, rfl, rfl⟩, rfl, rfl⟩
theorem pe_dnewO (hw : X.w = G.w) : PE X (.Dict [] [] pos) (tDNewO G) := ⟨fun pins s σ H Q I h =>
  wpAny_Dict_empty ⟨.ref s.heap.objs.size, _, I.laid (a := s.heap.objs.size) (o := dO G.w s.heap.objs.size []) (t' := s.toks) (fun _ _ q => Heap.get?_push_of_some _ q) (Nat.le_refl _) (hw ▸ dO_empty s.heap I.big), rfl, h _ (I.hok.fresh (Nat.le_refl _))⟩⟩
theorem relN_dic0 {w : W} {st : Sto} {H : Hp} (hg : Good G g w st H) {p : Addr} (hp : H p = none) : relN G g w (upd H p (dO G.w p [])) (.ref p) (.dic []) := by
  obtain ⟨n1, n2, n3⟩ := hg.newH0 hp
  exact ⟨p, rfl, n2, n3, n1, hg.subL.free hp, [], upd_same, by unfold DKs; rfl⟩
theorem se_dic0 (hw : X.w = G.w) : PE X (.Dict [] [] pos) (rdN G g Wx nDic0) := PE.imp (pe_dnewO hw) fun σ H Q ⟨w, env, st, hg, he, q⟩ p hp => q w (.ref p) _ (Le.refl _) (hg.laid hp) (relN_dic0 hg hp)
/-! len -/
def fLenD : List D → Option D
  | [.dic kvs] => some (.int kvs.length)
  | ds => fLen ds
theorem fLenD_serve (hK : X.K = G.K) (hw : X.w = G.w) : ∃ r, CallR X (.builtin "len") r ∧ SrvC G r fLenD := by
  obtain ⟨r, c, sv⟩ := fLen_serve (X := X) (G := G) hK
  refine ⟨fun vs H Q => (∃ S kvs v, vs = [v] ∧ Ex S H ∧ VAt G S H v (.dic kvs) ∧ Q (.int kvs.length) H) ∨ r vs H Q, fun pins s σ H vs us Q I rv h => ?_, ?_⟩
  · rcases h with ⟨S, kvs, v, rfl, e, ⟨a, en, rfl, h3, h4⟩, f⟩ | h
    · cases rv with
      | cons r1 r2 =>
        cases r2
        obtain rfl : _ = Value.ref a := r1
        obtain ⟨ys, pr, dc, ok, z, zl, hs⟩ := dc_of I hK hw e h3 h4
        exact o_len hs dc (n := kvs.length) (by rw [zl, h4.length]) (by omega) fun t => ⟨.int kvs.length, H, I.tok (t + 1), ⟨t, rfl⟩, f⟩
    · exact c pins s σ H vs us Q I rv h
  · intro S H vs ds d Q e hv hd hf
    unfold fLenD at hd
    split at hd
    · cases hd
      obtain ⟨v, rfl, h⟩ := hv.one
      exact .inl ⟨S, _, v, rfl, e, h, hf.int e⟩
    · exact .inr (sv S H vs ds d Q e hv hd hf)
end
end LV

/-! LVq -/
set_option Elab.async false
set_option linter.all false
set_option maxRecDepth 100000
set_option maxHeartbeats 2000000
/-! LVq: a cell is frozen for good; a dict's cell is locked for a while; cells are let go. -/
namespace LV
open PySem PySem.Spec PyProof.Rows SeqAt L2
section
variable {X : Cx} {G : GE} {g : GI} {Wx : WX} {pos pos' p q apos cpos : Pos} {o i a b : Expr} {es : List Expr}
def isLk : D → Bool
  | .dlk _ => true
  | _ => false
theorem CAt.keepL {S L L' H H' : Hp} {q : Addr} (eL : L' q = L q) (e : ∀ o, H q = some o → H' q = some o) {d : D} (h : CAt G S L H q d) : CAt G S L' H' q d := by
  cases d with
  | lst ds => obtain ⟨h0, vs, h1, h2⟩ := h; exact ⟨by rw [eL]; exact h0, vs, e _ h1, h2⟩
  | dic ds => obtain ⟨h0, vs, h1, h2⟩ := h; exact ⟨by rw [eL]; exact h0, vs, e _ h1, h2⟩
  | dlk ds => obtain ⟨o, vs, h0, h1, h2⟩ := h; exact ⟨o, vs, by rw [eL]; exact h0, e _ h1, h2⟩
  | obj c ds => obtain ⟨h0, C, dx, gs, h1, h2, h3⟩ := h; exact ⟨by rw [eL]; exact h0, C, dx, gs, e _ h1, h2, h3⟩
  | _ => exact h
theorem Good.other {w : W} {st : Sto} {H : Hp} (hg : Good G g w st H) {k j : Nat} {r t : Addr} (h1 : w.ps[k]? = some r) (h2 : w.ps[j]? = some t) (ne : k ≠ j) : t ≠ r := fun z => by
  subst z
  exact ne ((List.getElem?_inj (List.getElem?_eq_some_iff.mp h1).1 hg.nd).mp (h1.trans h2.symm))
theorem Good.mine {w : W} {st : Sto} {H : Hp} (hg : Good G g w st H) {k : Nat} {r : Addr} (h1 : w.ps[k]? = some r) : r ∈ g.w0.ps ∨ g.H0 r = none := by
  by_cases hk : k < g.w0.ps.length
  · obtain ⟨t, e⟩ := hg.le.p
    rw [e, List.getElem?_append_left hk] at h1
    exact .inl (List.mem_of_getElem? h1)
  · exact .inr (hg.newP k r (Nat.le_of_not_lt hk) h1)
/-- the cell k becomes part of what never changes -/
theorem Good.frozen {w : W} {st : Sto} {H H' : Hp} (hg : Good G g w st H) {k : Nat} {r : Addr} {d : D} {u : HO} (hp : w.ps[k]? = some r) (hs : st[k]? = some (some d)) (hL : w.L r = none) (h1 : H' r = some u) (h2 : ∀ b, b ≠ r → H' b = H b) :
    Good G g ⟨upd w.S r u, w.ps, w.L, w.xo⟩ (st.set k none) H' := by
  obtain ⟨c1, c2⟩ := hg.cell k r d hp hs
  have hkl : k < st.length := (List.getElem?_eq_some_iff.mp hs).1
  refine ⟨hg.le.trans ⟨Ex.new c1, [], by simp⟩, fun b x e => ?_, fun b x e => ?_, hg.xo, by simp [hg.len], hg.nd, fun j t x e1 e2 => ?_, fun t ht => ?_, fun b x e1 e2 => ?_, fun b x e => ?_, hg.newP⟩
  · have e' : upd w.S r u b = some x := e
    by_cases hb : b = r
    · subst hb; rw [upd_same] at e'; cases e'; exact h1
    · rw [upd_ne hb] at e'; rw [h2 b hb]; exact hg.sub _ _ e'
  · have hb : b ≠ r := fun z => by rw [z, hL] at e; cases e
    rw [h2 b hb]; exact hg.subL _ _ e
  · by_cases hj : k = j
    · subst hj; rw [List.getElem?_set_self hkl] at e2; cases e2
    · rw [List.getElem?_set_ne hj] at e2
      have ne := hg.other hp e1 hj
      obtain ⟨r1, r2⟩ := hg.cell j t x e1 e2
      refine ⟨?_, (r2.mono (Ex.new c1)).keep fun z hz => by rw [h2 t ne]; exact hz⟩
      show upd w.S r u t = none
      rw [upd_ne ne]; exact r1
  · by_cases hb : t = r
    · subst hb; exact ⟨u, h1⟩
    · rw [h2 t hb]; exact hg.used t ht
  · have hb : b ≠ r := fun z => by
      subst z
      rcases hg.mine hp with h | h
      · exact e2 h
      · rw [h] at e1; cases e1
    rw [h2 b hb]; exact hg.frame b x e1 e2
  · have e' : upd w.S r u b = some x := e
    by_cases hb : b = r
    · subst hb
      rcases hg.mine hp with h | h
      · exact .inr (.inr h)
      · exact .inr (.inl h)
    · rw [upd_ne hb] at e'; exact hg.newS b x e'
theorem froz_le {w : W} {r : Addr} {u : HO} (c1 : w.S r = none) : Le w ⟨upd w.S r u, w.ps, w.L, w.xo⟩ := ⟨Ex.new c1, rfl, rfl, [], by simp⟩
/-- what is to be done, and what it brings -/
theorem Good.fzStep {w : W} {st : Sto} {H : Hp} (hg : Good G g w st H) {k : Nat} {r : Addr} {d : D} (hp : w.ps[k]? = some r) (hs : st[k]? = some (some d)) (hd : isLk d = false) :
    (∃ w', Le w w' ∧ Good G g w' (st.set k none) H ∧ DAt G w'.S (.ref r) d) ∨
    ∃ u, H r = some u ∧ Mut (some u) ∧ ∀ od, ∃ w', Le w w' ∧ Good G g w' (st.set k none) (upd H r (.frz od u)) ∧ DAt G w'.S (.ref r) d := by
  obtain ⟨c1, c2⟩ := hg.cell k r d hp hs
  cases d with
  | lst ds =>
    obtain ⟨h0, vs, h1, h2⟩ := c2
    exact .inl ⟨_, froz_le c1, hg.frozen hp hs h0 h1 fun _ _ => rfl, r, vs, rfl, upd_same, DAts.mono (Ex.new c1) ds h2⟩
  | obj c fs =>
    obtain ⟨h0, C, dx, gs, h1, h2, h3⟩ := c2
    exact .inl ⟨_, froz_le c1, hg.frozen hp hs h0 h1 fun _ _ => rfl, r, C, dx, gs, rfl, upd_same, h2, DFs.mono (Ex.new c1) fs h3⟩
  | dic kvs =>
    obtain ⟨h0, en, h1, h2⟩ := c2
    exact .inr ⟨_, h1, True.intro, fun od => ⟨_, froz_le c1, hg.frozen hp hs h0 upd_same fun b hb => upd_ne hb, r, od, en, rfl, upd_same, DKs.mono (Ex.new c1) kvs h2⟩⟩
  | dlk kvs => cases hd
  | _ => exact (show False from c2).elim
def fzU (u : U) (st : Sto) : Option (D × Sto) := match u with
  | .d x => some (x, st)
  | .x _ => none
  | .c k => match st[k]? with
    | some (some d) => if isLk d = true then none else some (d, st.set k none)
    | _ => none
/-- the value, frozen -/
def mFrz (m : ME) : ME := fun env st => (m env st).bind fun u st1 => match fzU u st1 with
  | some (d, st2) => .ok (.d d) st2
  | none => .bad
theorem se_frz {e : Expr} {m : ME} (h : PE X e (rdE G g Wx m)) : PE X e (rdE G g Wx (mFrz m)) := by
  refine ⟨fun pins s σ H Q I ⟨w, env, st, hg, he, q⟩ => ?_⟩
  have hm : rdE G g Wx m σ H (fun v H1 => Q v H1 ∨ ∃ r u, v = .ref r ∧ H1 r = some u ∧ Mut (some u) ∧ ∀ od, Q v (upd H1 r (.frz od u))) := by
    refine ⟨w, env, st, hg, he, Ok.bind q fun u st1 w1 v H1 l1 g1 x1 q1 => ?_⟩
    cases u with
    | d x => exact .inl (q1 w1 v H1 (Le.refl _) g1 x1)
    | x e => exact (show False from q1).elim
    | c k =>
      obtain ⟨r, hr, rfl⟩ := x1
      simp only [fzU] at q1
      cases e1 : st1[k]? with
      | none => simp only [e1] at q1; exact (show False from q1).elim
      | some od =>
        cases od with
        | none => simp only [e1] at q1; exact (show False from q1).elim
        | some d =>
          simp only [e1] at q1
          cases hl : isLk d with
          | true => rw [hl] at q1; exact (show False from q1).elim
          | false =>
            rw [hl] at q1
            rcases g1.fzStep hr e1 hl with ⟨w', l', g', d'⟩ | ⟨u, hu, mu, k'⟩
            · exact .inl (q1 w' _ H1 l' g' d')
            · refine .inr ⟨r, u, rfl, hu, mu, fun od => ?_⟩
              obtain ⟨w', l', g', d'⟩ := k' od
              exact q1 w' _ _ l' g' d'
  refine thn (h.run pins s σ H _ I hm) fun v s1 ⟨x, H1, I1, rx, q1⟩ => ?_
  rcases q1 with q1 | ⟨r, u, rfl, hu, mu, k'⟩
  · exact ⟨x, H1, I1, rx, q1⟩
  · obtain ⟨od, I2⟩ := I1.lock hu mu
    exact ⟨.ref r, _, I2, rx, k' od⟩
/-- ahead of a statement: what the slot i holds is frozen -/
def sFrzV (i : Nat) (m : MS) : MS := fun env st => match env[i]? with
  | some (some u) => (match fzU u st with
    | some (d, st2) => m (env.set i (some (.d d))) st2
    | none => .bad)
  | _ => .bad
theorem EnvAt.same {w : W} {σ : L2.St} {env : EnvU} (h : EnvAt G w σ env) {i : Nat} {v : V} {u : U} (hv : σ[i]? = some (some v)) (hu : UAt G w v u) : EnvAt G w σ (env.set i (some u)) := by
  have := h.set i hu
  have e : σ.set i (some v) = σ := by
    obtain ⟨hl, e⟩ := List.getElem?_eq_some_iff.mp hv
    rw [← e]
    exact List.set_getElem_self hl
  rwa [e] at this
theorem sss_frzV {ss : List Stmt} {k : Nat} {m : MS} (h : PSs X ss (rdS G g Wx m)) : PSs X ss (rdS G g Wx (sFrzV k m)) := by
  refine ⟨fun pins s σ H D I ⟨w, env, st, hg, he, q⟩ => ?_⟩
  unfold sFrzV at q
  cases e0 : env[k]? with
  | none => simp only [e0] at q; exact (show False from q).elim
  | some o =>
    cases o with
    | none => simp only [e0] at q; exact (show False from q).elim
    | some u =>
      obtain ⟨v, hv, xu⟩ := he.at_ k u e0
      simp only [e0] at q
      cases u with
      | d x => exact h.run pins s σ H D I ⟨w, _, st, hg, he.same hv xu, q⟩
      | x e => exact (show False from q).elim
      | c j =>
        obtain ⟨r, hr, rfl⟩ := xu
        simp only [fzU] at q
        cases e1 : st[j]? with
        | none => simp only [e1] at q; exact (show False from q).elim
        | some od =>
          cases od with
          | none => simp only [e1] at q; exact (show False from q).elim
          | some d =>
            simp only [e1] at q
            cases hl : isLk d with
            | true => rw [hl] at q; exact (show False from q).elim
            | false =>
              rw [hl] at q
              rcases hg.fzStep hr e1 hl with ⟨w', l', g', d'⟩ | ⟨u, hu, mu, k'⟩
              · exact h.run pins s σ H D I ⟨w', _, _, g', (he.mono l').same (u := .d d) hv d', OkS.le l' q⟩
              · obtain ⟨od, I2⟩ := I.lock hu mu
                obtain ⟨w', l', g', d'⟩ := k' od
                exact h.run pins s σ _ D I2 ⟨w', _, _, g', (he.mono l').same (u := .d d) hv d', OkS.le l' q⟩
/-! ### a lock -/
/-- the dict's cell in the slot i is locked while the expression is reckoned -/
def mLkV (i : Nat) (m : ME) : ME := fun env st => match env[i]? with
  | some (some (.c k)) => (match st[k]? with
    | some (some (.dic kvs)) => (match m env (st.set k (some (.dlk kvs))) with
      | .ok u st' => (match st'[k]? with
        | some (some (.dlk kvs')) => .ok u (st'.set k (some (.dic kvs')))
        | _ => .bad)
      | .exc x st' => (match st'[k]? with
        | some (some (.dlk _)) => .exc x (st'.set k none)
        | _ => .bad)
      | .bad => .bad)
    | _ => m env st)
  | _ => m env st
theorem Good.locked {w : W} {st : Sto} {H : Hp} (hg : Good G g w st H) {k : Nat} {r : Addr} {kvs : List (D × D)} {en : List Ent} {od : Obj} (hp : w.ps[k]? = some r) (hs : st[k]? = some (some (.dic kvs))) (hH : H r = some (dO G.w r en)) (hk : DKs G w.S en kvs) :
    Good G g ⟨w.S, w.ps, upd w.L r (.frz od (dO G.w r en)), w.xo⟩ (st.set k (some (.dlk kvs))) (upd H r (.frz od (dO G.w r en))) := by
  obtain ⟨c1, c0, c2⟩ := hg.cell k r _ hp hs
  have hkl : k < st.length := (List.getElem?_eq_some_iff.mp hs).1
  have nS : ∀ b x, w.S b = some x → b ≠ r := fun b x e z => by rw [z, c1] at e; cases e
  refine ⟨⟨hg.le.s, hg.le.p⟩, fun b x e => by rw [upd_ne (nS b x e)]; exact hg.sub _ _ e, fun b x e => ?_, hg.xo, by simp [hg.len], hg.nd, fun j t x e1 e2 => ?_, fun t ht => ?_, fun b x e1 e2 => ?_, hg.newS, hg.newP⟩
  · have e' : upd w.L r (.frz od (dO G.w r en)) b = some x := e
    by_cases hb : b = r
    · subst hb; rw [upd_same] at e' ⊢; exact e'
    · rw [upd_ne hb] at e' ⊢; exact hg.subL _ _ e'
  · by_cases hj : k = j
    · subst hj
      rw [List.getElem?_set_self hkl] at e2
      cases e2
      rw [hp] at e1; cases e1
      exact ⟨c1, od, en, upd_same, upd_same, hk⟩
    · rw [List.getElem?_set_ne hj] at e2
      have ne := hg.other hp e1 hj
      obtain ⟨r1, r2⟩ := hg.cell j t x e1 e2
      exact ⟨r1, r2.keepL (upd_ne ne) fun z hz => by rw [upd_ne ne]; exact hz⟩
  · by_cases hb : t = r
    · subst hb; exact ⟨_, upd_same⟩
    · obtain ⟨z, hz⟩ := hg.used t ht
      exact ⟨z, by rw [upd_ne hb]; exact hz⟩
  · have hb : b ≠ r := fun z => by
      subst z
      rcases hg.mine hp with h | h
      · exact e2 h
      · rw [h] at e1; cases e1
    rw [upd_ne hb]; exact hg.frame b x e1 e2
/-- .. and let go again, as a dict (back) or as nothing -/
theorem Good.unlocked {w' : W} {st' : Sto} {H' : Hp} (hg : Good G g w' st' H') {k : Nat} {r : Addr} {L : Hp} {u : HO} {od : Option D} {H2 : Hp} (hp : w'.ps[k]? = some r) (hk : k < st'.length) (hS : w'.S r = none) (hL : w'.L = upd L r u) (hn : L r = none)
    (hc : ∀ x, od = some x → CAt G w'.S L H2 r x) (hu : ∃ z, H2 r = some z) (h2 : ∀ b, b ≠ r → H2 b = H' b) : Good G g ⟨w'.S, w'.ps, L, w'.xo⟩ (st'.set k od) H2 := by
  have nS : ∀ b x, w'.S b = some x → b ≠ r := fun b x e z => by rw [z, hS] at e; cases e
  refine ⟨⟨hg.le.s, hg.le.p⟩, fun b x e => by rw [h2 b (nS b x e)]; exact hg.sub _ _ e, fun b x e => ?_, hg.xo, by simp [hg.len], hg.nd, fun j t x e1 e2 => ?_, fun t ht => ?_, fun b x e1 e2 => ?_, hg.newS, hg.newP⟩
  · have hb : b ≠ r := fun z => by
      have e : L b = some x := e
      rw [z, hn] at e; cases e
    rw [h2 b hb]
    refine hg.subL _ _ ?_
    rw [hL, upd_ne hb]; exact e
  · by_cases hj : k = j
    · subst hj
      rw [List.getElem?_set_self hk] at e2
      have e1 : w'.ps[k]? = some t := e1
      rw [hp] at e1; cases e1
      exact ⟨hS, hc x (Option.some.inj e2)⟩
    · rw [List.getElem?_set_ne hj] at e2
      have ne := hg.other hp e1 hj
      obtain ⟨r1, r2⟩ := hg.cell j t x e1 e2
      exact ⟨r1, r2.keepL (by rw [hL, upd_ne ne]) fun z hz => by rw [h2 t ne]; exact hz⟩
  · by_cases hb : t = r
    · subst hb; exact hu
    · rw [h2 t hb]; exact hg.used t ht
  · have hb : b ≠ r := fun z => by
      subst z
      rcases hg.mine hp with h | h
      · exact e2 h
      · rw [h] at e1; cases e1
    rw [h2 b hb]; exact hg.frame b x e1 e2
theorem se_lkV {e : Expr} {j : Nat} {m : ME} (h : PE X e (rdE G g Wx m)) : PE X e (rdE G g Wx (mLkV j m)) := by
  refine ⟨fun pins s σ H Q I ⟨w, env, st, hg, he, q⟩ => ?_⟩
  unfold mLkV at q
  split at q
  · rename_i k hek
    split at q
    · rename_i kvs hst
      obtain ⟨v, hv, r, hr, rfl⟩ := he.at_ j _ hek
      obtain ⟨c1, c0, en, hH, hk⟩ := hg.cell k r _ hr hst
      have mu : Mut (some (dO G.w r en)) := True.intro
      obtain ⟨od, I1⟩ := I.lock hH mu
      have nf := I.nofrz hH mu
      have g1 := hg.locked (od := od) hr hst hH hk
      have he1 : EnvAt G ⟨w.S, w.ps, upd w.L r (.frz od (dO G.w r en)), w.xo⟩ σ env := ⟨he.len, fun i u e => let ⟨v, h1, h2⟩ := he.at_ i u e; ⟨v, h1, by cases u <;> exact h2⟩⟩
      have hkl : k < st.length := (List.getElem?_eq_some_iff.mp hst).1
      have run := h.run pins s σ _ (fun v H' => ∃ od' u', H' r = some (.frz od' u') ∧ Q v (upd H' r u')) I1 ⟨_, env, _, g1, he1, by
        cases r1 : m env (st.set k (some (.dlk kvs))) with
        | bad => rw [r1] at q; exact q
        | exc x st' =>
          rw [r1] at q
          simp only at q
          split at q
          · rename_i kv2 hst'
            intro w' H' cls dd l' g' x'
            have hp' : w'.ps[k]? = some r := l'.at hr
            obtain ⟨n1, o2, en2, hL2, hH2, hk2⟩ := g'.cell k r _ hp' hst'
            exact q ⟨w'.S, w'.ps, w.L, w'.xo⟩ H' cls dd ⟨l'.s, rfl, l'.o, l'.p⟩ (g'.unlocked (od := none) hp' (List.getElem?_eq_some_iff.mp hst').1 n1 l'.l c0 (fun x hx => by cases hx) ⟨_, hH2⟩ fun _ _ => rfl) x'
          · exact (show False from q).elim
        | ok u st' =>
          rw [r1] at q
          simp only at q
          intro w' v H' l' g' x'
          split at q
          · rename_i kvs' hst'
            have hp' : w'.ps[k]? = some r := l'.at hr
            obtain ⟨n1, o2, en2, hL2, hH2, hk2⟩ := g'.cell k r _ hp' hst'
            refine ⟨o2, dO G.w r en2, hH2, ?_⟩
            refine q ⟨w'.S, w'.ps, w.L, w'.xo⟩ v (upd H' r (dO G.w r en2)) ⟨l'.s, rfl, l'.o, l'.p⟩ (g'.unlocked (od := some (.dic kvs')) hp' (List.getElem?_eq_some_iff.mp hst').1 n1 l'.l c0 (fun x hx => ?_) ⟨_, upd_same⟩ fun b hb => upd_ne hb) (by cases u <;> exact x')
            cases hx
            exact ⟨c0, en2, upd_same, hk2⟩
          · exact (show False from q).elim⟩
      refine thn run fun v s1 ⟨x, H1, I2, rx, od', u', e1, q1⟩ => ?_
      exact ⟨x, _, I2.unlock e1 nf, rx, q1⟩
    · exact h.run pins s σ H Q I ⟨w, env, st, hg, he, q⟩
  · exact h.run pins s σ H Q I ⟨w, env, st, hg, he, q⟩
end
end LV

/-! LVr -/
set_option Elab.async false
set_option linter.all false
set_option maxRecDepth 100000
set_option maxHeartbeats 2000000
/-! LVr: what is walked in a dict. -/
namespace LV
open PySem PySem.Spec PyProof.Rows SeqAt L2
section
variable {X : Cx} {G : GE} {g : GI} {Wx : WX} {pos pos' apos cpos : Pos} {e iter tg : Expr}
theorem frz_dO {pins : List (Addr × Obj)} {σ : L2.St} {H : Hp} {s : Shared} {d : Addr} {o : Obj} {en : List Ent} (I : Inv X pins σ H s) (h : H d = some (.frz o (dO X.w d en))) :
    (d == sysModules) = false ∧ s.heap.get? d = some o ∧ o.ExactDict ∧ ∃ dt ep ys, o.data = .dict dt ep ∧ dt.size = en.length ∧ dt.toList = ys.map (entOf X.w) ∧ Paired REnt en ys := by
  obtain ⟨hd, ⟨z, hs, nd, ys, pr, ob, dt, ep, h1, h2, h3, h4⟩, _⟩ := I.hok d _ h
  rw [hd] at h1
  cases h1
  refine ⟨hs, hd, h2, dt, ep, ys, h3, ?_, h4, pr⟩
  rw [← Array.length_toList, h4, List.length_map, Paired.length pr]
theorem ent_at {en : List Ent} {ys : List Yt} {dt : Array DictEntry} {w : World} (pr : Paired REnt en ys) (h : dt.toList = ys.map (entOf w)) {i : Nat} {y : Ent} (e : en[i]? = some y) : ∃ z : DictEntry, dt[i]? = some z ∧ RelV y.2.1 z.key ∧ RelV y.2.2 z.val := by
  obtain ⟨b, hb, r⟩ := paired_get pr e
  refine ⟨entOf w b, ?_, r.2.1, r.2.2⟩
  rw [← Array.getElem?_toList, h, List.getElem?_map, hb]; rfl
/-- the walks: keys, values, pairs -/
def ItK (w : World) (d : Addr) (o : Obj) (en : List Ent) : It :=
  ⟨fun i H => H d = some (.frz o (dO w d en)) ∧ i < en.length, fun i H x H' => H' = H ∧ ∃ y, en[i]? = some y ∧ x = y.2.1, fun i H => H d = some (.frz o (dO w d en)) ∧ en.length ≤ i⟩
def ItV (w : World) (d : Addr) (o : Obj) (en : List Ent) : It :=
  ⟨fun i H => H d = some (.frz o (dO w d en)) ∧ i < en.length, fun i H x H' => H' = H ∧ ∃ y, en[i]? = some y ∧ x = y.2.2, fun i H => H d = some (.frz o (dO w d en)) ∧ en.length ≤ i⟩
def ItP (w : World) (d : Addr) (o : Obj) (en : List Ent) : It :=
  ⟨fun i H => H d = some (.frz o (dO w d en)) ∧ i < en.length, fun i H x H' => ∃ T y, en[i]? = some y ∧ x = .ref T ∧ H T = none ∧ H' = upd H T (.tup [y.2.1, y.2.2]), fun i H => H d = some (.frz o (dO w d en)) ∧ en.length ≤ i⟩
section
variable {P : Program} {w : World} {K : PySem.W.Frag} {d : Addr} {o : Obj} {dt : Array DictEntry} {ep : Nat} {en : List Ent}
theorem turnK (it : Addr) (hod : o.data = .dict dt ep) : Turn P w K tg (ItK w d o en) [it] it (fun i h => h.IsKeyIter it d i en.length ep) where
  mem := by simp
  obj := fun i h st b hb => by
    obtain rfl : b = it := by simpa using hb
    obtain ⟨oi, e, c, dd⟩ := st
    exact ⟨oi, e, fun v z => by rw [dd] at z; cases z⟩
  keep := fun i h h' st k => st.at fun oi e => k it (by simp) oi e
  item := by
    intro X hP hw hK hc i pins s σ H E I hf st ⟨hd, hi⟩
    subst hP hw hK
    obtain ⟨f0, f1, f2, f3, f4, f5⟩ := hf it (by simp)
    obtain ⟨hs, hgd, hx, dt', ep', ys, hdt, hsz, he, pr⟩ := frz_dO I hd
    obtain ⟨rfl, rfl⟩ := dict_ep hod hdt
    obtain ⟨z, hz, r1, r2⟩ := ent_at pr he (List.getElem?_eq_getElem hi)
    refine next_key_item st hgd hdt hsz hz fun h' st' sb => ?_
    have I1 : Inv X pins σ H { s with heap := h' } := I.turned (t' := s.toks) (fun b ob hb e => (sb.2 b hb).trans e) f0 f1 f3 f4 f5
    obtain ⟨oi, e, c, dd⟩ := id st'
    exact ⟨z.key, rfl, go_of (s := { s with heap := h' }) e c dd (by decide) ⟨_, H, I1, r1, ⟨rfl, _, List.getElem?_eq_getElem hi, rfl⟩, st', fun b hb => (hf b hb).1⟩⟩
  done := by
    intro X hP hw hK hc i pins s σ H E I hf st ⟨hd, hi⟩
    subst hP hw hK
    obtain ⟨f0, f1, f2, f3, f4, f5⟩ := hf it (by simp)
    obtain ⟨hs, hgd, hx, dt', ep', ys, hdt, hsz, he, pr⟩ := frz_dO I hd
    obtain ⟨rfl, rfl⟩ := dict_ep hod hdt
    exact next_key_end (I.ok.hd hc) st hgd hdt hsz hi fun h' eb => ⟨rfl, I.turned (t' := s.toks) (fun b ob hb e => eb b ob hb e) f0 f1 f3 f4 f5⟩
  self := fun A i s Q E st h => by
    refine wpAny_pyIter_slot st.typeIs PySem.F.slot_dict_keyiterator_iter (wpAny_call_entry PySem.F.slot_dict_keyiterator_iter st.typeIs PySem.F.entry_dict_keyiterator_iter ?_ (PySem.F.args_dict_keyiterator_iter_1 _))
    exact wpAny_pure (show _ from ⟨_, rfl, "dict_keyiterator", _, st.typeIs, PySem.F.slot_dict_keyiterator_next.lookup, h⟩)
theorem turnV (it : Addr) (hod : o.data = .dict dt ep) : Turn P w K tg (ItV w d o en) [it] it (fun i h => h.IsValIter it d i en.length ep) where
  mem := by simp
  obj := fun i h st b hb => by
    obtain rfl : b = it := by simpa using hb
    obtain ⟨oi, e, c, dd⟩ := st
    exact ⟨oi, e, fun v z => by rw [dd] at z; cases z⟩
  keep := fun i h h' st k => st.at fun oi e => k it (by simp) oi e
  item := by
    intro X hP hw hK hc i pins s σ H E I hf st ⟨hd, hi⟩
    subst hP hw hK
    obtain ⟨f0, f1, f2, f3, f4, f5⟩ := hf it (by simp)
    obtain ⟨hs, hgd, hx, dt', ep', ys, hdt, hsz, he, pr⟩ := frz_dO I hd
    obtain ⟨rfl, rfl⟩ := dict_ep hod hdt
    obtain ⟨z, hz, r1, r2⟩ := ent_at pr he (List.getElem?_eq_getElem hi)
    obtain ⟨hlt, hz'⟩ := Array.getElem?_eq_some_iff.mp hz
    rw [← hsz] at st
    refine wpAny_pyNext_values_item_raw st ⟨o, hgd, hx, hdt⟩ hlt fun h' st' sb => ?_
    have I1 : Inv X pins σ H { s with heap := h' } := I.turned (t' := s.toks) (fun b ob hb e => (sb.2 b hb).trans e) f0 f1 f3 f4 f5
    obtain ⟨oi, e, c, dd⟩ := id st'
    rw [hz']
    exact ⟨z.val, rfl, go_of (s := { s with heap := h' }) e c dd (by decide) ⟨_, H, I1, r2, ⟨rfl, _, List.getElem?_eq_getElem hi, rfl⟩, by rw [← hsz]; exact st', fun b hb => (hf b hb).1⟩⟩
  done := by
    intro X hP hw hK hc i pins s σ H E I hf st ⟨hd, hi⟩
    subst hP hw hK
    obtain ⟨f0, f1, f2, f3, f4, f5⟩ := hf it (by simp)
    obtain ⟨hs, hgd, hx, dt', ep', ys, hdt, hsz, he, pr⟩ := frz_dO I hd
    obtain ⟨rfl, rfl⟩ := dict_ep hod hdt
    rw [← hsz] at st
    exact wpAny_pyNext_values_end_raw (I.ok.hd hc) st ⟨o, hgd, hx, hdt⟩ (by omega) fun h' eb => ⟨rfl, I.turned (t' := s.toks) (fun b ob hb e => eb b ob hb e) f0 f1 f3 f4 f5⟩
  self := fun A i s Q E st h => wpAny_pyIter_valiter st h
theorem turnP {elts : List Expr} {kk : Nat} {tpos : Pos} (it : Addr) (hod : o.data = .dict dt ep) : Turn P w K (.Tuple elts kk tpos) (ItP w d o en) [it] it (fun i h => ∃ ok ov, IsItemIter h it d i en.length ep ok ov) where
  mem := by simp
  obj := fun i h st b hb => by
    obtain rfl : b = it := by simpa using hb
    obtain ⟨ok, ov, e⟩ := st
    exact ⟨_, e, fun v z => nomatch z⟩
  keep := fun i h h' st k => let ⟨ok, ov, e⟩ := st; ⟨ok, ov, k it (by simp) _ e⟩
  item := by
    intro X hP hw hK hc i pins s σ H E I hf st ⟨hd, hi⟩
    subst hP hw hK
    obtain ⟨hs, hgd, hx, dt', ep', ys, hdt, hsz, he, pr⟩ := frz_dO I hd
    obtain ⟨rfl, rfl⟩ := dict_ep hod hdt
    obtain ⟨z, hz, r1, r2⟩ := ent_at pr he (List.getElem?_eq_getElem hi)
    obtain ⟨hlt, hz'⟩ := Array.getElem?_eq_some_iff.mp hz
    obtain ⟨ok, ov, hit⟩ := st
    rw [← hsz] at hit
    have hil : it < s.heap.objs.size := Heap.lt_size hit
    refine wpAny_pyNext_items_item_raw hit ⟨o, hgd, hx, hdt⟩ hlt fun h' ho hT hz2 hk => ?_
    rw [hz'] at ho hT
    refine ⟨_, rfl, wpAny_letOwnedTupleGo_items (s := { s with heap := h' }) ho fun h'' he' sb => ?_⟩
    have hT2 : h''.get? s.heap.objs.size = some { cls := .type "tuple", data := .seq #[z.key, z.val] } := (sb.2 _ (Nat.ne_of_gt hil)).trans hT
    have new : ObjOk X.prog X.w (upd H s.heap.objs.size (.tup [en[i].2.1, en[i].2.2])) h'' s.heap.objs.size (.tup [en[i].2.1, en[i].2.2]) :=
      ⟨by show 2 ≤ sizeLine; decide, [z.key, z.val], .cons r1 (.cons r2 .nil), ⟨_, hT2, rfl, _, rfl⟩⟩
    have I1 := I.turnedNew (t' := s.toks) (ch := [it]) (fun b ob hb e => (sb.2 b (by simpa using hb)).trans (hk b ob (by simpa using hb) e)) hf (Nat.le_refl _) new
    refine ⟨.ref s.heap.objs.size, _, I1, rfl, ⟨_, _, List.getElem?_eq_getElem hi, rfl, I.hok.fresh (Nat.le_refl _), rfl⟩, ⟨z.key, z.val, by rw [← hsz]; exact he'⟩, fun b hb => ?_⟩
    obtain rfl : b = it := by simpa using hb
    rw [upd_ne (Nat.ne_of_lt hil)]
    exact (hf b (by simp)).1
  done := by
    intro X hP hw hK hc i pins s σ H E I hf st ⟨hd, hi⟩
    subst hP hw hK
    obtain ⟨f0, f1, f2, f3, f4, f5⟩ := hf it (by simp)
    obtain ⟨hs, hgd, hx, dt', ep', ys, hdt, hsz, he, pr⟩ := frz_dO I hd
    obtain ⟨rfl, rfl⟩ := dict_ep hod hdt
    obtain ⟨ok, ov, hit⟩ := st
    rw [← hsz] at hit
    exact wpAny_pyNext_items_end_raw (I.ok.hd hc) hit ⟨o, hgd, hx, hdt⟩ (by omega) fun h' eb => ⟨rfl, I.turned (t' := s.toks) (fun b ob hb e => eb b ob hb e) f0 f1 f3 f4 f5⟩
  self := fun A i s Q E st h => let ⟨_, _, e⟩ := st; wpAny_pyIter_itemiter e h
end
/-! ### for k in d, d.values(), d.items() -/
def iKO (w : World) (td : TE) : TI := fun σ H R => td σ H fun x H1 => ∃ d o en, x = .ref d ∧ H1 d = some (.frz o (dO w d en)) ∧ R (ItK w d o en) H1
def iVO (w : World) (td : TE) : TI := fun σ H R => td σ H fun x H1 => ∃ d o en, x = .ref d ∧ H1 d = some (.frz o (dO w d en)) ∧ R (ItV w d o en) H1
def iPO (w : World) (td : TE) : TI := fun σ H R => td σ H fun x H1 => ∃ d o en, x = .ref d ∧ H1 d = some (.frz o (dO w d en)) ∧ R (ItP w d o en) H1
theorem pi_keysO {td : TE} (he : PE X e td) : PI X tg e (iKO X.w td) := by
  refine ⟨fun pins s σ H R I h => thn (he.run pins s σ H _ I h) fun u s1 ⟨x, H1, I1, rx, d, o, en, ex, hd, q⟩ => ?_⟩
  subst ex
  obtain rfl : u = Value.ref d := rx
  obtain ⟨hs, hgd, hx, dt, ep, ys, hdt, hsz, _, _⟩ := frz_dO I1 hd
  exact iter_keys hs hgd hx hdt (pi_one (tk := s1.toks) I1 _ (turnK _ hdt) ⟨_, Heap.get?_push_size _ rfl, rfl, by rw [hsz] <;> rfl⟩ q)
theorem pi_valuesO {td : TE} (he : PE X e td) (hbase : attributeBase e "values" X.env (eval e X.env) = eval e X.env := by rfl) (hline : (apos.endLine == cpos.line) = true := by rfl) : PI X tg (.Call (.Attribute e "values" apos) [] [] cpos) (iVO X.w td) := by
  refine ⟨fun pins s σ H R I h => wpAny_Call_method (T := "dict") (id := "dict.values") hbase rfl hline PySem.F.plainAttrs_dict PySem.F.slot_dict_values PySem.F.type_dict_values (thn (he.run pins s σ H _ I h) fun u s1 ⟨x, H1, I1, rx, d, o, en, ex, hd, q⟩ => ?_)⟩
  subst ex
  obtain rfl : u = Value.ref d := rx
  obtain ⟨hs, hgd, hx, dt, ep, ys, hdt, hsz, _, _⟩ := frz_dO I1 hd
  have raw : s1.heap.DictRaw d dt ep := ⟨o, hgd, hx, hdt⟩
  refine ⟨raw.typeIs, fun b q => by cases q; exact ⟨o, hgd, hx.2.1⟩, ?_⟩
  have I2 : Inv X pins σ H1 { s1 with heap := s1.heap.push { cls := .type "dict_values", data := .fields #[.ref d] } } := I1.kept (t' := s1.toks) fun b ob q => Heap.get?_push_of_some _ q
  have fin : wpAny (model X.prog X.w) X.A (pyIter (.ref s1.heap.objs.size)) (PIE X pins σ tg R) X.xe { s1 with heap := s1.heap.push { cls := .type "dict_values", data := .fields #[.ref d] } } :=
    wpAny_pyIter_values_raw (d := d) ⟨_, Heap.get?_push_size _ rfl, rfl, rfl⟩ (raw.at fun ob q => Heap.get?_push_of_some _ q) (pi_one (tk := s1.toks) I2 _ (turnV _ hdt) ⟨_, Heap.get?_push_size _ rfl, rfl, by rw [hsz] <;> rfl⟩ q)
  exact method_meetsIn PySem.F.slot_dict_values PySem.F.entry_dict_values rfl (PySem.evalArgs_none ⟨rfl, raw.typeIs, PySem.F.args_dict_values_1 _, _, meets_dict_values_raw d hs, ⟨dt, ep, raw⟩, fin⟩)
theorem pi_itemsO {td : TE} {elts : List Expr} {kk : Nat} {tpos : Pos} (he : PE X e td) (hbase : attributeBase e "items" X.env (eval e X.env) = eval e X.env := by rfl) (hline : (apos.endLine == cpos.line) = true := by rfl) :
    PI X (.Tuple elts kk tpos) (.Call (.Attribute e "items" apos) [] [] cpos) (iPO X.w td) := by
  refine ⟨fun pins s σ H R I h => wpAny_Call_method (T := "dict") (id := "dict.items") hbase rfl hline PySem.F.plainAttrs_dict PySem.F.slot_dict_items PySem.F.type_dict_items (thn (he.run pins s σ H _ I h) fun u s1 ⟨x, H1, I1, rx, d, o, en, ex, hd, q⟩ => ?_)⟩
  subst ex
  obtain rfl : u = Value.ref d := rx
  obtain ⟨hs, hgd, hx, dt, ep, ys, hdt, hsz, _, _⟩ := frz_dO I1 hd
  have raw : s1.heap.DictRaw d dt ep := ⟨o, hgd, hx, hdt⟩
  refine ⟨raw.typeIs, fun b q => by cases q; exact ⟨o, hgd, hx.2.1⟩, ?_⟩
  have I2 : Inv X pins σ H1 { s1 with heap := s1.heap.push { cls := .type "dict_items", data := .fields #[.ref d] } } := I1.kept (t' := s1.toks) fun b ob q => Heap.get?_push_of_some _ q
  have fin : wpAny (model X.prog X.w) X.A (pyIter (.ref s1.heap.objs.size)) (PIE X pins σ (.Tuple elts kk tpos) R) X.xe { s1 with heap := s1.heap.push { cls := .type "dict_items", data := .fields #[.ref d] } } := by
    refine wpAny_pyIter_items_raw (d := d) ⟨_, Heap.get?_push_size _ rfl, rfl, rfl⟩ (raw.at fun ob q => Heap.get?_push_of_some _ q) (pi_one (tk := s1.toks) I2 _ (turnP _ hdt) ⟨.none, .none, ?_⟩ q)
    rw [hsz]
    exact Heap.get?_push_size _ rfl
  exact method_meetsIn PySem.F.slot_dict_items PySem.F.entry_dict_items rfl (PySem.evalArgs_none ⟨rfl, raw.typeIs, PySem.F.args_dict_items_1 _, _, meets_dict_items_raw d hs, ⟨dt, ep, raw⟩, fin⟩)
/-! by value: a frozen dict, or one in a locked cell -/
def dkU (u : U) (st : Sto) : Option (List (D × D)) := match u with
  | .d (.dic kvs) => some kvs
  | .c k => match st[k]? with
    | some (some (.dlk kvs)) => some kvs
    | _ => none
  | _ => none
theorem Good.dk {w : W} {st : Sto} {H : Hp} (hg : Good G g w st H) {v : V} {u : U} {kvs : List (D × D)} (x : UAt G w v u) (h : dkU u st = some kvs) : ∃ d o en, v = .ref d ∧ DKs G w.S en kvs ∧ (w.S d = some (.frz o (dO G.w d en)) ∨ w.L d = some (.frz o (dO G.w d en))) := by
  unfold dkU at h
  split at h
  · cases h
    obtain ⟨a, o, en, h1, h2, h3⟩ := x
    exact ⟨a, o, en, h1, h3, .inl h2⟩
  · rename_i k
    split at h
    · rename_i kv' hst
      cases h
      obtain ⟨r, hr, rfl⟩ := x
      obtain ⟨_, o, en, h1, h2, h3⟩ := hg.cell k r _ hr hst
      exact ⟨r, o, en, rfl, h3, .inr h1⟩
    · cases h
  · cases h
theorem Good.frzAt {w w2 : W} {st2 : Sto} {H2 : Hp} {d : Addr} {o : HO} (l : Le w w2) (hg : Good G g w2 st2 H2) (h : w.S d = some o ∨ w.L d = some o) : H2 d = some o := by
  rcases h with h | h
  · exact hg.sub _ _ (l.s _ _ h)
  · exact hg.subL _ _ (by rw [l.l]; exact h)
theorem DKs.get {S : Hp} : ∀ {kvs : List (D × D)} {en : List Ent} {i : Nat} {k d : D}, DKs G S en kvs → kvs[i]? = some (k, d) → ∃ y, en[i]? = some y ∧ DAt G S y.2.1 k ∧ DAt G S y.2.2 d
  | [], en, i, k, d, h, e => by simp at e
  | (k', d') :: r, en, 0, k, d, h, e => by
    unfold DKs at h
    obtain ⟨n, kv, v, t, rfl, h1, h2, h3, h4⟩ := h
    simp at e
    obtain ⟨rfl, rfl⟩ := e
    exact ⟨_, rfl, h2, h3⟩
  | (k', d') :: r, en, i + 1, k, d, h, e => by
    unfold DKs at h
    obtain ⟨n, kv, v, t, rfl, h1, h2, h3, h4⟩ := h
    obtain ⟨y, e1, e2⟩ := DKs.get (i := i) h4 (by simpa using e)
    exact ⟨y, by simpa using e1, e2⟩
def iDk (f : D × D → D) (m : ME) : MI := fun env st => (m env st).bind fun u st1 => match dkU u st1 with
  | some kvs => .ok (kvs.map f) st1
  | none => .bad
theorem iDk_core {f : D × D → D} {m : ME} {It' : World → Addr → Obj → List Ent → It} (hstop : ∀ w d o en i H, (It' w d o en).stop i H = (H d = some (.frz o (dO w d en)) ∧ en.length ≤ i)) (hgo : ∀ w d o en i H, (It' w d o en).go i H = (H d = some (.frz o (dO w d en)) ∧ i < en.length))
    (hw : X.w = G.w) (hy : ∀ d o en kvs (w1 w2 : W) st2 H2 i k v x H3, DKs G w1.S en kvs → Le w1 w2 → Good G g w2 st2 H2 → kvs[i]? = some (k, v) → (It' G.w d o en).yld i H2 x H3 → ∃ w3, Le w2 w3 ∧ Good G g w3 st2 H3 ∧ DAt G w3.S x (f (k, v)))
    {σ : L2.St} {H : Hp} {R' : It → Hp → Prop} {w : W} {env : EnvU} {st : Sto} (hg : Good G g w st H) (he : EnvAt G w σ env) (q : Ok G g Wx (relI G g) w σ (iDk f m env st) R') :
    rdE G g Wx m σ H fun x H1 => ∃ d o en, x = .ref d ∧ H1 d = some (.frz o (dO X.w d en)) ∧ R' (It' X.w d o en) H1 := by
  refine ⟨w, env, st, hg, he, Ok.bind q fun u st1 w1 v H1 l1 g1 x1 q1 => ?_⟩
  cases e1 : dkU u st1 with
  | none => simp only [e1] at q1; exact (show False from q1).elim
  | some kvs =>
    simp only [e1] at q1
    obtain ⟨d, o, en, rfl, hk, hS⟩ := g1.dk x1 e1
    rw [hw]
    refine ⟨d, o, en, rfl, Good.frzAt (Le.refl _) g1 hS, q1 w1 _ H1 (Le.refl _) g1 fun w2 st2 H2 l2 g2 => ?_⟩
    have hH := Good.frzAt l2 g2 hS
    refine ⟨fun i hi => by rw [hstop]; exact ⟨hH, by rw [hk.length]; simpa using hi⟩, fun i x hx => ?_⟩
    rw [List.getElem?_map] at hx
    obtain ⟨⟨k, v⟩, hkv, rfl⟩ := Option.map_eq_some_iff.mp hx
    refine ⟨by rw [hgo]; exact ⟨hH, by rw [hk.length]; exact (List.getElem?_eq_some_iff.mp hkv).1⟩, fun x H3 y => ?_⟩
    exact hy d o en kvs w1 w2 st2 H2 i k v x H3 hk l2 g2 hkv y
def iKs : ME → MI := iDk Prod.fst
def iVs : ME → MI := iDk Prod.snd
def iPs : ME → MI := iDk fun p => .tup [p.1, p.2]
theorem si_Ks {m : ME} (hw : X.w = G.w) (h : PE X iter (rdE G g Wx m)) : SI X G g Wx tg iter (iKs m) :=
  ⟨_, pi_keysO h, fun σ H R' w env st hg he q => iDk_core (f := Prod.fst) (It' := ItK) (fun _ _ _ _ _ _ => rfl) (fun _ _ _ _ _ _ => rfl) hw (fun d o en kvs w1 w2 st2 H2 i k v x H3 hk l2 g2 e y => by
    obtain ⟨rfl, y', e1, rfl⟩ := y
    obtain ⟨y2, e2, e3, e4⟩ := hk.get e
    rw [e1] at e2; cases e2
    exact ⟨w2, Le.refl _, g2, DAt.mono l2.s _ e3⟩) hg he q⟩
theorem si_Vs {m : ME} (hw : X.w = G.w) (h : PE X e (rdE G g Wx m)) (hbase : attributeBase e "values" X.env (eval e X.env) = eval e X.env := by rfl) (hline : (apos.endLine == cpos.line) = true := by rfl) : SI X G g Wx tg (.Call (.Attribute e "values" apos) [] [] cpos) (iVs m) :=
  ⟨_, pi_valuesO h hbase hline, fun σ H R' w env st hg he q => iDk_core (f := Prod.snd) (It' := ItV) (fun _ _ _ _ _ _ => rfl) (fun _ _ _ _ _ _ => rfl) hw (fun d o en kvs w1 w2 st2 H2 i k v x H3 hk l2 g2 e y => by
    obtain ⟨rfl, y', e1, rfl⟩ := y
    obtain ⟨y2, e2, e3, e4⟩ := hk.get e
    rw [e1] at e2; cases e2
    exact ⟨w2, Le.refl _, g2, DAt.mono l2.s _ e4⟩) hg he q⟩
theorem si_Ps {m : ME} {elts : List Expr} {kk : Nat} {tpos : Pos} (hw : X.w = G.w) (h : PE X e (rdE G g Wx m)) (hbase : attributeBase e "items" X.env (eval e X.env) = eval e X.env := by rfl) (hline : (apos.endLine == cpos.line) = true := by rfl) :
    SI X G g Wx (.Tuple elts kk tpos) (.Call (.Attribute e "items" apos) [] [] cpos) (iPs m) :=
  ⟨_, pi_itemsO h hbase hline, fun σ H R' w env st hg he q => iDk_core (f := fun p => .tup [p.1, p.2]) (It' := ItP) (fun _ _ _ _ _ _ => rfl) (fun _ _ _ _ _ _ => rfl) hw (fun d o en kvs w1 w2 st2 H2 i k v x H3 hk l2 g2 e y => by
    obtain ⟨T, y', e1, rfl, hT, rfl⟩ := y
    obtain ⟨y2, e2, e3, e4⟩ := hk.get e
    rw [e1] at e2; cases e2
    have ex : Ex w2.S (upd w2.S T (.tup [y'.2.1, y'.2.2])) := Ex.new (g2.sub.free hT)
    refine ⟨⟨upd w2.S T (.tup [y'.2.1, y'.2.2]), w2.ps, w2.L, w2.xo⟩, ⟨ex, rfl, rfl, [], by simp⟩, g2.grow ex (Ex.new hT) (fun b u hb => ?_) (fun b u hb => ?_), T, _, rfl, upd_same, .cons (DAt.mono (l2.s.trans ex) _ e3) (.cons (DAt.mono (l2.s.trans ex) _ e4) .nil)⟩
    · by_cases hbp : b = T
      · subst hbp; rw [upd_same] at hb ⊢; exact hb
      · rw [upd_ne hbp] at hb ⊢; exact g2.sub _ _ hb
    · by_cases hbp : b = T
      · subst hbp; exact .inr hT
      · rw [upd_ne hbp] at hb; exact .inl hb) hg he q⟩
end
end LV

/-! LVs -/
set_option Elab.async false
set_option linter.all false
set_option maxRecDepth 100000
set_option maxHeartbeats 2000000
/-! LVs: dict comprehensions with any keys. -/
namespace LV
open PySem PySem.Spec PyProof.Rows SeqAt L2
section
variable {X : Cx} {G : GE} {g : GI} {Wx : WX} {pos : Pos}
/-- D[y] = z by a comprehension -/
def dStep (G : GE) (D : Addr) (y z : V) (H : Hp) (Nx : Hp → Prop) : Prop :=
  ∃ S en kvs kd n, Ex S H ∧ H D = some (dO G.w D en) ∧ DKs G S en kvs ∧ VAt G S H y kd ∧ nq kd = some n ∧ en.length < sizeLine ∧ Nx (upd H D (dO G.w D (putE n y z en)))
theorem d_stepO {pins : List (Addr × Obj)} {σ : L2.St} {H : Hp} {s : Shared} {E : Value → Shared → Prop} {D : Addr} {y z : V} {u r : Value} {Nx : Hp → Prop} {Q : Unit → Shared → Prop} (hK : X.K = G.K) (hw : X.w = G.w) (hu : X.A.units + 64 < cLine) (I : Inv X pins σ H s) (ry : RelV y u) (rz : RelV z r)
    (h : dStep G D y z H Nx) (k : ∀ s' H', Inv X pins σ H' s' → Nx H' → Q () s') : wpAny (model X.prog X.w) X.A (dictSet D u r) Q E s := by
  obtain ⟨S, en, kvs, kd, n, e, hH, hk, hy, hn, hl, nx⟩ := h
  obtain ⟨ys, pr, dc, ok, zz, zl, hs⟩ := dc_of I hK hw e (.inl hH) hk
  obtain ⟨k1, k2⟩ := nested_k I hK e hy hn ry
  exact o_put (by omega) k1 k2 dc ok (by omega) fun h' dc' sb => k _ _ (d_store (S := S) hw I hH hl (dO_nodup I (.inl hH)) hs pr ry rz dc' sb) nx
/-- {k: v for target in iter if ..} -/
def tDcO (G : GE) (wi : TI) (tg : TG) (tt : TT) (tk tv : TE) (vs : List Nat) : TE := fun σ H Q => wi σ H fun J H1 => ∀ D, H1 D = none → ∃ W : Nat → Nat → Hp → Prop, (∃ m, W 0 m (upd H1 D (dO G.w D []))) ∧ ∀ i m H, W i m H →
  (J.stop i H ∧ Q (.ref D) H) ∨ (J.go i H ∧ ∃ Nx : Hp → Prop, (∀ H', Nx H' → ∃ m', m' < m ∧ W (i + 1) m' H') ∧ ∀ x H', J.yld i H x H' → tg x (wipe σ vs) H' fun σ2 H2 => wipe σ2 vs = wipe σ vs ∧ tt σ2 H2 fun b H3 =>
    if b = true then tk σ2 H3 fun y H4 => tv σ2 H4 fun z H5 => dStep G D y z H5 Nx else Nx H3)
theorem pe_dcO {kx vx tgt iter : Expr} {ifs : List Expr} {scope : Scope} {own : List (Str × Nat)} {wi : TI} {gt : TG} {tt : TT} {tk tv : TE} (hK : X.K = G.K) (hw : X.w = G.w) (hu : X.A.units + 64 < cLine) (hc : X.calm = true) (hN : X.N.Nodup) (hi : PI X tgt iter wi) (ok : BlkOk X.N X.env.scope scope own)
    (hg : ∀ (s : Shared) (H : Hp) (C : Addr) (cl : List (Str × Addr)) (fp : List Addr), PG (X.blk s H scope (compEnvC scope cl C X.env) fp) tgt gt)
    (ht : ∀ (s : Shared) (H : Hp) (C : Addr) (cl : List (Str × Addr)) (fp : List Addr), PTs (X.blk s H scope (compEnvC scope cl C X.env) fp) ifs tt)
    (hk : ∀ (s : Shared) (H : Hp) (C : Addr) (cl : List (Str × Addr)) (fp : List Addr), PE (X.blk s H scope (compEnvC scope cl C X.env) fp) kx tk)
    (hv : ∀ (s : Shared) (H : Hp) (C : Addr) (cl : List (Str × Addr)) (fp : List Addr), PE (X.blk s H scope (compEnvC scope cl C X.env) fp) vx tv) (hs : ∀ x, foldedSetIterable iter X.env x = pure x := by intro _; rfl) :
    PE X (.DictComp kx vx [⟨tgt, iter, ifs, 0⟩] scope pos) (tDcO G wi gt tt tk tv (own.map (·.2))) := by
  refine ⟨fun pins s σ H Q I h => ?_⟩
  rw [arm_eval_DictComp]
  have cells : ∀ y ∈ scope.names, y.2 = .free → ∃ c, X.env.cells.lookup y.1 = some c := fun y hy z => (ok.free y hy z).elim (fun k => I.ok.has _ (.inl k)) fun k => I.ok.has _ (.inr k)
  refine wpAny_comprehension_free (use := none) rfl hs (closure_ok cells) ok.kind (fun y hy z => by rw [ok.uniq y hy, z]) (thn (hi.run pins s σ H _ I h) fun xv t1 hx => thn hx fun itv t2 h2 => ?_)
  obtain ⟨it, fp, tn, J, K2, rfl, J2, T, tn2, fp2, q⟩ := h2
  refine wpAny_newObj_type (newEnv_comp ?_)
  -- the new dict D
  generalize eD : t2.heap.objs.size = D
  have freeD : K2 D = none := J2.hok.fresh (Nat.le_of_eq eD)
  obtain ⟨W, ⟨m0, w0⟩, step⟩ := q D freeD
  generalize e3 : ({ t2 with heap := t2.heap.push { cls := .type "dict", data := .dict #[] } } : Shared) = t3
  have J3 : Inv X pins σ (upd K2 D (dO G.w D [])) t3 := by
    rw [← e3, ← eD]
    exact J2.laid (t' := t2.toks) (fun b ob z => Heap.get?_push_of_some _ z) (Nat.le_refl _) (hw ▸ dO_empty t2.heap J2.big)
  have heap3 : t3.heap = t2.heap.push { cls := .type "dict", data := .dict #[] } := by rw [← e3]
  have below : ∀ b ∈ fp, b < t2.heap.objs.size := fun b hb => let ⟨ob, z, _⟩ := T.obj _ _ tn2 b hb; Heap.lt_size z
  have fp3 : ∀ b ∈ fp, FpOk X pins (upd K2 D (dO G.w D [])) b ∧ b < t3.heap.objs.size := fun b hb =>
    ⟨⟨by rw [upd_ne (by rw [← eD]; exact Nat.ne_of_lt (below b hb))]; exact (fp2 b hb).1, (fp2 b hb).2⟩, by rw [heap3, Heap.size_push]; exact Nat.lt_succ_of_lt (below b hb)⟩
  have tn3 : tn 0 t3.heap := T.keep _ _ _ tn2 fun b _ ob z => by rw [heap3]; exact Heap.get?_push_of_some _ z
  have J4 := block_start J3 ok hN fp3
  let cl3 := cellsFrom (t3.heap.objs.size + 1) scope.names (cloFrom X.env.cells scope.names [])
  have jg := hg t3 (upd K2 D (dO G.w D [])) t3.heap.objs.size cl3 fp
  have jt := ht t3 (upd K2 D (dO G.w D [])) t3.heap.objs.size cl3 fp
  have jk := hk t3 (upd K2 D (dO G.w D [])) t3.heap.objs.size cl3 fp
  have jv := hv t3 (upd K2 D (dO G.w D [])) t3.heap.objs.size cl3 fp
  show codeAny _ _ (.compStart (.DictComp kx vx [⟨tgt, iter, ifs, 0⟩] scope pos) 0 (.ref it) (.ref D) (compEnvC scope cl3 t3.heap.objs.size X.env)) (compPost (model X.prog X.w) X.A X.xe none _ (.ref D) t3.heap.objs.size) { t3 with heap := pushCells (t3.heap.push { cls := .type "dict", data := .dict #[] }) scope.names }
  have noneFp : ∀ b ∈ fp, (upd K2 D (dO G.w D [])) b = none := fun b hb => (fp3 b hb).1.1
  generalize eC : compEnvC scope cl3 t3.heap.objs.size X.env = ce at J4 jg jt jk jv ⊢
  have loc : ce.locals = t3.heap.objs.size := by subst eC; rfl
  generalize eH : upd K2 D (dO G.w D []) = K3 at J3 J4 jg jt jk jv w0 noneFp fp3
  generalize e4 : ({ t3 with heap := pushCells (t3.heap.push { cls := .type "dict", data := .dict #[] }) scope.names } : Shared) = t4 at J4 ⊢
  have tn4 : tn 0 t4.heap := T.keep _ _ _ tn3 fun b _ ob z => by rw [← e4]; exact pushCells_keeps _ _ _ _ (Heap.get?_push_of_some _ z)
  let B := X.blk t3 K3 scope ce fp
  have okFp : ∀ {σ' : L2.St} {H' : Hp} {s' : Shared}, Inv B [] σ' H' s' → (∀ b ∈ fp, H' b = none) → ∀ b ∈ fp, FpOk B [] H' b := fun {σ' H' s'} I' hn b hb =>
    ⟨hn b hb, (I'.ok.exf b hb).1, I'.ok.exfs b hb, .inl hb, fun x c z => (I'.ok.exf b hb).2 x c z, fun r hr => absurd (show r ∈ ([] : List (Addr × Obj)) ++ [] from hr) (by simp)⟩
  have again : codeAny (model X.prog X.w) X.A (.compLoop (.DictComp kx vx [⟨tgt, iter, ifs, 0⟩] scope pos) 0 (.ref it) (.ref D) ce) (compPost (model X.prog X.w) X.A X.xe none (EP X pins σ Q) (.ref D) t3.heap.objs.size) t4 := by
    refine compLoop_anyD (fun n t => ∃ i K, Inv B [] (wipe σ (own.map (·.2))) K t ∧ tn i t.heap ∧ (∀ b ∈ fp, K b = none) ∧ W i n K) ?_ m0 ⟨0, K3, J4, tn4, noneFp, w0⟩
    rintro n t5 ⟨i, K5, J5, tn5, no5, w5⟩
    rcases step i n K5 w5 with ⟨stop, fin⟩ | ⟨go, Nx, less, turn⟩
    · refine thnF (T.done B rfl rfl rfl hc i [] t5 _ K5 (fun _ _ => False) J5 (okFp J5 no5) tn5 stop) fun r t6 ⟨hr, J6⟩ => ?_
      subst hr
      have J7 : Inv X pins σ K5 t6 := J3.call' (ch := fp) J6.os J6.base J6.hok J6.bare fun b hb => let z := (fp3 b hb).1.2; ⟨z.2.2.1, z.1, z.2.2.2.1, z.2.2.2.2⟩
      have noC : K5 t3.heap.objs.size = none := by
        have z : K5 ce.locals = none := J6.free
        rwa [loc] at z
      obtain ⟨m, ns, _⟩ := J6.loc
      have ns : t6.heap.Ns ce.locals m := ns
      rw [loc] at ns
      obtain ⟨f0, f1, f2, f3, f4, f5⟩ := J3.fpOk (Nat.le_refl _) noC
      exact ⟨m, ns, fun h'' sb => ⟨.ref D, K5, J7.turned (t' := t6.toks) (fun b ob hb z => (sb.2 b hb).trans z) f0 f1 f3 f4 f5, rfl, fin⟩⟩
    · refine thnF (T.item B rfl rfl rfl hc i [] t5 _ K5 (fun _ _ => False) J5 (okFp J5 no5) tn5 go) fun r t6 ⟨u, hr, h6⟩ => ?_
      subst hr
      refine thnF h6 fun _ t7 ⟨x, K7, J7, r7, y7, tn7, no7⟩ => ?_
      have J7' := J7.pinned (okFp J7 no7) (T.obj _ _ tn7)
      refine thnF (jg.run _ t7 _ K7 x u _ J7' r7 (turn x K7 y7)) fun _ t8 ⟨σ8, K8, J8, wi8, q8⟩ => ?_
      refine thnF (jt.run _ t8 σ8 K8 _ J8 q8) fun b t9 ⟨K9, J9, q9⟩ => ?_
      have close : ∀ (t : Shared) (K' : Hp), Inv B ([] ++ pinsAt fp t7.heap) σ8 K' t → Nx K' → ∃ m, m < n ∧ ∃ i K, Inv B [] (wipe σ (own.map (·.2))) K t ∧ tn i t.heap ∧ (∀ b ∈ fp, K b = none) ∧ W i m K := fun t K' I' nx => by
        obtain ⟨m', lt, w'⟩ := less K' nx
        have stay : ∀ b ∈ fp, ∀ ob, t7.heap.get? b = some ob → t.heap.get? b = some ob ∧ K' b = none := fun b hb ob z =>
          let y := I'.pin (b, ob) (List.mem_append_right _ (List.mem_append_right _ (mem_pinsAt hb z)))
          ⟨y.1, y.2.1⟩
        have ln : (wipe σ (own.map (·.2))).length = σ8.length := by rw [← wi8, wipe_length]
        refine ⟨m', lt, i + 1, K', (I'.unpinned (pins := [])).weak ln (fun j v z => by rw [← wi8] at z; exact (wipe_some z).1), T.keep _ _ _ tn7 fun b hb ob z => (stay b hb ob z).1, fun b hb => ?_, w'⟩
        obtain ⟨ob, z, _⟩ := T.obj _ _ tn7 b hb
        exact (stay b hb ob z).2
      cases b with
      | false =>
        simp only [Bool.false_eq_true, if_false] at q9 ⊢
        exact close _ _ J9 q9
      | true =>
        simp only [if_true] at q9 ⊢
        refine thnF (jk.run _ t9 σ8 K9 _ J9 q9) fun ku t10 ⟨y, K10, J10, r10, q10⟩ => ?_
        refine thnF (jv.run _ t10 σ8 K10 _ J10 q10) fun vu t11 ⟨z, K11, J11, r11, q11⟩ => ?_
        exact d_stepO (X := B) hK hw hu J11 r10 r11 q11 fun t12 K12 J12 nx => close _ _ J12 nx
  exact codeAny_compStart_dict again (T.self X.A 0 _ _ _ tn4 again)
/-- one turn on the dict in the cell k -/
def dcGo (k : Nat) (vs : List Nat) (env : EnvU) (t : MG) (cond : MT) (ek ev : ME) : List D → Sto → R Unit
  | [], st => .ok () st
  | x :: xs, st => match t (.d x) (wipeE env vs) st with
    | .nx e1 s1 => (match cond e1 s1 with
      | .ok true s2 => (match ek e1 s2 with
        | .ok (.d y) s3 => (match ev e1 s3 with
          | .ok (.d z) s4 => (match s4[k]?, nq y with
            | some (some (.dic kvs)), some n => if kvs.length < sizeL then dcGo k vs env t cond ek ev xs ((s4.take (k + 1)).set k (some (.dic (putKD y n z kvs)))) else .bad
            | _, _ => .bad)
          | _ => .bad)
        | _ => .bad)
      | .ok false s2 => dcGo k vs env t cond ek ev xs (s2.take (k + 1))
      | _ => .bad)
    | _ => .bad
/-- {ek: ev for t in it if cond} -/
def nDc (it : MI) (vs : List Nat) (t : MG) (cond : MT) (ek ev : ME) : MN := fun env st => (it env st).bind fun ds st1 =>
  match dcGo st1.length vs env t cond ek ev ds (st1 ++ [some (.dic [])]) with
  | .ok _ s2 => (match s2[st1.length]? with
    | some (some d) => .ok d (s2.take st1.length)
    | _ => .bad)
  | _ => .bad
/-- the reading of a dict comprehension, by value -/
theorem dc_read {it : MI} {t : MG} {cond : MT} {ek ev : ME} {wi : TI} {tt : TG} {vs : List Nat} {σ : L2.St} {H : Hp} {Q : VK}
    (kt : ∀ w v u σ env st H D, Good G g w st H → EnvAt G w σ env → UAt G w v u → OkS G g WF w (t u env st) D → tt v σ H D.nx) (keep : ∀ v (σ : L2.St) H Q, tt v σ H Q → tt v σ H fun σ2 H2 => wipe σ2 vs = wipe σ vs ∧ Q σ2 H2) (hww : ∀ σ : L2.St, wipe (wipe σ vs) vs = wipe σ vs)
    (ki : ∀ σ H (R' : It → Hp → Prop) w env st, Good G g w st H → EnvAt G w σ env → Ok G g Wx (relI G g) w σ (it env st) R' → wi σ H R')
    (h : rdN G g Wx (nDc it vs t cond ek ev) σ H Q) : tDcO G wi tt (rdT G g WF cond) (rdE G g WF ek) (rdE G g WF ev) vs σ H Q := by
  obtain ⟨w, env, st, hg, he, q⟩ := h
  refine ki σ H _ w env st hg he ?_
  refine Ok.bind q fun ds st1 w1 J H1 l1 g1 hJ q1 => ?_
  intro D hD
  have e1 := he.mono l1
  obtain ⟨n1, n2, n3⟩ := g1.newH0 hD
  have hk0 : g.w0.ps.length ≤ st1.length := by
    obtain ⟨r, e⟩ := g1.le.p
    rw [← g1.len, e]; simp
  -- the new dict is the last cell
  have g2 : Good G g ⟨w1.S, w1.ps ++ [D], w1.L, w1.xo⟩ (st1 ++ [some (.dic [])]) (upd H1 D (dO G.w D [])) := (g1.laid (o := dO G.w D []) hD).cellNew n2 n3 n1 ⟨g1.subL.free hD, [], upd_same, by unfold DKs; rfl⟩
  have hpk : (w1.ps ++ [D])[st1.length]? = some D := by rw [← g1.len]; simp
  let k := st1.length
  -- the invariant
  refine ⟨fun i m H' => m = ds.length - i ∧ i ≤ ds.length ∧ ∃ w' s', Le ⟨w1.S, w1.ps ++ [D], w1.L, w1.xo⟩ w' ∧ w'.ps = w1.ps ++ [D] ∧ Good G g w' s' H' ∧
      ∃ rr, dcGo k vs env t cond ek ev (ds.drop i) s' = .ok () rr ∧ ∃ d, rr[k]? = some (some d) ∧ Ok G g Wx (relN G g) w1 σ (.ok d (rr.take k)) Q, ?_, ?_⟩
  · refine ⟨ds.length, by simp, Nat.zero_le _, ⟨w1.S, w1.ps ++ [D], w1.L, w1.xo⟩, st1 ++ [some (.dic [])], Le.refl _, rfl, g2, ?_⟩
    rw [List.drop_zero]
    cases r : dcGo st1.length vs env t cond ek ev ds (st1 ++ [some (.dic [])]) with
    | ok z s2 =>
      rw [r] at q1
      simp only at q1
      refine ⟨s2, rfl, ?_⟩
      split at q1
      · rename_i d hd
        exact ⟨d, hd, q1⟩
      · exact (show False from q1).elim
    | exc x s2 => rw [r] at q1; exact (show False from q1).elim
    | bad => rw [r] at q1; exact (show False from q1).elim
  · rintro i m H' ⟨rfl, hi, w', s', l', hps, g', rr, hr, d, hd, q'⟩
    have l1' : Le w1 w' := Le.trans (b := ⟨w1.S, w1.ps ++ [D], w1.L, w1.xo⟩) ⟨Same.refl _, rfl, rfl, [D], rfl⟩ l'
    obtain ⟨hst, hgo⟩ := hJ w' s' H' l1' g'
    have hpk' : w'.ps[k]? = some D := by rw [hps]; exact hpk
    have hlen' : s'.length = k + 1 := by rw [← g'.len, hps]; simp [g1.len, k]
    by_cases hlt : i < ds.length
    · refine .inr ?_
      obtain ⟨hg1, hy⟩ := hgo i ds[i] (by simp [hlt])
      refine ⟨hg1, fun H2 => ∃ w2 s2, Le ⟨w1.S, w1.ps ++ [D], w1.L, w1.xo⟩ w2 ∧ w2.ps = w1.ps ++ [D] ∧ Good G g w2 s2 H2 ∧ ∃ rr, dcGo k vs env t cond ek ev (ds.drop (i + 1)) s2 = .ok () rr ∧ ∃ d, rr[k]? = some (some d) ∧ Ok G g Wx (relN G g) w1 σ (.ok d (rr.take k)) Q,
        fun H2 z => ⟨ds.length - (i + 1), by omega, rfl, hlt, z⟩, fun x H3 y => ?_⟩
      obtain ⟨w3, l3, g3, x3⟩ := hy x H3 y
      have e3 : EnvAt G w3 (wipe σ vs) (wipeE env vs) := EnvAt.wipe (e1.mono (l1'.trans l3))
      rw [List.drop_eq_getElem_cons hlt] at hr
      unfold dcGo at hr
      have e0 : wipe σ vs = wipe (wipe σ vs) vs := (hww σ).symm
      cases r1 : t (U.d ds[i]) (wipeE env vs) s' with
      | nx e4 s4 =>
        rw [r1] at hr
        simp only at hr
        have kk := kt w3 x (.d ds[i]) (wipe σ vs) (wipeE env vs) s' H3 { nx := fun σ2 H2 => (rdT G g WF cond) σ2 H2 fun b H3 => if b = true then (rdE G g WF ek) σ2 H3 fun y H4 => (rdE G g WF ev) σ2 H4 fun z H5 => dStep G D y z H5 (fun H2 => ∃ w2 s2, Le ⟨w1.S, w1.ps ++ [D], w1.L, w1.xo⟩ w2 ∧ w2.ps = w1.ps ++ [D] ∧ Good G g w2 s2 H2 ∧ ∃ rr, dcGo k vs env t cond ek ev (ds.drop (i + 1)) s2 = .ok () rr ∧ ∃ d, rr[k]? = some (some d) ∧ Ok G g Wx (relN G g) w1 σ (.ok d (rr.take k)) Q) else (fun H2 => ∃ w2 s2, Le ⟨w1.S, w1.ps ++ [D], w1.L, w1.xo⟩ w2 ∧ w2.ps = w1.ps ++ [D] ∧ Good G g w2 s2 H2 ∧ ∃ rr, dcGo k vs env t cond ek ev (ds.drop (i + 1)) s2 = .ok () rr ∧ ∃ d, rr[k]? = some (some d) ∧ Ok G g Wx (relN G g) w1 σ (.ok d (rr.take k)) Q) H3, rt := fun _ _ => False } g3 e3 x3 ?_
        · have := keep x (wipe σ vs) H3 _ kk
          simp only [hww] at this
          exact this
        rw [r1]
        intro w4 σ4 H4 l4 g4 e4'
        refine ⟨w4, e4, s4, g4, e4', ?_⟩
        have l34 : Le ⟨w1.S, w1.ps ++ [D], w1.L, w1.xo⟩ w4 := (l'.trans l3).trans l4
        have trunc : ∀ {w5 : W} {s5 : Sto} {H5 : Hp}, Le ⟨w1.S, w1.ps ++ [D], w1.L, w1.xo⟩ w5 → Good G g w5 s5 H5 → Good G g ⟨w5.S, w5.ps.take (k + 1), w5.L, w5.xo⟩ (s5.take (k + 1)) H5 ∧ Le ⟨w1.S, w1.ps ++ [D], w1.L, w1.xo⟩ ⟨w5.S, w5.ps.take (k + 1), w5.L, w5.xo⟩ ∧ w5.ps.take (k + 1) = w1.ps ++ [D] := fun {w5 s5 H5} l5 g5 => by
          obtain ⟨r, e⟩ := l5.p
          have e : w5.ps = (w1.ps ++ [D]) ++ r := e
          have hl : (w1.ps ++ [D]).length = k + 1 := by simp [g1.len, k]
          have e2 : w5.ps.take (k + 1) = w1.ps ++ [D] := by rw [e, List.take_append_of_le_length (by omega), List.take_of_length_le (by omega)]
          exact ⟨g5.drop (by omega), ⟨l5.s, l5.l, l5.o, [], by rw [e2]; simp⟩, e2⟩
        cases r2 : cond e4 s4 with
        | bad => rw [r2] at hr; cases hr
        | exc z s5 => rw [r2] at hr; cases hr
        | ok b s5 =>
          rw [r2] at hr
          intro w5 b' H5 l5 g5 hb'
          cases hb'
          cases b with
          | false =>
            rw [if_neg Bool.false_ne_true]
            obtain ⟨z1, z2, z3⟩ := trunc (l34.trans l5) g5
            exact ⟨⟨w5.S, w5.ps.take (k + 1), w5.L, w5.xo⟩, s5.take (k + 1), z2, z3, z1, rr, hr, d, hd, q'⟩
          | true =>
            rw [if_pos rfl]
            simp only at hr
            refine ⟨w5, e4, s5, g5, e4'.mono l5, ?_⟩
            cases r3 : ek e4 s5 with
            | bad => rw [r3] at hr; cases hr
            | exc z s6 => rw [r3] at hr; cases hr
            | ok u s6 =>
              rw [r3] at hr
              cases u with
              | c j => cases hr
              | x j => cases hr
              | d yk =>
                simp only at hr
                intro w6 y6 H6 l6 g6 x6
                refine ⟨w6, e4, s6, g6, (e4'.mono l5).mono l6, ?_⟩
                cases r4 : ev e4 s6 with
                | bad => rw [r4] at hr; cases hr
                | exc z s7 => rw [r4] at hr; cases hr
                | ok u7 s7 =>
                  rw [r4] at hr
                  cases u7 with
                  | c j => cases hr
                  | x j => cases hr
                  | d zv =>
                    simp only at hr
                    intro w7 z7 H7 l7 g7 x7
                    split at hr
                    · rename_i kvs n hacc hn
                      split at hr
                      · rename_i hsz
                        have l7' := ((l34.trans l5).trans l6).trans l7
                        have hpk7 : w7.ps[k]? = some D := by
                          obtain ⟨r, e⟩ := l7'.p
                          have e : w7.ps = (w1.ps ++ [D]) ++ r := e
                          rw [e, List.getElem?_append_left (by simp [g1.len, k])]
                          exact hpk
                        obtain ⟨c1, c0, en, hav, hds⟩ := g7.cell k D _ hpk7 hacc
                        have x6' : DAt G w7.S y6 yk := DAt.mono l7.s _ x6
                        refine ⟨w7.S, en, kvs, yk, n, g7.sub, hav, hds, g7.view (st := s7) (u := .d yk) x6' rfl, hn, by rw [hds.length, sizeL_eq]; exact hsz, ?_⟩
                        obtain ⟨z1, z2, z3⟩ := trunc l7' g7
                        have hk2 : (s7.take (k + 1))[k]? = some (some (.dic kvs)) := by rw [List.getElem?_take, if_pos (Nat.lt_succ_self k)]; exact hacc
                        have hp2 : (w7.ps.take (k + 1))[k]? = some D := by rw [List.getElem?_take, if_pos (Nat.lt_succ_self k)]; exact hpk7
                        have g8 := z1.write (k := k) (p := D) (o := dO G.w D (putE n y6 z7 en)) (d' := .dic (putKD yk n zv kvs)) hp2 hk2 c0 ⟨c0, _, upd_same, put_dks hn x6' x7 hds⟩
                        exact ⟨⟨w7.S, w7.ps.take (k + 1), w7.L, w7.xo⟩, _, z2, z3, g8, rr, hr, d, hd, q'⟩
                      · cases hr
                    · cases hr
      | bk e4 s4 => rw [r1] at hr; cases hr
      | ct e4 s4 => rw [r1] at hr; cases hr
      | rt u4 s4 => rw [r1] at hr; cases hr
      | exc x4 e4 s4 => rw [r1] at hr; cases hr
      | bad => rw [r1] at hr; cases hr
    · refine .inl ⟨hst i (by omega), ?_⟩
      rw [List.drop_eq_nil_of_le (by omega)] at hr
      cases hr
      obtain ⟨c1, c2⟩ := g'.cell k D d hpk' hd
      have g8 := g'.drop (k := k) hk0
      have e8 : w'.ps.take k = w1.ps := by rw [hps]; simp [g1.len, k]
      refine q' ⟨w'.S, w'.ps.take k, w'.L, w'.xo⟩ (.ref D) H' ⟨l'.s, l'.l, l'.o, [], by rw [e8]; simp⟩ g8 ⟨D, rfl, ?_, c1, n1, c2⟩
      show D ∉ w'.ps.take k
      rw [e8]; exact n2

/-- {k: v for x in it if cond}, x in slot i -/
theorem se_dc {kx vx : Expr} {iter : Expr} {x : Str} {tp : Pos} {i : Nat} {ifs : List Expr} {scope : Scope} {own : List (Str × Nat)} {it : MI} {cond : MT} {mk mv : ME} (hK : X.K = G.K) (hw : X.w = G.w) (hu : X.A.units + 64 < cLine) (hc : X.calm = true) (hN : X.N.Nodup) (hi : SI X G g Wx (.Name x tp) iter it) (ok : BlkOk X.N X.env.scope scope own) (hmem : i ∈ own.map (·.2))
    (hg : ∀ (s : Shared) (H : Hp) (C : Addr) (cl : List (Str × Addr)) (fp : List Addr), PG (X.blk s H scope (compEnvC scope cl C X.env) fp) (.Name x tp) (gName i))
    (ht : ∀ (s : Shared) (H : Hp) (C : Addr) (cl : List (Str × Addr)) (fp : List Addr), STs (X.blk s H scope (compEnvC scope cl C X.env) fp) G g ifs cond)
    (hk : ∀ (s : Shared) (H : Hp) (C : Addr) (cl : List (Str × Addr)) (fp : List Addr), PE (X.blk s H scope (compEnvC scope cl C X.env) fp) kx (rdE G g WF mk))
    (hv : ∀ (s : Shared) (H : Hp) (C : Addr) (cl : List (Str × Addr)) (fp : List Addr), PE (X.blk s H scope (compEnvC scope cl C X.env) fp) vx (rdE G g WF mv)) (hs : ∀ z, foldedSetIterable iter X.env z = pure z := by intro _; rfl) :
    PE X (.DictComp kx vx [⟨.Name x tp, iter, ifs, 0⟩] scope pos) (rdN G g Wx (nDc it (own.map (·.2)) (gN i) cond mk mv)) := by
  obtain ⟨wi, pi, ki⟩ := hi.ok
  refine PE.imp (pe_dcO hK hw hu hc hN pi ok hg (fun s H C cl fp => (ht s H C cl fp).ok) hk hv hs) fun σ H Q h => ?_
  exact dc_read (t := gN i) (fun w v u σ env st H D hg he hu q => q w (σ.set i (some v)) H (Le.refl _) hg (he.set i hu)) (fun v σ H Q q => ⟨wipe_in hmem, q⟩) (fun σ => wipe_wipe σ _ _ fun i h => h) ki h
end
end LV

/-! LVt -/
set_option Elab.async false
set_option linter.all false
set_option maxRecDepth 100000
set_option maxHeartbeats 2000000
/-! LVt: calls of defs and classes, in all forms. -/
namespace LV
open PySem PySem.Spec PyProof.Rows SeqAt L2
def selOf : List U → List Nat
  | [] => []
  | .d _ :: r => selOf r
  | .x _ :: r => selOf r
  | .c k :: r => if k ∈ selOf r then selOf r else k :: selOf r
/-- the whole call, by what is handed in -/
def callA (F : Fm) (n : Nat) (us : List U) (st : Sto) : R U := if us.length = n then callU F (selOf us) us st else .bad
/-- how the arguments come to the parameters -/
abbrev Ord := (α : Type) → List α → List α → List α
structure KB (K : PySem.W.Frag) (fd : FuncData) (ps : List Str) (n : Nat) (ks : List Str) (o : Ord) : Prop where
  to : ∀ (s : Shared) (us ws : List Value), K.In s.heap → us.length = n → ws.length = ks.length → BindsTo s fd ⟨us, ks.zip ws⟩ (ps.zip (o _ us ws))
  rel : ∀ {α β : Type} {R : α → β → Prop} {vs : List α} {us : List β} {zs : List α} {ws : List β}, Paired R vs us → Paired R zs ws → Paired R (o α vs zs) (o β us ws)
section
variable {X : Cx} {G : GE} {g : GI} {Wx : WX} {pos p apos : Pos} {a e : Expr} {es : List Expr} {k n m : Nat} {f C : Addr} {fd : FuncData} {ps ks : List Str} {F : Fm} {x : Str} {kws : List Keyword} {o : Ord}
theorem callA_sp {w : W} {σ : L2.St} {st : Sto} {H : Hp} {vs : List V} {us : List U} {n : Nat} {F : Fm} {Q : VK} (hg : Good G g w st H) (hu : UAts G w vs us) (h : Ok G g Wx (relU G) w σ (callA F n us st) Q) : spF G n F vs H Q (fun c d H => Wx c d σ H) := by
  unfold callA at h
  split at h
  · rename_i hn
    exact call_sp hg hu hn h
  · exact (show False from h).elim
/-- f(e, ..) -/
def mCallA (F : Fm) (n : Nat) (r : MA) : ME := fun env st => (r env st).bind fun us st1 => callA F n us st1
theorem se_callA {r : MA} (ok : FnOk X.prog X.w X.K X.mg X.base (L2.CX X.prog X.w) k f fd ps (spF G n F)) (hr : Room k X.A) (hg : Gl X x) (hm : X.mg x = some (.ref f)) (hk : PySem.W.keepIn X.K (.ref f) = true) (hb : Binds X.K fd ps []) (tk : Takes X Wx)
    (ha : PA X (a :: es) (rdA G g Wx r)) (hdb : (x == ("__debug__" : Str)) = false := by decide) (he : starEach (a :: es) X.env = (false, eval a X.env) :: starEach es X.env := by rfl) (hpl : (backTo pos (starEach es X.env)).any (·.1) = false := by rfl) :
    PE X (.Call (.Name x p) (a :: es) [] pos) (rdE G g Wx (mCallA F n r)) :=
  PE.imp (pe_callSD (dvs := []) (E := fun σ c d H => Wx c d σ H) ok hr hg hm hk hb .nil (fun σ => passAt tk σ) ha hdb he hpl) fun σ H Q ⟨w, env, st, hg, hen, q⟩ => by
    refine ⟨w, env, st, hg, hen, Ok.bind q fun us st1 w1 vs H1 l1 g1 x1 q1 => ?_⟩
    rw [List.append_nil]
    exact callA_sp g1 x1 q1
/-! keywords -/
def kN : MA := aN
theorem sk_nil : PK X [] (rdA G g Wx aN) := ⟨fun pos pins s σ H Q I ⟨w, env, st, hg, hen, q⟩ => pk_nil.run pos pins s σ H Q I (q w [] H (Le.refl _) hg .nil)⟩
theorem sk_cons {nm : Option Str} {kpos : Pos} {m : ME} {r : MA} (ha : PE X e (rdE G g Wx m)) (hr : PK X kws (rdA G g Wx r)) : PK X (⟨nm, e, kpos⟩ :: kws) (rdA G g Wx (aC m r)) :=
  ⟨fun pos pins s σ H Q I ⟨w, env, st, hg, hen, q⟩ => (pk_cons ha hr).run pos pins s σ H Q I ⟨w, env, st, hg, hen, Ok.bind q fun x st1 w1 v H1 l1 g1 x1 q1 => ⟨w1, env, st1, g1, hen.mono l1, Ok.bind q1 fun xs st2 w2 vs H2 l2 g2 x2 q2 => q2 w2 _ H2 (Le.refl _) g2 (.cons (x1.mono l2) x2)⟩⟩⟩
theorem run_fnKS {sp : Sp} {E : L2.St → XK} {pins : List (Addr × Obj)} {σ : L2.St} {H : Hp} {s : Shared} {Q : VK} {us ws : List Value} {vs zs : List V} (ok : FnOk X.prog X.w X.K X.mg X.base (L2.CX X.prog X.w) k f fd ps sp) (hr : Room k X.A) (hb : KB X.K fd ps n ks o) (hx : PassesAt (L2.CX X.prog X.w) X σ (E σ))
    (I : Inv X pins σ H s) (r : Vals vs us) (rz : Vals zs ws) (h1 : us.length = n) (h2 : ws.length = ks.length) (h : sp (o V vs zs) H Q (E σ)) : wpAny (model X.prog X.w) X.A (call (.ref f) us (ks.zip ws)) (EP X pins σ Q) X.xe s := by
  refine wpAny_call (codeAny_mono (ok.run X.A X.stack s H ⟨us, ks.zip ws⟩ (o Value us ws) (o V vs zs) Q (E σ) hr I.env0 (hb.to s us ws I.kIn h1 h2) (hb.rel r rz) h) fun t s' hq => ?_)
  cases t with
  | error x => exact hx pins H s x s' I hq
  | ok fl =>
    cases fl with
    | ret u => exact I.after hq
    | next | brk | cont => exact False.elim hq
/-- f(e, .., k = v, ..) -/
def mCallK (F : Fm) (n np nk : Nat) (o : Ord) (r rk : MA) : ME := fun env st => (r env st).bind fun us st1 => (rk env st1).bind fun ws st2 => if us.length = np ∧ ws.length = nk then callA F n (o U us ws) st2 else .bad
theorem callK_ok {Q : VK} {w : W} {env : EnvU} {st : Sto} {r rk : MA} {σ : L2.St} {H : Hp} {np nk : Nat} (hb : KB X.K fd ps np ks o) (hg : Good G g w st H) (hen : EnvAt G w σ env) (q : Ok G g Wx (relU G) w σ (mCallK F n np nk o r rk env st) Q) :
    rdA G g Wx r σ H fun vs H1 => rdA G g Wx rk σ H1 fun zs H2 => vs.length = np ∧ zs.length = nk ∧ spF G n F (o V vs zs) H2 Q (fun c d H => Wx c d σ H) := by
  refine ⟨w, env, st, hg, hen, Ok.bind q fun us st1 w1 vs H1 l1 g1 x1 q1 => ⟨w1, env, st1, g1, hen.mono l1, Ok.bind q1 fun ws st2 w2 zs H2 l2 g2 x2 q2 => ?_⟩⟩
  split at q2
  · rename_i hl
    exact ⟨(Paired.length x1).trans hl.1, (Paired.length x2).trans hl.2, callA_sp g2 (hb.rel (x1.mono l2) x2) q2⟩
  · exact (show False from q2).elim
theorem se_callK {r rk : MA} (ok : FnOk X.prog X.w X.K X.mg X.base (L2.CX X.prog X.w) k f fd ps (spF G n F)) (hr : Room k X.A) (hg : Gl X x) (hm : X.mg x = some (.ref f)) (hk : PySem.W.keepIn X.K (.ref f) = true) (hb : KB X.K fd ps m ks o) (tk : Takes X Wx)
    (ha : PA X (a :: es) (rdA G g Wx r)) (hkw : PK X kws (rdA G g Wx rk)) (hall : (backToKw pos (keywordEach kws X.env)).all (·.1.isSome) = true := by rfl) (hks : (backToKw pos (keywordEach kws X.env)).filterMap (·.1) = ks := by rfl)
    (hdb : (x == ("__debug__" : Str)) = false := by decide) (he : starEach (a :: es) X.env = (false, eval a X.env) :: starEach es X.env := by rfl)
    (hpl : ((backTo pos (starEach (a :: es) X.env)).any (·.1) || (backToKw pos (keywordEach kws X.env)).any (·.1.isNone)) = false := by rfl) :
    PE X (.Call (.Name x p) (a :: es) kws pos) (rdE G g Wx (mCallK F n m ks.length o r rk)) := by
  refine ⟨fun pins s σ H Q I ⟨w, env, st, hg', hen, q⟩ => wpAny_Call_Name_kw (ld_glob I hg hm ?_ hdb)⟩
  refine PySem.W.callWith_KW (h₀ := X.base) I.ok.mod.kin hk hall (thn (ha.run pos pins s σ H _ I (callK_ok hb hg' hen q)) fun us s1 ⟨vs, H1, I1, r1, q1⟩ => ?_) hpl he
  refine thn (hkw.run pos pins s1 σ H1 _ I1 q1) fun ws s2 ⟨zs, H2, I2, rz, l1, l2, q2⟩ => ⟨I2.kIn, ?_⟩
  rw [hks]
  exact run_fnKS (E := fun σ c d H => Wx c d σ H) ok hr hb (passAt tk σ) I2 r1 rz (by rw [List.nil_append, ← r1.length]; exact l1) (by rw [← rz.length]; exact l2) q2
theorem se_callK0 {rk : MA} (ok : FnOk X.prog X.w X.K X.mg X.base (L2.CX X.prog X.w) k f fd ps (spF G n F)) (hr : Room k X.A) (hg : Gl X x) (hm : X.mg x = some (.ref f)) (hk : PySem.W.keepIn X.K (.ref f) = true) (hb : KB X.K fd ps 0 ks o) (tk : Takes X Wx)
    (hkw : PK X kws (rdA G g Wx rk)) (hall : (backToKw pos (keywordEach kws X.env)).all (·.1.isSome) = true := by rfl) (hks : (backToKw pos (keywordEach kws X.env)).filterMap (·.1) = ks := by rfl)
    (hdb : (x == ("__debug__" : Str)) = false := by decide) (hpl : ((backTo pos (starEach [] X.env)).any (·.1) || (backToKw pos (keywordEach kws X.env)).any (·.1.isNone)) = false := by rfl) :
    PE X (.Call (.Name x p) [] kws pos) (rdE G g Wx (mCallK F n 0 ks.length o aN rk)) := by
  refine ⟨fun pins s σ H Q I ⟨w, env, st, hg', hen, q⟩ => wpAny_Call_Name_kw (ld_glob I hg hm ?_ hdb)⟩
  refine PySem.W.callWith_KW0 (h₀ := X.base) I.ok.mod.kin hk hall ?_ hpl
  have q0 : rdA G g Wx rk σ H fun zs H2 => zs.length = ks.length ∧ spF G n F (o V [] zs) H2 Q (fun c d H => Wx c d σ H) := by
    have q' : Ok G g Wx (relU G) w σ ((rk env st).bind fun ws st2 => if ([] : List U).length = 0 ∧ ws.length = ks.length then callA F n (o U [] ws) st2 else .bad) Q := q
    refine ⟨w, env, st, hg', hen, Ok.bind q' fun ws st2 w2 zs H2 l2 g2 x2 q2 => ?_⟩
    split at q2
    · rename_i hl
      exact ⟨(Paired.length x2).trans hl.2, callA_sp g2 (hb.rel .nil x2) q2⟩
    · exact (show False from q2).elim
  refine thn (hkw.run pos pins s σ H _ I q0) fun ws s2 ⟨zs, H2, I2, rz, l2, q2⟩ => ⟨I2.kIn, ?_⟩
  rw [hks]
  exact run_fnKS (us := []) (vs := []) (E := fun σ c d H => Wx c d σ H) ok hr hb (passAt tk σ) I2 .nil rz rfl (by rw [← rz.length]; exact l2) q2
/-! ### C(e, ..) -/
theorem run_makeS {sp : Sp} {E : XK} {pins : List (Addr × Obj)} {σ : L2.St} {H : Hp} {s : Shared} {Q : VK} {us : List Value} {vs : List V} (M : Mk X.K C f) (ok : FnOk X.prog X.w X.K X.mg X.base (L2.CX X.prog X.w) k f fd ps sp) (hr : Room (k + 1) X.A) (hb : Binds X.K fd ps []) (hx : PassesAt (L2.CX X.prog X.w) X σ E)
    (I : Inv X pins σ H s) (r : Vals vs us) (h : ∀ y dy, H y = none → H dy = none → dy ≠ y → sp (.ref y :: vs) (upd (upd H dy (.own y)) y (.ins C dy [])) (fun v H2 => v = .non ∧ Q (.ref y) H2) E) :
    wpAny (model X.prog X.w) X.A (call (.ref C) us) (EP X pins σ Q) X.xe s := by
  have spy := h (s.heap.objs.size + 1) s.heap.objs.size (I.hok.fresh (Nat.le_succ _)) (I.hok.fresh (Nat.le_refl _)) (Nat.ne_of_lt (Nat.lt_succ_self _))
  have J := Inv.made (C := C) I
  have vals : Vals (V.ref (s.heap.objs.size + 1) :: vs) (Value.ref (s.heap.objs.size + 1) :: us) := .cons rfl r
  have ln : (Value.ref (s.heap.objs.size + 1) :: us ++ []).length = ps.length := by rw [List.append_nil, ← vals.length, ok.len _ _ _ _ spy]
  have bd := hb _ (Value.ref (s.heap.objs.size + 1) :: us) J.kIn ln
  rw [List.append_nil] at bd
  refine wpAny_call (make_map (f := f) I.kIn M.makes M.init (beq_iff_eq.mp M.fn) (codeAny_mono (ok.run _ X.stack _ _ ⟨_ :: us, []⟩ _ _ _ E (hr.make C us []) (J.env0.make C us []) bd vals spy) fun t s' hq => ?_))
  cases t with
  | error e => exact hx pins _ _ e s' J hq
  | ok fl =>
    cases fl with
    | ret u =>
      obtain ⟨v, H', J3, rv, ev, q3⟩ := J.after hq
      subst ev
      exact ⟨rv, ⟨V.ref (s.heap.objs.size + 1), H', J3, rfl, q3⟩⟩
    | next | brk | cont => exact False.elim hq
/-- a new instance, in a new cell -/
def mkA (c : Str) (F : Fm) (n : Nat) (us : List U) (st1 : Sto) : R U := (callA F n (.c st1.length :: us) (st1 ++ [some (.obj c [])])).bind fun u st2 => match u with
  | .d .non => .ok (.c st1.length) st2
  | _ => .bad
theorem mkA_sp {c : Str} {w : W} {σ : L2.St} {st : Sto} {H : Hp} {vs : List V} {us : List U} {n : Nat} {F : Fm} {Q : VK} (hC : G.cls c = some C) (hg : Good G g w st H) (hu : UAts G w vs us) (h : Ok G g Wx (relU G) w σ (mkA c F n us st) Q) (y dy : Addr) (hy : H y = none) (hdy : H dy = none) (ne : dy ≠ y) :
    spF G n F (.ref y :: vs) (upd (upd H dy (.own y)) y (.ins C dy [])) (fun v H2 => v = .non ∧ Q (.ref y) H2) (fun c d H => Wx c d σ H) := by
  obtain ⟨n1, n2, n3⟩ := hg.newH0 hy
  have hy2 : (upd H dy (.own y)) y = none := by rw [upd_ne (Ne.symm ne)]; exact hy
  have g2 := ((hg.laid (o := .own y) hdy).laid (o := .ins C dy []) hy2).cellNew (d := .obj c []) n2 n3 n1 ⟨hg.subL.free hy, C, dy, [], upd_same, hC, by unfold DFs; rfl⟩
  have l2 : Le w ⟨w.S, w.ps ++ [y], w.L, w.xo⟩ := ⟨Same.refl _, rfl, rfl, [y], rfl⟩
  have at_ : (w.ps ++ [y])[st.length]? = some y := by rw [← hg.len]; simp
  refine callA_sp g2 (.cons (show UAt G _ (V.ref y) (.c st.length) from ⟨y, at_, rfl⟩) (hu.mono l2)) (Ok.bind (Ok.le l2 h) fun u st3 w3 v H3 l3 g3 x3 q3 => ?_)
  split at q3
  · exact ⟨x3, q3 w3 (.ref y) H3 (Le.refl _) g3 ⟨y, l3.at at_, rfl⟩⟩
  · exact (show False from q3).elim
def mMake (c : Str) (F : Fm) (n : Nat) (r : MA) : ME := fun env st => (r env st).bind fun us st1 => mkA c F n us st1
theorem se_make {r : MA} {c : Str} (hC : G.cls c = some C) (M : Mk X.K C f) (ok : FnOk X.prog X.w X.K X.mg X.base (L2.CX X.prog X.w) k f fd ps (spF G n F)) (hr : Room (k + 1) X.A) (hg : Gl X x) (hm : X.mg x = some (.ref C)) (hb : Binds X.K fd ps []) (tk : Takes X Wx)
    (ha : PA X (a :: es) (rdA G g Wx r)) (hdb : (x == ("__debug__" : Str)) = false := by decide) (he : starEach (a :: es) X.env = (false, eval a X.env) :: starEach es X.env := by rfl) (hpl : (backTo pos (starEach es X.env)).any (·.1) = false := by rfl) :
    PE X (.Call (.Name x p) (a :: es) [] pos) (rdE G g Wx (mMake c F n r)) := by
  refine ⟨fun pins s σ H Q I ⟨w, env, st, hg', hen, q⟩ => wpAny_Call_Name_kw (ld_glob I hg hm ?_ hdb)⟩
  have q0 : rdA G g Wx r σ H fun vs H1 => ∀ y dy, H1 y = none → H1 dy = none → dy ≠ y → spF G n F (.ref y :: vs) (upd (upd H1 dy (.own y)) y (.ins C dy [])) (fun v H2 => v = .non ∧ Q (.ref y) H2) (fun c d H => Wx c d σ H) :=
    ⟨w, env, st, hg', hen, Ok.bind q fun us st1 w1 vs H1 l1 g1 x1 q1 => fun y dy hy hdy ne => mkA_sp hC g1 x1 q1 y dy hy hdy ne⟩
  refine PySem.W.callWith_K (h₀ := X.base) I.ok.mod.kin M.kp (thn (ha.run pos pins s σ H _ I q0) fun us s1 ⟨vs, H1, I1, r1, q1⟩ => ⟨I1.kIn, ?_⟩) he hpl
  exact run_makeS M ok hr hb (passAt tk σ) I1 r1 q1
end
end LV

/-! LVu -/
set_option Elab.async false
set_option linter.all false
set_option maxRecDepth 100000
set_option maxHeartbeats 2000000
/-! LVu: errors raised, errors caught. -/
namespace LV
open PySem PySem.Spec PyProof.Rows SeqAt L2
/-! ### the __init__ of an error with one field -/
def spI (K : PySem.W.Frag) (f : Str) : Sp := fun vs H Q _ => ∃ a C v, vs = [.ref a, v] ∧ OexC K C ∧ PySem.W.findIn K (.ref C) f = some none ∧ H a = some (exo a C none) ∧ ∀ dx, H dx = none → dx ≠ a → Q .non (upd (upd H dx (exd dx [(f, v)])) a (exo a C (some dx)))
section
variable {X : Cx} {G : GE} {g : GI} {Wx : WX} {pos p pos' np : Pos} {a e : Expr} {es : List Expr} {x n : Str}
/-! ### raise C(e) -/
def sRaise (c f : Str) (m : ME) : MS := fun env st => (m env st).thenS env fun u st1 => match u with
  | .d d => .exc ⟨c, [(f, d)]⟩ env st1
  | _ => .bad
theorem ss_raise {c f : Str} {C fI : Addr} {k : Nat} {fd : FuncData} {ps : List Str} {m : ME} (hC : G.cls c = some C) (T : OexC X.K C) (hf : PySem.W.findIn X.K (.ref C) f = some none) (iC : PySem.W.findIn X.K (.ref C) "__init__" = some (some (.ref fI))) (tI : PySem.W.typeIn X.K (.ref fI) = some (.type "function"))
    (ok : FnOk X.prog X.w X.K X.mg X.base (L2.CX X.prog X.w) k fI fd ps (spI X.K f)) (hr : Room (k + 1) X.A) (hb : Binds X.K fd ps []) (hc : X.calm = true) (tk : Takes X Wx) (hx : Passes (L2.CX X.prog X.w) X (fun _ _ _ => False)) (hg : Gl X x) (hm : X.mg x = some (.ref C)) (ha : PE X e (rdE G g Wx m))
    (hdb : (x == ("__debug__" : Str)) = false := by decide) (he : starEach [e] X.env = (false, eval e X.env) :: starEach [] X.env := by rfl) (hpl : (backTo pos' (starEach [] X.env)).any (·.1) = false := by rfl) :
    PS X (.Raise (some (.Call (.Name x p) [e] [] pos')) none pos) (rdS G g Wx (sRaise c f m)) := by
  refine PS.imp (ps_raise hc tk (pmk_oex T iC tI ok hr hb .nil hx hg hm (sa_cons ha sa_nil he) hdb he hpl)) fun D σ H ⟨w, env, st, hg', hen, q⟩ => ?_
  refine ⟨w, env, st, hg', hen, ?_⟩
  have q' : OkS G g Wx w ((m env st).thenS env fun u st1 => match u with
    | .d d => .exc ⟨c, [(f, d)]⟩ env st1
    | _ => .bad) D := q
  show Ok G g Wx (relA G) w σ ((m env st).bind fun u st1 => .ok [u] st1) _
  have key : Ok G g Wx (relU G) w σ (m env st) fun v H1 => ∀ y, H1 y = none → spI X.K f [.ref y, v] (upd H1 y (exo y C none))
      (fun v H2 => v = .non ∧ ∃ (d : Addr) (fs : List (Str × V)), H2 y = some (exo y C (some d)) ∧ H2 d = some (exd d fs) ∧ H1 d = none ∧ Wx (.ref C) (some d) σ (upd (del H2 y) d (.xd fs))) (fun _ _ _ => False) := by
    refine Ok.thenS hen q' fun u st1 w1 v H1 l1 g1 e1 x1 q1 y hy => ?_
    cases u with
    | c k => exact (show False from q1).elim
    | x k => exact (show False from q1).elim
    | d d =>
      refine ⟨y, C, v, rfl, T, hf, upd_same, fun dx hdx ne => ⟨rfl, dx, [(f, v)], upd_same, ?_, ?_, ?_⟩⟩
      · rw [upd_ne ne, upd_same]
      · rw [upd_ne ne] at hdx; exact hdx
      · have hd1 : H1 dx = none := by rw [upd_ne ne] at hdx; exact hdx
        have eH : upd (del (upd (upd (upd H1 y (exo y C none)) dx (exd dx [(f, v)])) y (exo y C (some dx))) y) dx (.xd [(f, v)]) = upd H1 dx (.xd [(f, v)]) := by
          funext b
          by_cases h1 : b = dx
          · subst h1; rw [upd_same, upd_same]
          · rw [upd_ne h1, upd_ne h1]
            by_cases h2 : b = y
            · subst h2; rw [del_same]; exact hy.symm
            · rw [del_ne h2, upd_ne h2, upd_ne h1, upd_ne h2]
        rw [eH]
        have ex : Ex w1.S (upd w1.S dx (.xd [(f, v)])) := Ex.new (g1.sub.free hd1)
        have lx : Le w1 ⟨upd w1.S dx (.xd [(f, v)]), w1.ps, w1.L, w1.xo⟩ := ⟨ex, rfl, rfl, [], by simp⟩
        refine q1 ⟨upd w1.S dx (.xd [(f, v)]), w1.ps, w1.L, w1.xo⟩ σ _ (.ref C) (some dx) lx (g1.grow ex (Ex.new hd1) (fun b u hb => ?_) (fun b u hb => ?_)) (e1.mono lx) ⟨C, hC, rfl, .inr ⟨dx, [(f, v)], rfl, upd_same, ?_⟩⟩
        · by_cases hbp : b = dx
          · subst hbp; rw [upd_same] at hb ⊢; exact hb
          · rw [upd_ne hbp] at hb ⊢; exact g1.sub _ _ hb
        · by_cases hbp : b = dx
          · subst hbp; exact .inr hd1
          · rw [upd_ne hbp] at hb; exact .inl hb
        · unfold DFs
          exact ⟨v, [], rfl, DAt.mono ex d x1, by unfold DFs; rfl⟩
  cases r : m env st with
  | bad => rw [r] at key; exact key
  | exc z s1 => rw [r] at key; exact key
  | ok u s1 =>
    rw [r] at key
    intro w1 vs H1 l1 g1 x1
    cases x1 with
    | cons y1 y2 =>
      cases y2
      exact ⟨by simp, fun y hy => key w1 _ H1 l1 g1 y1 y hy⟩
/-! ### try: .. except C as e: .. -/
def clr (env : EnvU) : EnvU := env.map fun o => match o with
  | some (.x _) => none
  | o => o
def tryEnd (i : Nat) : RS → RS
  | .nx e s => .nx ((clr e).set i none) s
  | .bk e s => .bk ((clr e).set i none) s
  | .ct e s => .ct ((clr e).set i none) s
  | .rt (.x _) _ => .bad
  | .rt u s => .rt u s
  | .exc _ _ _ => .bad
  | .bad => .bad
def sTryAs (mt : Str → Option Bool) (i : Nat) (mb ms : MS) : MS := fun env st => match mb env st with
  | .exc x e1 st1 => (match mt x.c with
    | some true => tryEnd i (ms (e1.set i (some (.x x))) st1)
    | some false => .exc x e1 st1
    | none => .bad)
  | r => r
/-- which errors the clause catches -/
def Catch (K : PySem.W.Frag) (cls : Str → Option Addr) (c : Value) (mt : Str → Option Bool) : Prop := ∀ y C b, cls y = some C → mt y = some b → PySem.W.exmOne K (.ref C) c = some b
theorem UAt.noX {w : W} {v : V} {u : U} (h : w.xo = none) (x : UAt G w v u) (o : Option (Addr × Value × Option Addr)) : UAt G ⟨w.S, w.ps, w.L, o⟩ v u := by
  cases u with
  | d x => exact x
  | c k => exact x
  | x e => obtain ⟨a, cls, dd, h1, _⟩ := x; rw [h] at h1; cases h1
theorem clr_at {w : W} {σ : L2.St} {env : EnvU} (h : EnvAt G w σ env) (o : Option (Addr × Value × Option Addr)) : EnvAt G ⟨w.S, w.ps, w.L, o⟩ σ (clr env) := by
  refine ⟨by simp [clr, h.len], fun i u e => ?_⟩
  unfold clr at e
  rw [List.getElem?_map] at e
  obtain ⟨z, hz, e⟩ := Option.map_eq_some_iff.mp e
  cases z with
  | none => cases e
  | some y =>
    cases y with
    | x _ => cases e
    | d y => cases e; obtain ⟨v, h1, h2⟩ := h.at_ i _ hz; exact ⟨v, h1, h2⟩
    | c y => cases e; obtain ⟨v, h1, h2⟩ := h.at_ i _ hz; exact ⟨v, h1, h2⟩
theorem Good.xo_to {w : W} {st : Sto} {H : Hp} (hg : Good G g w st H) (o : Option (Addr × Value × Option Addr)) : Good G { g with xo := o } ⟨w.S, w.ps, w.L, o⟩ st H :=
  ⟨⟨hg.le.s, hg.le.p⟩, hg.sub, hg.subL, rfl, hg.len, hg.nd, hg.cell, hg.used, hg.frame, hg.newS, hg.newP⟩
theorem ss_tryAs {c : Value} {i : Nat} {body suite : List Stmt} {b₀ : Stmt} {mb ms : MS} {mt : Str → Option Bool} (hgx : g.xo = none) (hs : X.stack = X.env :: X.outer) (hf : X.env.frame = some X.env.locals) (hN : X.N.Nodup) (hi : X.N[i]? = some n) (hln : X.env.kindOf n = some .local) (hc : Names X x c) (tk : Takes X Wx) (hmt : Catch X.K G.cls c mt)
    (hb : ∀ (W' : WX) (pn : List (Addr × Obj)) (xe : Value → Shared → Prop), Takes (X.tr pn xe) W' → PassesOwn (model X.prog X.w) X.A X.env xe → PSs (X.tr pn xe) body (rdS G g W' mb))
    (hsu : ∀ (a : Addr) (oe : Obj) (cls : Value) (d : Option Addr) (pn : List (Addr × Obj)), Zc cls d oe → (∃ vs, oe.data = .fields vs) → PSs (X.suite a ((a, oe) :: pn)) (b₀ :: suite) (rdS G { g with xo := some (a, cls, d) } WF ms)) :
    PS X (.Try body [.ExceptHandler (some (.Name x np)) (some n) (b₀ :: suite) pos'] [] [] pos) (rdS G g Wx (sTryAs mt i mb ms)) := by
  refine PS.imp (ps_try_as (ts := fun a cls d => rdS G { g with xo := some (a, cls, d) } WF ms) hs hf hN hi hln hc tk hb hsu) fun D σ H ⟨w, env, st, hg, he, q⟩ => ⟨w, env, st, hg, he, ?_⟩
  have q : OkS G g Wx w (sTryAs mt i mb ms env st) D := q
  unfold sTryAs at q
  cases r : mb env st with
  | nx e s => rw [r] at q; exact q
  | rt e s => rw [r] at q; exact q
  | bk e s => rw [r] at q; exact q
  | ct e s => rw [r] at q; exact q
  | bad => rw [r] at q; exact q
  | exc xc e1 st1 =>
    rw [r] at q
    simp only at q
    intro w1 σ1 H1 cls dd l1 g1 en1 x1
    have wx : w1.xo = none := g1.xo.trans hgx
    obtain ⟨C, hC, rfl, hfs⟩ := id x1
    cases em : mt xc.c with
    | none => simp only [em] at q; exact (show False from q).elim
    | some b =>
      refine ⟨b, hmt _ _ _ hC em, fun hbt a ha => ?_, fun hbf => ?_⟩
      · subst hbt
        simp only [em] at q
        have g2 := g1.xo_to (some (a, Value.ref C, dd))
        have en2 : EnvAt G ⟨w1.S, w1.ps, w1.L, some (a, Value.ref C, dd)⟩ (σ1.set i (some (.ref a))) (e1.set i (some (.x xc))) :=
          EnvAt.set (w := ⟨w1.S, w1.ps, w1.L, some (a, Value.ref C, dd)⟩) ⟨en1.len, fun j u e => let ⟨v, h1, h2⟩ := en1.at_ j u e; ⟨v, h1, h2.noX wx _⟩⟩ i (u := .x xc) ⟨a, _, dd, rfl, rfl, x1⟩
        refine ⟨_, _, st1, g2, en2, ?_⟩
        have back : ∀ {w2 : W} {st2 : Sto} {H2 : Hp}, Le ⟨w1.S, w1.ps, w1.L, some (a, Value.ref C, dd)⟩ w2 → Good G { g with xo := some (a, Value.ref C, dd) } w2 st2 H2 → Le w ⟨w2.S, w2.ps, w2.L, none⟩ ∧ Good G g ⟨w2.S, w2.ps, w2.L, none⟩ st2 H2 := fun {w2 st2 H2} l2 g2 => by
          refine ⟨⟨l1.s.trans l2.s, l2.l.trans l1.l, wx.symm.trans l1.o, ?_⟩, ?_⟩
          · obtain ⟨r1, z1⟩ := l1.p
            obtain ⟨r2, z2⟩ := l2.p
            exact ⟨r1 ++ r2, by rw [z2, z1, List.append_assoc]⟩
          · have := g2.xo_to none
            have eg : ({ ({ g with xo := some (a, Value.ref C, dd) } : GI) with xo := none } : GI) = g := by cases g; cases hgx; rfl
            rw [eg] at this
            exact this
        cases r2 : ms (e1.set i (some (.x xc))) st1 with
        | bad => rw [r2] at q; exact q
        | exc z e s => rw [r2] at q; exact (show False from q).elim
        | nx e s => rw [r2] at q; intro w2 σ2 H2 l2 g2 en2; obtain ⟨b1, b2⟩ := back l2 g2; exact q _ _ H2 b1 b2 ((clr_at en2 none).unset i)
        | bk e s => rw [r2] at q; intro w2 σ2 H2 l2 g2 en2; obtain ⟨b1, b2⟩ := back l2 g2; exact q _ _ H2 b1 b2 ((clr_at en2 none).unset i)
        | ct e s => rw [r2] at q; intro w2 σ2 H2 l2 g2 en2; obtain ⟨b1, b2⟩ := back l2 g2; exact q _ _ H2 b1 b2 ((clr_at en2 none).unset i)
        | rt u s =>
          rw [r2] at q
          intro w2 v H2 l2 g2 x2
          obtain ⟨b1, b2⟩ := back l2 g2
          cases u with
          | x z => exact (show False from q).elim
          | d z => exact q _ v H2 b1 b2 x2
          | c z => exact q _ v H2 b1 b2 x2
      · subst hbf
        simp only [em] at q
        exact q w1 σ1 H1 _ dd l1 g1 en1 x1
/-- e.f, e the error that is handled -/
def mXf (i : Nat) (f : Str) : ME := fun env st => match env[i]? with
  | some (some (.x xc)) => (match xc.fs.lookup f with
    | some d => .ok (.d d) st
    | none => .bad)
  | _ => .bad
theorem se_xf {a : Addr} {oe : Obj} {cls : Value} {d : Option Addr} {pn : List (Addr × Obj)} {i : Nat} {f : Str} {cs : List Addr} (hcs : ∀ y C, G.cls y = some C → C ∈ cs) (T : ∀ C ∈ cs, XfC X.K C ∧ PySem.W.findIn X.K (.ref C) f = some none) (hz : Zc cls d oe) (hfs : ∃ vs, oe.data = .fields vs)
    (he : PE (X.suite a ((a, oe) :: pn)) e (tVar i)) (hb : attributeBase e f X.env (eval e X.env) = eval e X.env := by rfl) : PE (X.suite a ((a, oe) :: pn)) (.Attribute e f pos) (rdE G { g with xo := some (a, cls, d) } Wx (mXf i f)) := by
  refine ⟨fun pins s σ H Q I ⟨w, env, st, hg, hen, q⟩ => ?_⟩
  unfold mXf at q
  cases e1 : env[i]? with
  | none => simp only [e1] at q; exact (show False from q).elim
  | some o =>
    cases o with
    | none => simp only [e1] at q; exact (show False from q).elim
    | some u =>
      cases u with
      | d z => simp only [e1] at q; exact (show False from q).elim
      | c z => simp only [e1] at q; exact (show False from q).elim
      | x xc =>
        simp only [e1] at q
        cases e2 : xc.fs.lookup f with
        | none => simp only [e2] at q; exact (show False from q).elim
        | some dv =>
          simp only [e2] at q
          obtain ⟨v, hv, a', cls', d', ho, rfl, C, hC, hcl, hfl⟩ := hen.at_ i _ e1
          have hxo := hg.xo
          rw [ho] at hxo
          cases hxo
          subst hcl
          obtain ⟨t1, t2⟩ := T C (hcs _ _ hC)
          refine (pe_xf t1 t2 hz hfs he hb).run pins s σ H Q I ⟨.ref a, hv, rfl, rfl, ?_⟩
          rcases hfl with ⟨h1, _⟩ | ⟨dx, gs, rfl, h2, h3⟩
          · rw [h1] at e2; cases e2
          · obtain ⟨y, h4, h5⟩ := h3.look e2
            exact ⟨dx, gs, y, rfl, hg.sub _ _ h2, h4, q w y H (Le.refl _) hg h5⟩
end
end LV

/-! LVv -/
set_option Elab.async false
set_option linter.all false
set_option maxRecDepth 100000
set_option maxHeartbeats 2000000
/-! LVv: list(..), isinstance, startswith, get, globals, the __init__ of an error, tidying. -/
namespace LV
open PySem PySem.Spec PyProof.Rows SeqAt L2
section
variable {X : Cx} {G : GE} {g : GI} {Wx : WX} {pos p q apos cpos : Pos} {a b e o : Expr} {es : List Expr} {x : Str}
/-! ### list(..) -/
def fList : List D → Option (List D)
  | [.str x] => if x.length ≤ sizeL then some (x.map fun c => .str [c]) else none
  | [.lst ds] => some ds
  | [.lsx ds] => some ds
  | [.tup ds] => some ds
  | _ => none
theorem DAts.signs {S : Hp} : ∀ {x : List Nat}, DAts G S (x.map fun c => V.str ⟨#[c]⟩) (x.map fun c => D.str [c])
  | [] => .nil
  | _ :: _ => .cons rfl DAts.signs
theorem fList_serve (hK : X.K = G.K) (hc : X.calm = true) : ∃ r, CallR X (.type "list") r ∧ SrvL G r fList := by
  refine ⟨fun xs H Q => (∃ z : List Nat, xs = [.str (S2 z)] ∧ z.length ≤ sizeLine ∧ ∀ l, H l = none → Q (.ref l) (upd H l (.lst (z.map fun c => V.str ⟨#[c]⟩)))) ∨
      (∃ p ys, xs = [.ref p] ∧ (SqL X.K H p ys ∨ SqT X.K H p ys) ∧ ∀ l, H l = none → Q (.ref l) (upd H l (.lst ys))), fun pins s σ H xs us Q I r h => ?_, ?_⟩
  · rcases h with ⟨z, rfl, hz, h⟩ | h
    · obtain ⟨u, rfl, t, rfl⟩ := vals1 r
      refine call_list_str (I.ok.hd hc) (S2 z) t (hn := by simpa using hz) fun h' tk acc' c' hk hS' hacc => ?_
      have hv : Vals (z.map fun c => V.str ⟨#[c]⟩) acc'.toList := by
        refine vals_of_idx _ _ (by simpa using hacc.1) fun j v hj => ?_
        obtain ⟨c, t', hc', rfl⟩ := hacc.2 j v (by rw [← Array.getElem?_toList]; exact hj)
        have hc2 : z[j]? = some c := by simpa using hc'
        exact ⟨.str ⟨#[c]⟩, by rw [List.getElem?_map, hc2]; rfl, t', rfl⟩
      exact ⟨.ref s.heap.objs.size, _, I.laid (t' := tk) hk (Nat.le_refl _) (show ObjOk X.prog X.w _ _ _ (.lst (z.map fun c => V.str ⟨#[c]⟩)) from ⟨by rw [List.length_map]; exact hz, acc'.toList, c', hv, by rw [Array.toArray_toList]; exact hS'⟩), rfl, h _ (I.hok.fresh (Nat.le_refl _))⟩
    · exact call_list_of pins s σ H xs us Q I r h
  · intro S H vs ds d Q e hv hd hf
    unfold fList at hd
    split at hd
    · rename_i z
      split at hd
      · rename_i hl
        cases hd
        obtain ⟨v, rfl, h⟩ := hv.one
        cases (show v = V.str (S2 z) from h)
        exact .inl ⟨z, rfl, by rw [sizeL_eq]; exact hl, fun l hl => hf l _ hl DAts.signs⟩
      · cases hd
    · cases hd
      obtain ⟨v, rfl, a, vs, rfl, h1, h2⟩ := hv.one
      exact .inr ⟨a, vs, rfl, .inl (SqL.of h1), fun l hl => hf l _ hl h2⟩
    · cases hd
      obtain ⟨v, rfl, a, vs, rfl, h1, h2⟩ := hv.one
      exact .inr ⟨a, vs, rfl, .inl (by rw [hK]; exact h1), fun l hl => hf l _ hl h2⟩
    · cases hd
      obtain ⟨v, rfl, a, vs, rfl, h1, h2⟩ := hv.one
      exact .inr ⟨a, vs, rfl, .inr (by rw [hK]; exact Ex.st e (SqT.of h1)), fun l hl => hf l _ hl h2⟩
    · cases hd
/-! ### isinstance(x, T), T a built-in type -/
def tyD : D → Option String
  | .non => some "NoneType"
  | .bl _ => some "bool"
  | .int _ => some "int"
  | .str _ => some "str"
  | .tup _ => some "tuple"
  | .lst _ => some "list"
  | .lsx _ => some "list"
  | .dic _ => some "dict"
  | _ => none
def isB (t T : String) : Bool := t == T || (t == "bool" && T == "int")
theorem kit_tt (K : PySem.W.Frag) {t T : String} (ht : t ∈ ["NoneType", "bool", "int", "str", "tuple", "list", "dict"]) (hT : T ∈ ["bool", "int", "str", "tuple", "list", "dict"]) : PySem.W.kitOne K (.type t) (.type T) = some (isB t T) := by
  simp only [List.mem_cons, List.not_mem_nil, or_false] at ht hT
  rcases ht with rfl | rfl | rfl | rfl | rfl | rfl | rfl <;> rcases hT with rfl | rfl | rfl | rfl | rfl | rfl <;> kernel_rfl
theorem kit_D {pins : List (Addr × Obj)} {σ : L2.St} {H S : Hp} {s : Shared} (I : Inv X pins σ H s) (hK : X.K = G.K) (ex : Ex S H) {v : V} {u : Value} {d : D} {t : String} (h : VAt G S H v d) (r : RelV v u) (e : tyD d = some t) : ∃ P : Heap → Prop, PySem.W.KitX X.K u (.type t) P ∧ P s.heap ∧ u ≠ .builtin "__main__.__loader__#opaque" := by
  cases d with
  | non => cases e; cases (show v = V.non from h); exact kit_of I r (.base .non)
  | bl b => cases e; cases (show v = V.bl b from h); exact kit_of I r (.base (.bl b))
  | int b => cases e; cases (show v = V.int b from h); exact kit_of I r (.base (.int b))
  | str b => cases e; cases (show v = V.str (S2 b) from h); exact kit_of I r (.base (.str _))
  | tup ds =>
    cases e
    obtain ⟨a, vs, rfl, h1, h2⟩ := h
    exact kit_of I r (.base (.tup (ex _ _ h1)))
  | lst ds =>
    cases e
    obtain ⟨a, vs, rfl, h1, h2⟩ := h
    exact kit_of I r (.base (.lst h1))
  | lsx ds =>
    cases e
    obtain ⟨a, vs, rfl, h1, h2⟩ := h
    rcases h1 with (h1 | ⟨ob, h1⟩) | ⟨ob, its, n, h1, h3, _⟩
    · exact kit_of I r (.base (.lst h1))
    · exact kit_of I r (.base (.frz h1))
    · exact kit_of I r (.kList (by rw [hK]; exact h1) h3)
  | dic ds =>
    cases e
    obtain ⟨a, en, rfl, h1, h2⟩ := h
    obtain ⟨⟨z, hs, nd, ys, pr, ob, dt, ep, k1, k2, _⟩, _, _⟩ := rd_of I.hok h1
    cases (show u = Value.ref a from r)
    exact ⟨_, PySem.W.kitx_dict, ⟨ob, k1, k2.1⟩, fun z => nomatch z⟩
  | _ => cases e
def mIsi (T : String) (m : ME) : ME := fun env st => (m env st).bind fun u st1 => match get st1 u with
  | some d => (match tyD d with
    | some t => .ok (.d (.bl (isB t T))) st1
    | none => .bad)
  | none => .bad
theorem tyD_mem {d : D} {t : String} (h : tyD d = some t) : t ∈ ["NoneType", "bool", "int", "str", "tuple", "list", "dict"] := by
  cases d <;> simp only [tyD, Option.some.injEq, reduceCtorEq] at h <;> subst h <;> decide
theorem se_isi {m : ME} {T : String} {tn : Str} (hK : X.K = G.K) (hT : T ∈ ["bool", "int", "str", "tuple", "list", "dict"]) (hg : Gl X "isinstance") (hm : X.mg "isinstance" = none) (hgT : Gl X tn) (hmT : X.mg tn = none) (hvT : bootBuiltins tn = some (.type T)) (hnT : tn ≠ "__name__" := by decide) (hdT : (tn == ("__debug__" : Str)) = false := by decide)
    (ha : PE X a (rdE G g Wx m)) (hv : bootBuiltins "isinstance" = some (.builtin "isinstance") := by first | rfl | decide +kernel) (he : starEach [a, .Name tn q] X.env = (false, eval a X.env) :: starEach [.Name tn q] X.env := by rfl) (he2 : starEach [.Name tn q] X.env = [(false, eval (.Name tn q) X.env)] := by rfl) (hpl : (backTo pos (starEach [.Name tn q] X.env)).any (·.1) = false := by rfl) :
    PE X (.Call (.Name "isinstance" p) [a, .Name tn q] [] pos) (rdE G g Wx (mIsi T m)) := by
  have hr : CallR X (.builtin "isinstance") (fun xs H Q => ∃ S v d t, xs = [v, .ty T] ∧ Ex S H ∧ VAt G S H v d ∧ tyD d = some t ∧ Q (.bl (isB t T)) H) := by
    intro pins s σ H xs us Q I r h
    obtain ⟨S, v, d, t, rfl, ex, hv, ht, q⟩ := h
    obtain ⟨u1, u2, rfl, r1, r2⟩ := vals2 r
    cases (show u2 = Value.type T from r2)
    obtain ⟨P, Z, pp, hx⟩ := kit_D I hK ex hv r1 ht
    exact PySem.W.kia_one Z I.kIn pp (kit_tt _ (tyD_mem ht) hT) hx fun tk => ⟨.bl _, H, I.tok tk, rfl, q⟩
  refine PE.imp (pe_callB hr hg hm hv (pa_cons ha (pa_cons (pe_bltn (v := .ty T) hgT hmT hvT rfl hnT hdT) pa_nil he2) he) (by decide) (by decide) he hpl) fun σ H Q ⟨w, env, st, hg', hen, q⟩ => ?_
  refine ⟨w, env, st, hg', hen, Ok.bind q fun u st1 w1 v H1 l1 g1 x1 q1 => ?_⟩
  cases e1 : get st1 u with
  | none => simp only [e1] at q1; exact (show False from q1).elim
  | some d =>
    simp only [e1] at q1
    cases e2 : tyD d with
    | none => simp only [e2] at q1; exact (show False from q1).elim
    | some t =>
      simp only [e2] at q1
      exact ⟨w1.S, v, d, t, rfl, g1.sub, g1.view x1 e1, e2, q1 w1 _ H1 (Le.refl _) g1 rfl⟩
/-! ### a global -/
theorem se_glob {u : Value} {d : D} {v : V} (hg : Gl X x) (hm : X.mg x = some u) (r : RelV v u) (hd : ∀ S, DAt G S v d) (hdb : (x == ("__debug__" : Str)) = false := by decide) : PE X (.Name x pos) (rdE G g Wx (mC d)) := se_c (pe_glob hg hm r hdb) hd
/-! ### cells made in a block are let go behind it -/
def cutE (n : Nat) (env : EnvU) : EnvU := env.map fun o => match o with
  | some (.c k) => if k < n then some (.c k) else none
  | o => o
def tidy (n : Nat) : RS → RS
  | .nx e s => .nx (cutE n e) (s.take n)
  | .bk e s => .bk (cutE n e) (s.take n)
  | .ct e s => .ct (cutE n e) (s.take n)
  | r => r
def sTidy (m : MS) : MS := fun env st => tidy st.length (m env st)
theorem cut_at {w : W} {σ : L2.St} {env : EnvU} (n : Nat) (h : EnvAt G w σ env) : EnvAt G ⟨w.S, w.ps.take n, w.L, w.xo⟩ σ (cutE n env) := by
  refine ⟨by simp [cutE, h.len], fun i u e => ?_⟩
  unfold cutE at e
  rw [List.getElem?_map] at e
  obtain ⟨z, hz, e⟩ := Option.map_eq_some_iff.mp e
  cases z with
  | none => cases e
  | some y =>
    cases y with
    | x _ => cases e; obtain ⟨v, h1, h2⟩ := h.at_ i _ hz; exact ⟨v, h1, h2⟩
    | d y => cases e; obtain ⟨v, h1, h2⟩ := h.at_ i _ hz; exact ⟨v, h1, h2⟩
    | c k =>
      simp only at e
      split at e
      · rename_i hk
        cases e
        obtain ⟨v, h1, r, h2, h3⟩ := h.at_ i _ hz
        exact ⟨v, h1, r, by show (w.ps.take n)[k]? = _; rw [List.getElem?_take, if_pos hk]; exact h2, h3⟩
      · cases e
theorem sss_tidy {ss : List Stmt} {m : MS} (h : PSs X ss (rdS G g Wx m)) : PSs X ss (rdS G g Wx (sTidy m)) := PSs.imp h fun D σ H ⟨w, env, st, hg, he, q⟩ => by
  refine ⟨w, env, st, hg, he, ?_⟩
  have q : OkS G g Wx w (tidy st.length (m env st)) D := q
  have back : ∀ {w' : W} {s' : Sto} {H' : Hp}, Le w w' → Good G g w' s' H' → Le w ⟨w'.S, w'.ps.take st.length, w'.L, w'.xo⟩ ∧ Good G g ⟨w'.S, w'.ps.take st.length, w'.L, w'.xo⟩ (s'.take st.length) H' := fun {w' s' H'} l g' => by
    obtain ⟨r, er⟩ := l.p
    have hl : g.w0.ps.length ≤ st.length := by
      obtain ⟨r', e'⟩ := hg.le.p
      rw [← hg.len, e']; simp
    refine ⟨⟨l.s, l.l, l.o, [], ?_⟩, g'.drop hl⟩
    show w'.ps.take st.length = _
    rw [er, ← hg.len]; simp
  cases r : m env st with
  | nx e s => rw [r] at q; intro w' σ' H' l g' en; obtain ⟨b1, b2⟩ := back l g'; exact q _ σ' H' b1 b2 (cut_at _ en)
  | bk e s => rw [r] at q; intro w' σ' H' l g' en; obtain ⟨b1, b2⟩ := back l g'; exact q _ σ' H' b1 b2 (cut_at _ en)
  | ct e s => rw [r] at q; intro w' σ' H' l g' en; obtain ⟨b1, b2⟩ := back l g'; exact q _ σ' H' b1 b2 (cut_at _ en)
  | rt u s => rw [r] at q; exact q
  | exc z e s => rw [r] at q; exact q
  | bad => rw [r] at q; exact q
end
end LV

/-! LVw -/
set_option Elab.async false
set_option linter.all false
set_option maxRecDepth 100000
set_option maxHeartbeats 2000000
/-! LVw: a, b = x, y; name op= e; startswith; d.get(k, x); list(d.values()); the __init__ of an error. -/
namespace LV
open PySem PySem.Spec PyProof.Rows SeqAt L2
section
variable {X : Cx} {G : GE} {g : GI} {Wx : WX} {pos p q apos cpos pos' : Pos} {a b e f o : Expr} {es : List Expr} {x y : Str}
/-! ### a, b = e, f with plain names -/
def sPar (i j : Nat) (r : MA) : MS := fun env st => (r env st).thenS env fun us st1 => match us with
  | [u, v] => .nx ((env.set i (some u)).set j (some v)) st1
  | _ => .bad
theorem ss_par {i j : Nat} {px py pt : Pos} {kt k2 pt2} {r : MA} (hc : X.calm = true) (hN : X.N.Nodup) (hi : X.N[i]? = some x) (hj : X.N[j]? = some y) (hij : i ≠ j) (hx : X.env.scope.names.lookup x = some .local) (hy : X.env.scope.names.lookup y = some .local) (ha : PA X [a, b] (rdA G g Wx r))
    (hw : swappedStores [.Tuple [.Name x px, .Name y py] kt pt] (.Tuple [a, b] k2 pt2) X.env = pure (some [x, y]))
    (hs : swapsWithSole [.Tuple [.Name x px, .Name y py] kt pt] (.Tuple [a, b] k2 pt2) pos.line X.env = pure false := by rfl) :
    PS X (.Assign [.Tuple [.Name x px, .Name y py] kt pt] (.Tuple [a, b] k2 pt2) pos) (rdS G g Wx (sPar i j r)) :=
  PS.imp (ps_par hc hN hi hj hij hx hy ha hw hs) fun D σ H ⟨w, env, st, hg, he, q⟩ => by
    refine ⟨w, env, st, hg, he, Ok.thenS he q fun us st1 w1 vs H1 l1 g1 e1 x1 q1 => ?_⟩
    split at q1
    · cases x1 with
      | cons y1 y2 =>
        cases y2 with
        | cons y2 y3 =>
          cases y3
          exact ⟨_, _, rfl, q1 w1 _ H1 (Le.refl _) g1 ((e1.set i y1).set j y2)⟩
    · exact (show False from q1).elim
/-! ### name op= e -/
def sAug (i : Nat) (om : O2) (m : ME) : MS := fun env st => match env[i]? with
  | some (some u) => (m env st).thenS env fun v st1 => (om u v st1).thenS env fun z st2 => .nx (env.set i (some z)) st2
  | _ => .bad
theorem ss_aug {i : Nat} {r : R2} {om : O2} {op : Operator} {m : ME} (s : Srv2 G g Wx r om) (hN : X.N.Nodup) (hi : X.N[i]? = some x) (hx : Loc X.env.scope x) (he : PE X e (rdE G g Wx m)) (ho : OpR X (inplaceOp op) r) (hf : X.fn x = true ∨ X.env.scope.names.lookup x = some .local := by first | exact .inl rfl | exact .inr rfl | assumption) :
    PS X (.AugAssign (.Name x pos') op e pos) (rdS G g Wx (sAug i om m)) :=
  PS.imp (ps_aug (ti := r) hN hi hx he (fun pins s σ H x y v u Q I r1 r2 h => ho pins s σ H x y v u Q I r1 r2 h) hf) fun D σ H ⟨w, env, st, hg, hen, q⟩ => by
    unfold sAug at q
    cases e0 : env[i]? with
    | none => simp only [e0] at q; exact (show False from q).elim
    | some o =>
      cases o with
      | none => simp only [e0] at q; exact (show False from q).elim
      | some u =>
        simp only [e0] at q
        obtain ⟨v, hv, xu⟩ := hen.at_ i u e0
        refine ⟨v, hv, w, env, st, hg, hen, Ok.thenS hen q fun z st1 w1 y H1 l1 g1 e1 x1 q1 => ?_⟩
        refine s w1 σ st1 H1 u z v y _ g1 (xu.mono l1) x1 (Ok.thenS e1 q1 fun z2 st2 w2 y2 H2 l2 g2 e2 x2 q2 => ?_)
        exact q2 w2 _ H2 (Le.refl _) g2 (e2.set i x2)
def iI (f : Int → Int → Int) : OD := fun a b => match a, b with
  | .int i, .int j => some (.int (f i j))
  | _, _ => none
theorem iI_serve {f : Int → Int → Int} : SrvD G (rI0 fun i j => .int (f i j)) (iI f) := by
  intro S H x y v u d Q e hx hy h k
  unfold iI at h
  split at h
  · cases h
    exact ⟨_, _, hx, hy, k.int e⟩
  · cases h
theorem dIAdd_serve : ∃ r, OpR X (inplaceOp .Add) r ∧ SrvD G r (iI fun i j => i + j) := ⟨_, iop_add, iI_serve⟩
theorem dISub_serve : ∃ r, OpR X (inplaceOp .Sub) r ∧ SrvD G r (iI fun i j => i - j) := ⟨_, iop_sub, iI_serve⟩
/-! ### s.startswith(t) -/
def oSw : OM := fun u us st => match get st u, us with
  | some (.str s), [.d (.str t)] => .ok (.d (.bl (t.isPrefixOf s))) st
  | _, _ => .bad
theorem sw_S2 (s t : List Nat) : Txt.startswith (S2 s) (S2 t) = t.isPrefixOf s := by
  unfold Txt.startswith
  rw [StrLaws.subAt_eq]
  have h1 : (S2 t).cps.toList = t := rfl
  have h2 : (S2 s).cps.toList = s := rfl
  rw [h1, h2, S2_len, S2_len, List.drop_zero]
  by_cases h : t <+: s
  · obtain ⟨r, rfl⟩ := h
    have : t.isPrefixOf (t ++ r) = true := List.isPrefixOf_iff_prefix.mpr ⟨r, rfl⟩
    rw [this]; simp
  · have e2 : t.isPrefixOf s = false := by
      cases q : t.isPrefixOf s with
      | false => rfl
      | true => exact absurd (List.isPrefixOf_iff_prefix.mp q) h
    rw [e2, Bool.and_eq_false_iff]
    refine .inr ?_
    rw [beq_eq_false_iff_ne]
    intro z
    exact h ⟨s.drop t.length, by conv => lhs; lhs; rw [← z]
                                 exact List.take_append_drop _ _⟩
theorem oSw_serve : SrvM G g Wx (fun x xs H Q => ∃ a b, x = .str a ∧ xs = [.str b] ∧ Q (.bl (Txt.startswith a b)) H) oSw := by
  intro w σ st H u us v vs Q hg hu hv h
  unfold oSw at h
  cases e1 : get st u with
  | none => simp only [e1] at h; exact (show False from h).elim
  | some d =>
    cases d with
    | str s =>
      have ev := hg.view hu e1
      simp only [e1] at h
      split at h
      · rename_i s' t e2
        cases e2
        cases (show v = V.str (S2 s) from ev)
        cases hv with
        | cons y1 y2 =>
          cases y2
          cases (show _ = V.str (S2 t) from y1)
          exact ⟨S2 s, S2 t, rfl, rfl, by rw [sw_S2]; exact h w _ H (Le.refl _) hg rfl⟩
      · exact (show False from h).elim
    | _ => simp only [e1] at h; exact (show False from h).elim
/-! ### d.get(k, x) -/
def getDK (d k z : D) : Option D := match d with
  | .dic kvs => (nq k).map fun n => (lookD kvs n).getD z
  | _ => none
def mGet2 (md mk mz : ME) : ME := fun env st => (md env st).bind fun u st1 => match get st1 u with
  | some (.dic _) => (mk env st1).bind fun v st2 => (mz env st2).bind fun z st3 => match get st3 u, get st3 v, z with
    | some d, some k, .d z => (match getDK d k z with
      | some r => .ok (.d r) st3
      | none => .bad)
    | _, _, _ => .bad
  | _ => .bad
theorem se_get2 {md mk mz : ME} (hK : X.K = G.K) (hw : X.w = G.w) (hu : X.A.units + 64 < cLine) (ho : PE X o (rdE G g Wx md)) (he : PE X e (rdE G g Wx mk)) (hf : PE X f (rdE G g Wx mz)) (m : M2 X o "get" apos e f cpos) :
    PE X (.Call (.Attribute o "get" apos) [e, f] [] cpos) (rdE G g Wx (mGet2 md mk mz)) := by
  refine ⟨fun pins s σ H Q I ⟨w, env, st, hg, hen, q⟩ => wpAny_Call_method m.base m.few m.line PySem.F.plainAttrs_dict PySem.F.slot_dict_get PySem.F.type_dict_get ?_⟩
  have q0 : rdE G g Wx md σ H fun x H1 => ∃ S kvs, Ex S H1 ∧ VAt G S H1 x (.dic kvs) ∧ rdE G g Wx mk σ H1 fun y H2 => rdE G g Wx mz σ H2 fun z H3 =>
      ∃ S k kvs n v, Ex S H3 ∧ VAt G S H3 x (.dic kvs) ∧ VAt G S H3 y k ∧ nq k = some n ∧ v = (lookD kvs n) ∧ (∀ d, v = some d → ∀ t, DAt G S t d → Q t H3) ∧ (v = none → Q z H3) := by
    refine ⟨w, env, st, hg, hen, Ok.bind q fun u st1 w1 x H1 l1 g1 x1 q1 => ?_⟩
    split at q1
    · rename_i kvs0 e0
      refine ⟨w1.S, kvs0, g1.sub, g1.view x1 e0, w1, env, st1, g1, hen.mono l1, Ok.bind q1 fun v st2 w2 y H2 l2 g2 x2 q2 => ⟨w2, env, st2, g2, (hen.mono l1).mono l2, Ok.bind q2 fun z st3 w3 t H3 l3 g3 x3 q3 => ?_⟩⟩
      split at q3
      · rename_i d k z e1 e2
        split at q3
        · rename_i r e3
          unfold getDK at e3
          split at e3
          · rename_i kvs
            obtain ⟨n, hn, e4⟩ := Option.map_eq_some_iff.mp e3
            refine ⟨w3.S, k, kvs, n, _, g3.sub, g3.view ((x1.mono l2).mono l3) e1, g3.view (x2.mono l3) e2, hn, rfl, fun d hd t ht => ?_, fun hd => ?_⟩
            · rw [hd] at e4
              cases e4
              exact q3 w3 t H3 (Le.refl _) g3 ht
            · rw [hd] at e4
              cases e4
              exact q3 w3 t H3 (Le.refl _) g3 x3
          · cases e3
        · exact (show False from q3).elim
      · exact (show False from q3).elim
    · exact (show False from q1).elim
  refine thn (ho.run pins s σ H _ I q0) fun u s1 ⟨x, H1, I1, rx, S, kvs, ex, hv, q1⟩ => ?_
  have hv0 := hv
  obtain ⟨r, en, rfl, h3, h4⟩ := hv
  obtain rfl : u = Value.ref r := rx
  obtain ⟨ys, pr, dc, ok, z, zl, hs⟩ := dc_of I1 hK hw ex h3 h4
  refine ⟨dc.typeIs, fun b q => by cases q; obtain ⟨ob, _, _, k1, k2, _⟩ := dc; exact ⟨ob, k1, k2.2.1⟩, ?_⟩
  rw [m.trees]
  refine Calls.callWith_builtin rfl (Calls.evalArgs_plain (Calls.spliced_cons (thn (he.run pins s1 σ H1 _ I1 q1) fun iv s2 ⟨y, H2, I2, ry, q2⟩ =>
    Calls.spliced_cons (thn (hf.run pins s2 σ H2 _ I2 q2) fun fv s3 ⟨zv, H3, I3, rz, S, k, kvs, n, v, ex, ⟨r', en, er, h5, h6⟩, hy, hn, ev, qs, qn⟩ => Calls.spliced_nil ?_))))
  cases er
  obtain ⟨ys, pr, dc, ok, z, zl, hs⟩ := dc_of I3 hK hw ex h5 h6
  obtain ⟨k1, k2⟩ := nested_k I3 hK ex hy hn ry
  refine o_get2 (eu9 hu) k1 k2 hs dc ok fun t => ?_
  cases el : lookD kvs n with
  | some d =>
    obtain ⟨v', u', e1, e2, e3⟩ := look_some h6 pr el
    rw [e1]
    exact ⟨v', H3, I3.tok t, e2, qs d (ev.trans el) v' e3⟩
  | none =>
    rw [look_none h6 pr el]
    exact ⟨zv, H3, I3.tok t, rz, qn (ev.trans el)⟩
end
end LV

/-! LVx -/
set_option Elab.async false
set_option linter.all false
set_option maxRecDepth 100000
set_option maxHeartbeats 2000000
/-! LVx: list(d.values()); the __init__ of an error. -/
namespace LV
open PySem PySem.Spec PyProof.Rows SeqAt L2
section
variable {X : Cx} {G : GE} {g : GI} {Wx : WX} {pos p q apos cpos pos' : Pos} {a b e f o : Expr} {es : List Expr} {x y : Str}
def nLv (f : D × D → D) (m : ME) : MN := fun env st => (m env st).bind fun u st1 => match get st1 u with
  | some (.dic kvs) => .ok (.lst (kvs.map f)) st1
  | _ => .bad
theorem snds {S : Hp} : ∀ {kvs : List (D × D)} {en : List Ent}, DKs G S en kvs → DAts G S (en.map fun y => y.2.2) (kvs.map Prod.snd)
  | [], en, h => by unfold DKs at h; subst h; exact .nil
  | (k, d) :: r, en, h => by
    unfold DKs at h
    obtain ⟨n, kv, v, t, rfl, h1, h2, h3, h4⟩ := h
    exact .cons h3 (snds h4)
theorem se_lvals {m : ME} (hK : X.K = G.K) (hw : X.w = G.w) (hc : X.calm = true) (he : PE X e (rdE G g Wx m)) (hg : Gl X "list") (hm : X.mg "list" = none) (hv : bootBuiltins "list" = some (.type "list") := by first | rfl | decide +kernel) (hbase : attributeBase e "values" X.env (eval e X.env) = eval e X.env := by rfl)
    (hline : (apos.endLine == cpos.line) = true := by rfl) (hs : starEach [.Call (.Attribute e "values" apos) [] [] cpos] X.env = (false, eval (.Call (.Attribute e "values" apos) [] [] cpos) X.env) :: starEach [] X.env := by rfl) :
    PE X (.Call (.Name "list" p) [.Call (.Attribute e "values" apos) [] [] cpos] [] pos) (rdN G g Wx (nLv Prod.snd m)) := by
  refine ⟨fun pins s σ H Q I ⟨w, env, st, hg', hen, q0⟩ => wpAny_Call_Name_kw (ld_blt I hg hm hv ?_)⟩
  have q1 : rdE G g Wx m σ H fun x H1 => ∃ S kvs, Ex S H1 ∧ VAt G S H1 x (.dic kvs) ∧ FinL G S H1 (kvs.map Prod.snd) Q := by
    refine ⟨w, env, st, hg', hen, Ok.bind q0 fun u st1 w1 v H1 l1 g1 x1 q1 => ?_⟩
    split at q1
    · rename_i kvs e1
      exact ⟨w1.S, kvs, g1.sub, g1.view x1 e1, Ok.finL g1 q1⟩
    · exact (show False from q1).elim
  refine PyProof.Rows.callWith_type1 ?_ hs rfl
  rw [hs]
  refine Calls.spliced_cons (rest := backTo pos (starEach [] X.env)) ?_
  refine wpAny_Call_method (T := "dict") (id := "dict.values") hbase rfl hline PySem.F.plainAttrs_dict PySem.F.slot_dict_values PySem.F.type_dict_values (thn (he.run pins s σ H _ I q1) fun u s1 ⟨x, H1, I1, rx, S, kvs, ex, ⟨d, en, ed, h3, h4⟩, fin⟩ => ?_)
  subst ed
  obtain rfl : u = Value.ref d := rx
  obtain ⟨ys, pr, ⟨ob, dt, ep, k1, k2, k3, k4⟩, ok, z, zl, sm⟩ := dc_of I1 hK hw ex h3 h4
  have raw : s1.heap.DictRaw d dt ep := ⟨ob, k1, k2, k3⟩
  have dsz : dt.size = en.length := by rw [← Array.length_toList, k4, List.length_map, zl]
  refine ⟨raw.typeIs, fun b q => by cases q; exact ⟨ob, k1, k2.2.1⟩, ?_⟩
  have I2 : Inv X pins σ H1 { s1 with heap := s1.heap.push { cls := .type "dict_values", data := .fields #[.ref d] } } := I1.kept (t' := s1.toks) fun b ob q => Heap.get?_push_of_some _ q
  show wpAny _ _ (callWith cpos (.builtin "dict.values") [.ref d] [] []) _ X.xe s1
  refine method_meetsIn PySem.F.slot_dict_values PySem.F.entry_dict_values rfl (PySem.evalArgs_none ⟨rfl, raw.typeIs, PySem.F.args_dict_values_1 _, _, meets_dict_values_raw d sm, ⟨dt, ep, raw⟩, ?_⟩)
  refine Calls.spliced_nil ?_
  refine PySem.W.kdl_call (KdlSrc.rawValues (d := d) (es := dt) (ep := ep)) (I1.ok.hd hc) ⟨⟨_, Heap.get?_push_size _ rfl, rfl, rfl⟩, raw.at fun o q => Heap.get?_push_of_some _ q⟩ (by omega) fun h' tk acc c hk hS hacc => ?_
  have vals : Vals (en.map fun y => y.2.2) acc.toList := by
    refine vals_of_idx _ _ (by rw [Array.length_toList, hacc.1, dsz, List.length_map]) fun j v hj => ?_
    obtain ⟨hi, rfl⟩ := hacc.2 j v (by rw [← Array.getElem?_toList]; exact hj)
    have hj2 : j < en.length := by rw [← dsz]; exact hi
    obtain ⟨zz, hz, r1, r2⟩ := ent_at pr k4 (List.getElem?_eq_getElem hj2)
    rw [Array.getElem?_eq_getElem hi] at hz
    cases hz
    exact ⟨_, by rw [List.getElem?_map, List.getElem?_eq_getElem hj2]; rfl, r2⟩
  exact ⟨.ref _, _, I2.laid (t' := tk) hk (Nat.le_refl _) (show ObjOk X.prog X.w _ _ _ (.lst (en.map fun y => y.2.2)) from ⟨by rw [List.length_map]; exact z, acc.toList, c, vals, by rw [Array.toArray_toList]; exact hS⟩), rfl, fin _ _ (I2.hok.fresh (Nat.le_refl _)) (snds h4)⟩
end
/-! ### def __init__(self, f): self.f = f, of an error -/
theorem init_err {P : Program} {w : World} {K : PySem.W.Frag} {mg : Str → Option Value} {base : Heap} {qual : Str} {st : Stmt} {f : Addr} {fd : FuncData} {k : Nat} {n0 n1 fn : Str} {p0 p1 p2 pos : Pos} (F : Fun K "__init__" qual st f fd) (S : FnScope [n0, n1] [n0, n1] (defScope st))
    (hb : defBody st = [.Assign [.Attribute (.Name n0 p0) fn p1] (.Name n1 p2) pos]) (v0 : (defScope st).names.lookup n0 = some .local) (v1 : (defScope st).names.lookup n1 = some .local)
    (d0 : (n0 == ("__debug__" : Str)) = false := by decide) (c0 : (n0 == ("__classdict__" : Str)) = false := by decide) (d1 : (n1 == ("__debug__" : Str)) = false := by decide) (c1 : (n1 == ("__classdict__" : Str)) = false := by decide) :
    FnOk P w K mg base (L2.CX P w) (k + 1) f fd [n0, n1] (spI K fn) := by
  refine F.okX S (fun vs H Q E h => ?_) (fun cdv A outer s H vs Q E hr h => ?_)
  · obtain ⟨a, C, v, rfl, _⟩ := h; rfl
  · obtain ⟨a, C, v, rfl, T, hf, ha, q⟩ := h
    rw [hb]
    refine ⟨_, pss_one (ps_ost (pe_var (i := 0) rfl (.inl v0) d0 c0) (pe_var (i := 1) rfl (.inl v1) d1 c1)), ?_⟩
    exact ⟨v, rfl, .ref a, rfl, a, C, rfl, T, hf, .inl ⟨ha, fun dx hdx ne => q dx hdx ne⟩⟩
end LV

/-! LVy -/
set_option Elab.async false
set_option linter.all false
set_option maxRecDepth 100000
set_option maxHeartbeats 2000000
/-! LVy: the layer's words in short. -/
namespace LV
open PySem PySem.Spec PyProof.Rows SeqAt L2
/-- what a frame must tell -/
structure En (X : Cx) (G : GE) : Prop where
  hK : X.K = G.K
  hw : X.w = G.w
  hv : X.A.units + 100 < cLine
  hc : X.calm = true
theorem en_of {X : Cx} {G : GE} {k : Nat} (hr : Room k X.A) (hK : X.K = G.K := by rfl) (hw : X.w = G.w := by rfl) (hc : X.calm = true := by rfl) : En X G := ⟨hK, hw, by have := hr.un; show _ < _; omega, hc⟩
theorem En.hu {X : Cx} {G : GE} (n : En X G) : X.A.units + 64 < cLine := by have := n.hv; omega
theorem En.hu1 {X : Cx} {G : GE} (n : En X G) : X.A.units + 65 < cLine := by have := n.hv; omega
section
variable {X : Cx} {G : GE} {g : GI} {Wx : WX} {pos p apos cpos : Pos} {a b c e : Expr} {es : List Expr} {ma mb mc : ME} {r : MA} {x : Str}
/-! ### the error's field, for classes told by name -/
def mXg (ns : List Str) (i : Nat) (f : Str) : ME := fun env st => match env[i]? with
  | some (some (.x xc)) => if xc.c ∈ ns then (match xc.fs.lookup f with
    | some d => .ok (.d d) st
    | none => .bad) else .bad
  | _ => .bad
theorem se_xg {A : Addr} {oe : Obj} {cls : Value} {d : Option Addr} {pn : List (Addr × Obj)} {i : Nat} {f : Str} {ns : List Str} (T : ∀ y ∈ ns, ∀ C, G.cls y = some C → XfC X.K C ∧ PySem.W.findIn X.K (.ref C) f = some none) (hz : Zc cls d oe) (hfs : ∃ vs, oe.data = .fields vs)
    (he : PE (X.suite A ((A, oe) :: pn)) e (tVar i)) (hb : attributeBase e f X.env (eval e X.env) = eval e X.env := by rfl) : PE (X.suite A ((A, oe) :: pn)) (.Attribute e f pos) (rdE G { g with xo := some (A, cls, d) } Wx (mXg ns i f)) := by
  refine ⟨fun pins s σ H Q I ⟨w, env, st, hg, hen, q⟩ => ?_⟩
  unfold mXg at q
  cases e1 : env[i]? with
  | none => simp only [e1] at q; exact (show False from q).elim
  | some o =>
    cases o with
    | none => simp only [e1] at q; exact (show False from q).elim
    | some u =>
      cases u with
      | d z => simp only [e1] at q; exact (show False from q).elim
      | c z => simp only [e1] at q; exact (show False from q).elim
      | x xc =>
        simp only [e1] at q
        split at q
        · rename_i hmem
          cases e2 : xc.fs.lookup f with
          | none => simp only [e2] at q; exact (show False from q).elim
          | some dv =>
            simp only [e2] at q
            obtain ⟨v, hv, a', cls', d', ho, rfl, C, hC, hcl, hfl⟩ := hen.at_ i _ e1
            have hxo := hg.xo
            rw [ho] at hxo
            cases hxo
            subst hcl
            obtain ⟨t1, t2⟩ := T _ hmem C hC
            refine (pe_xf t1 t2 hz hfs he hb).run pins s σ H Q I ⟨.ref A, hv, rfl, rfl, ?_⟩
            rcases hfl with ⟨h1, _⟩ | ⟨dx, gs, rfl, h2, h3⟩
            · rw [h1] at e2; cases e2
            · obtain ⟨y, h4, h5⟩ := h3.look e2
              exact ⟨dx, gs, y, rfl, hg.sub _ _ h2, h4, q w y H (Le.refl _) hg h5⟩
        · exact (show False from q).elim
/-! ### operations -/
abbrev oL (f : OD) (ma mb : ME) : ME := mB (lift2 f) ma mb
abbrev cL (f : OD) (ma mb : ME) : MT := mF (mB (lift2 f) ma mb)
variable (ha : PE X a (rdE G g Wx ma)) (hb : PE X b (rdE G g Wx mb))
include ha hb
theorem x_add (n : En X G) : PE X (.BinOp a .Add b pos) (rdE G g Wx (oL dAdd ma mb)) := by obtain ⟨r, h1, h2⟩ := dAdd_serve (X := X) n.hK; exact se_op h2.lift h1 ha hb
theorem x_sub : PE X (.BinOp a .Sub b pos) (rdE G g Wx (oL dSub ma mb)) := by obtain ⟨r, h1, h2⟩ := dSub_serve (G := G) (X := X); exact se_op h2.lift h1 ha hb
theorem x_mul : PE X (.BinOp a .Mult b pos) (rdE G g Wx (oL dMul ma mb)) := by obtain ⟨r, h1, h2⟩ := dMul_serve (G := G) (X := X); exact se_op h2.lift h1 ha hb
theorem x_div : PE X (.BinOp a .FloorDiv b pos) (rdE G g Wx (oL dDiv ma mb)) := by obtain ⟨r, h1, h2⟩ := dDiv_serve (G := G) (X := X); exact se_op h2.lift h1 ha hb
theorem x_mod : PE X (.BinOp a .Mod b pos) (rdE G g Wx (oL dMod ma mb)) := by obtain ⟨r, h1, h2⟩ := dMod_serve (G := G) (X := X); exact se_op h2.lift h1 ha hb
theorem x_pow : PE X (.BinOp a .Pow b pos) (rdE G g Wx (oL dPow ma mb)) := by obtain ⟨r, h1, h2⟩ := dPow_serve (G := G) (X := X); exact se_op h2.lift h1 ha hb
theorem x_shl : PE X (.BinOp a .LShift b pos) (rdE G g Wx (oL dShl ma mb)) := by obtain ⟨r, h1, h2⟩ := dShl_serve (G := G) (X := X); exact se_op h2.lift h1 ha hb
theorem x_shr : PE X (.BinOp a .RShift b pos) (rdE G g Wx (oL dShr ma mb)) := by obtain ⟨r, h1, h2⟩ := dShr_serve (G := G) (X := X); exact se_op h2.lift h1 ha hb
theorem x_and : PE X (.BinOp a .BitAnd b pos) (rdE G g Wx (oL dAnd ma mb)) := by obtain ⟨r, h1, h2⟩ := dAnd_serve (G := G) (X := X); exact se_op h2.lift h1 ha hb
theorem x_lt : PE X (.Compare a [.Lt] [b] pos) (rdE G g Wx (oL dLt ma mb)) := by obtain ⟨r, h1, h2⟩ := dLt_serve (G := G) (X := X); exact se_cmp h2.lift h1 ha hb
theorem x_le : PE X (.Compare a [.LtE] [b] pos) (rdE G g Wx (oL dLe ma mb)) := by obtain ⟨r, h1, h2⟩ := dLe_serve (G := G) (X := X); exact se_cmp h2.lift h1 ha hb
theorem x_gt : PE X (.Compare a [.Gt] [b] pos) (rdE G g Wx (oL dGt ma mb)) := by obtain ⟨r, h1, h2⟩ := dGt_serve (G := G) (X := X); exact se_cmp h2.lift h1 ha hb
theorem x_ge : PE X (.Compare a [.GtE] [b] pos) (rdE G g Wx (oL dGe ma mb)) := by obtain ⟨r, h1, h2⟩ := dGe_serve (G := G) (X := X); exact se_cmp h2.lift h1 ha hb
theorem x_eq (n : En X G) : PE X (.Compare a [.Eq] [b] pos) (rdE G g Wx (oL dEq ma mb)) := by obtain ⟨r, h1, h2⟩ := dEq_serve (X := X) n.hK n.hu; exact se_cmp h2.lift h1 ha hb
theorem x_ne (n : En X G) : PE X (.Compare a [.NotEq] [b] pos) (rdE G g Wx (oL dNe ma mb)) := by obtain ⟨r, h1, h2⟩ := dNe_serve (X := X) n.hK n.hu; exact se_cmp h2.lift h1 ha hb
theorem y_lt : PT X (.Compare a [.Lt] [b] pos) (rdT G g Wx (cL dLt ma mb)) := by obtain ⟨r, h1, h2⟩ := dLt_serve (G := G) (X := X); exact st_cmp h2.lift h1 ha hb
theorem y_le : PT X (.Compare a [.LtE] [b] pos) (rdT G g Wx (cL dLe ma mb)) := by obtain ⟨r, h1, h2⟩ := dLe_serve (G := G) (X := X); exact st_cmp h2.lift h1 ha hb
theorem y_gt : PT X (.Compare a [.Gt] [b] pos) (rdT G g Wx (cL dGt ma mb)) := by obtain ⟨r, h1, h2⟩ := dGt_serve (G := G) (X := X); exact st_cmp h2.lift h1 ha hb
theorem y_ge : PT X (.Compare a [.GtE] [b] pos) (rdT G g Wx (cL dGe ma mb)) := by obtain ⟨r, h1, h2⟩ := dGe_serve (G := G) (X := X); exact st_cmp h2.lift h1 ha hb
theorem y_eq (n : En X G) : PT X (.Compare a [.Eq] [b] pos) (rdT G g Wx (cL dEq ma mb)) := by obtain ⟨r, h1, h2⟩ := dEq_serve (X := X) n.hK n.hu; exact st_cmp h2.lift h1 ha hb
theorem y_ne (n : En X G) : PT X (.Compare a [.NotEq] [b] pos) (rdT G g Wx (cL dNe ma mb)) := by obtain ⟨r, h1, h2⟩ := dNe_serve (X := X) n.hK n.hu; exact st_cmp h2.lift h1 ha hb
theorem x_in (n : En X G) (hm : behindInMarks .In b = false := by rfl) : PE X (.Compare a [.In] [b] pos) (rdE G g Wx (oL dIn ma mb)) := by obtain ⟨r, h1, h2⟩ := dIn_serve (X := X) n.hK n.hu1; exact se_cmp h2.lift h1 ha hb hm
theorem x_notin (n : En X G) (hm : behindInMarks .NotIn b = false := by rfl) : PE X (.Compare a [.NotIn] [b] pos) (rdE G g Wx (oL dNotIn ma mb)) := by obtain ⟨r, h1, h2⟩ := dNotIn_serve (X := X) n.hK n.hu1; exact se_cmp h2.lift h1 ha hb hm
end
end LV

/-! LVz -/
set_option Elab.async false
set_option linter.all false
set_option maxRecDepth 100000
set_option maxHeartbeats 2000000
/-! LVz: the layer's words in short, the second part. -/
namespace LV
open PySem PySem.Spec PyProof.Rows SeqAt L2
theorem CallR.or {X : Cx} {f : Value} {r r' : List V → Hp → VK → Prop} (h : CallR X f r) (h' : CallR X f r') : CallR X f (fun xs H Q => r xs H Q ∨ r' xs H Q) := by
  intro pins s σ H xs us Q I rx q
  rcases q with q | q
  · exact h pins s σ H xs us Q I rx q
  · exact h' pins s σ H xs us Q I rx q
/-- len, of dicts too -/
def fLn (ds : List D) : Option D := match fLen ds with
  | some d => some d
  | none => fLenD ds
section
variable {X : Cx} {G : GE} {g : GI} {Wx : WX} {pos p q apos cpos : Pos} {a b c e : Expr} {es : List Expr} {ma mb mc : ME} {r : MA} {x : Str}
section
variable (ha : PE X a (rdE G g Wx ma)) (hb : PE X b (rdE G g Wx mb))
include ha hb
theorem y_in (n : En X G) (hm : behindInMarks .In b = false := by rfl) : PT X (.Compare a [.In] [b] pos) (rdT G g Wx (cL dIn ma mb)) := by obtain ⟨r, h1, h2⟩ := dIn_serve (X := X) n.hK n.hu1; exact st_cmp h2.lift h1 ha hb hm
theorem y_notin (n : En X G) (hm : behindInMarks .NotIn b = false := by rfl) : PT X (.Compare a [.NotIn] [b] pos) (rdT G g Wx (cL dNotIn ma mb)) := by obtain ⟨r, h1, h2⟩ := dNotIn_serve (X := X) n.hK n.hu1; exact st_cmp h2.lift h1 ha hb hm
theorem x_inK (n : En X G) (hm : behindInMarks .In b = false := by rfl) : PE X (.Compare a [.In] [b] pos) (rdE G g Wx (oL dInK ma mb)) := by obtain ⟨r, h1, h2⟩ := dInK_serve (X := X) n.hK n.hw n.hu; exact se_cmp h2.lift h1 ha hb hm
theorem y_inK (n : En X G) (hm : behindInMarks .In b = false := by rfl) : PT X (.Compare a [.In] [b] pos) (rdT G g Wx (cL dInK ma mb)) := by obtain ⟨r, h1, h2⟩ := dInK_serve (X := X) n.hK n.hw n.hu; exact st_cmp h2.lift h1 ha hb hm
theorem x_notinK (n : En X G) (hm : behindInMarks .NotIn b = false := by rfl) : PE X (.Compare a [.NotIn] [b] pos) (rdE G g Wx (oL dNotInK ma mb)) := by obtain ⟨r, h1, h2⟩ := dNotInK_serve (X := X) n.hK n.hw n.hu; exact se_cmp h2.lift h1 ha hb hm
theorem y_notinK (n : En X G) (hm : behindInMarks .NotIn b = false := by rfl) : PT X (.Compare a [.NotIn] [b] pos) (rdT G g Wx (cL dNotInK ma mb)) := by obtain ⟨r, h1, h2⟩ := dNotInK_serve (X := X) n.hK n.hw n.hu; exact st_cmp h2.lift h1 ha hb hm
theorem x_is : PE X (.Compare a [.Is] [b] pos) (rdE G g Wx (oL dIsN ma mb)) := by obtain ⟨r, h1, h2⟩ := dIsN_serve (G := G) (X := X); exact se_cmp h2.lift h1 ha hb
theorem y_is : PT X (.Compare a [.Is] [b] pos) (rdT G g Wx (cL dIsN ma mb)) := by obtain ⟨r, h1, h2⟩ := dIsN_serve (G := G) (X := X); exact st_cmp h2.lift h1 ha hb
theorem x_isnot : PE X (.Compare a [.IsNot] [b] pos) (rdE G g Wx (oL dIsNotN ma mb)) := by obtain ⟨r, h1, h2⟩ := dIsNotN_serve (G := G) (X := X); exact se_cmp h2.lift h1 ha hb
theorem y_isnot : PT X (.Compare a [.IsNot] [b] pos) (rdT G g Wx (cL dIsNotN ma mb)) := by obtain ⟨r, h1, h2⟩ := dIsNotN_serve (G := G) (X := X); exact st_cmp h2.lift h1 ha hb
theorem x_ix (n : En X G) (hs : PlainIx b := by intro _ _; rfl) : PE X (.Subscript a b pos) (rdE G g Wx (oL dIx ma mb)) := by obtain ⟨r, h1, h2⟩ := dIx_serve (X := X) n.hK; exact se_ix h2.lift h1 ha hb hs
theorem x_dix (n : En X G) (hs : NoSl b := by intro _ _; rfl) : PE X (.Subscript a b pos) (rdE G g Wx (oL dDx ma mb)) := se_dix n.hK n.hw n.hu ha hb hs
/-- a + b of lists, a new list -/
def nAdd (ma mb : ME) : MN := fun env st => (ma env st).bind fun x st1 => (mb env st1).bind fun y st2 => match get st2 x, get st2 y with
  | some (.lst xs), some (.lst ys) => if xs.length + ys.length ≤ sizeL then .ok (.lst (xs ++ ys)) st2 else .bad
  | _, _ => .bad
theorem x_addN (n : En X G) : PE X (.BinOp a .Add b pos) (rdN G g Wx (nAdd ma mb)) := by
  refine PE.imp (pe_op op_cat ha hb) fun σ H Q ⟨w, env, st, hg, he, q⟩ => ?_
  refine ⟨w, env, st, hg, he, Ok.bind q fun x st1 w1 v H1 l1 g1 x1 q1 => ?_⟩
  refine ⟨w1, env, st1, g1, he.mono l1, Ok.bind q1 fun y st2 w2 u H2 l2 g2 y2 q2 => ?_⟩
  cases e1 : get st2 x with
  | none => simp only [e1] at q2; exact (show False from q2).elim
  | some d1 =>
    cases e2 : get st2 y with
    | none => simp only [e1, e2] at q2; exact (show False from q2).elim
    | some d2 =>
      have v1 := g2.view (x1.mono l2) e1
      have v2 := g2.view y2 e2
      simp only [e1, e2] at q2
      split at q2
      · rename_i xs ys E1 E2
        cases E1
        cases E2
        split at q2
        · rename_i hl
          obtain ⟨A, vs, rfl, h1, h2⟩ := v1
          obtain ⟨B, us, rfl, h3, h4⟩ := v2
          exact ⟨A, B, vs, us, rfl, rfl, h1, h3, by rw [h2.length, h4.length, sizeL_eq]; exact hl, fun p hp => Ok.finL g2 q2 p _ hp (h2.append h4)⟩
        · exact (show False from q2).elim
      · exact (show False from q2).elim
end
/-! ### built-ins -/
section
variable (n : En X G)
include n
theorem f_len (hm : X.mg "len" = none) (hg : Gl X "len") (ha : PA X (a :: es) (rdA G g Wx r)) (he : starEach (a :: es) X.env = (false, eval a X.env) :: starEach es X.env := by rfl) (hpl : (backTo pos (starEach es X.env)).any (·.1) = false := by rfl) :
    PE X (.Call (.Name "len" p) (a :: es) [] pos) (rdE G g Wx (mFn fLn r)) := by
  obtain ⟨r1, h1, h2⟩ := fLen_serve (X := X) n.hK
  obtain ⟨r2, h3, h4⟩ := fLenD_serve (X := X) n.hK n.hw
  refine se_fnB (f := fLn) (r := fun xs H Q => r1 xs H Q ∨ r2 xs H Q) (fun S H vs ds d Q ex hv hf hq => ?_) (CallR.or h1 h3) hg hm (by first | rfl | decide +kernel) ha (by decide) (by decide) he hpl
  unfold fLn at hf
  cases e1 : fLen ds with
  | some d' => rw [e1] at hf; cases hf; exact .inl (h2 S H vs ds _ Q ex hv e1 hq)
  | none => rw [e1] at hf; exact .inr (h4 S H vs ds d Q ex hv hf hq)
end
section
variable (n : En X G)
include n
theorem f_abs (hm : X.mg "abs" = none) (hg : Gl X "abs") (ha : PA X (a :: es) (rdA G g Wx r)) (he : starEach (a :: es) X.env = (false, eval a X.env) :: starEach es X.env := by rfl) (hpl : (backTo pos (starEach es X.env)).any (·.1) = false := by rfl) :
    PE X (.Call (.Name "abs" p) (a :: es) [] pos) (rdE G g Wx (mFn fAbs r)) := by
  obtain ⟨r1, h1, h2⟩ := fAbs_serve (G := G) (X := X)
  exact se_fnB h2 h1 hg hm (by first | rfl | decide +kernel) ha (by decide) (by decide) he hpl
theorem f_int (hm : X.mg "int" = none) (hg : Gl X "int") (ha : PA X (a :: es) (rdA G g Wx r)) (he : starEach (a :: es) X.env = (false, eval a X.env) :: starEach es X.env := by rfl) (hpl : (backTo pos (starEach es X.env)).any (·.1) = false := by rfl) :
    PE X (.Call (.Name "int" p) (a :: es) [] pos) (rdE G g Wx (mFn fInt r)) := by
  obtain ⟨r1, h1, h2⟩ := fInt_serve (G := G) (X := X)
  exact se_fnT h2 h1 hg hm (by first | rfl | decide +kernel) ha (by decide) (by decide) he hpl
theorem f_max (hm : X.mg "max" = none) (hg : Gl X "max") (ha : PA X (a :: es) (rdA G g Wx r)) (he : starEach (a :: es) X.env = (false, eval a X.env) :: starEach es X.env := by rfl) (hpl : (backTo pos (starEach es X.env)).any (·.1) = false := by rfl) :
    PE X (.Call (.Name "max" p) (a :: es) [] pos) (rdE G g Wx (mFn fMax r)) := by
  obtain ⟨r1, h1, h2⟩ := fMax_serve (G := G) (X := X) n.hc
  exact se_fnB h2 h1 hg hm (by first | rfl | decide +kernel) ha (by decide) (by decide) he hpl
theorem f_min (hm : X.mg "min" = none) (hg : Gl X "min") (ha : PA X (a :: es) (rdA G g Wx r)) (he : starEach (a :: es) X.env = (false, eval a X.env) :: starEach es X.env := by rfl) (hpl : (backTo pos (starEach es X.env)).any (·.1) = false := by rfl) :
    PE X (.Call (.Name "min" p) (a :: es) [] pos) (rdE G g Wx (mFn fMin r)) := by
  obtain ⟨r1, h1, h2⟩ := fMin_serve (G := G) (X := X) n.hc
  exact se_fnB h2 h1 hg hm (by first | rfl | decide +kernel) ha (by decide) (by decide) he hpl
theorem f_sum (hm : X.mg "sum" = none) (hg : Gl X "sum") (ha : PA X (a :: es) (rdA G g Wx r)) (he : starEach (a :: es) X.env = (false, eval a X.env) :: starEach es X.env := by rfl) (hpl : (backTo pos (starEach es X.env)).any (·.1) = false := by rfl) :
    PE X (.Call (.Name "sum" p) (a :: es) [] pos) (rdE G g Wx (mFn fSum r)) := by
  obtain ⟨r1, h1, h2⟩ := fSum_serve (G := G) (X := X) n.hc
  exact se_fnB h2 h1 hg hm (by first | rfl | decide +kernel) ha (by decide) (by decide) he hpl
theorem f_list (hm : X.mg "list" = none) (hg : Gl X "list") (ha : PA X (a :: es) (rdA G g Wx r)) (he : starEach (a :: es) X.env = (false, eval a X.env) :: starEach es X.env := by rfl) (hpl : (backTo pos (starEach es X.env)).any (·.1) = false := by rfl) :
    PE X (.Call (.Name "list" p) (a :: es) [] pos) (rdN G g Wx (nFn fList r)) := by
  obtain ⟨r1, h1, h2⟩ := fList_serve (X := X) n.hK n.hc
  exact se_flT h2 h1 hg hm (by first | rfl | decide +kernel) ha (by decide) (by decide) he hpl
theorem f_sorted (hm : X.mg "sorted" = none) (hg : Gl X "sorted") (ha : PA X (a :: es) (rdA G g Wx r)) (he : starEach (a :: es) X.env = (false, eval a X.env) :: starEach es X.env := by rfl) (hpl : (backTo pos (starEach es X.env)).any (·.1) = false := by rfl) :
    PE X (.Call (.Name "sorted" p) (a :: es) [] pos) (rdN G g Wx (nFn fSorted r)) := by
  obtain ⟨r1, h1, h2⟩ := fSorted_serve (G := G) (X := X)
  exact se_flB h2 h1 hg hm (by first | rfl | decide +kernel) ha (by decide) (by decide) he hpl
end
section
theorem x_ch_le_le (ha : PE X a (rdE G g Wx ma)) (hb : PE X b (rdE G g Wx mb)) (hc : PE X c (rdE G g Wx mc)) (hm : lastMarks [CmpOp.LtE, CmpOp.LtE] [b, c] = false := by rfl) : PE X (.Compare a [.LtE, .LtE] [b, c] pos) (rdE G g Wx (mChain (lift2 dLe) (lift2 dLe) ma mb mc)) := by obtain ⟨r, h1, h2⟩ := dLe_serve (G := G) (X := X); exact se_chain h2.lift h2.lift h1 h1 ha hb hc hm
theorem y_ch_le_le (ha : PE X a (rdE G g Wx ma)) (hb : PE X b (rdE G g Wx mb)) (hc : PE X c (rdE G g Wx mc)) (hm : lastMarks [CmpOp.LtE, CmpOp.LtE] [b, c] = false := by rfl) : PT X (.Compare a [.LtE, .LtE] [b, c] pos) (rdT G g Wx (mF (mChain (lift2 dLe) (lift2 dLe) ma mb mc))) := by obtain ⟨r, h1, h2⟩ := dLe_serve (G := G) (X := X); exact st_chain h2.lift h2.lift h1 h1 ha hb hc hm
theorem x_iadd {i : Nat} {m : ME} {pos' : Pos} (hN : X.N.Nodup) (hi : X.N[i]? = some x) (hx : Loc X.env.scope x) (he : PE X e (rdE G g Wx m)) (hf : X.fn x = true ∨ X.env.scope.names.lookup x = some .local := by first | exact .inl rfl | exact .inr rfl | assumption) :
    PS X (.AugAssign (.Name x pos') .Add e pos) (rdS G g Wx (sAug i (lift2 (iI fun i j => i + j)) m)) := by obtain ⟨r, h1, h2⟩ := dIAdd_serve (G := G) (X := X); exact ss_aug h2.lift hN hi hx he h1 hf
theorem x_isub {i : Nat} {m : ME} {pos' : Pos} (hN : X.N.Nodup) (hi : X.N[i]? = some x) (hx : Loc X.env.scope x) (he : PE X e (rdE G g Wx m)) (hf : X.fn x = true ∨ X.env.scope.names.lookup x = some .local := by first | exact .inl rfl | exact .inr rfl | assumption) :
    PS X (.AugAssign (.Name x pos') .Sub e pos) (rdS G g Wx (sAug i (lift2 (iI fun i j => i - j)) m)) := by obtain ⟨r, h1, h2⟩ := dISub_serve (G := G) (X := X); exact ss_aug h2.lift hN hi hx he h1 hf
end
end
/-- THE RULE for a def, its numbers told -/
theorem fn_okN {P : Program} {w : World} {K : PySem.W.Frag} {mg : Str → Option Value} {base : Heap} {G : GE} {x qual : Str} {st : Stmt} {f : Addr} {fd : FuncData} {N ps : List Str} {k np nn : Nat} {m : MS} (F : Fun K x qual st f fd) (S : FnScope N ps (defScope st)) (hp : ps.length = np) (hn : N.length = nn) (hNp : np ≤ nn)
    (hbody : ∀ (cdv : Value) (A : Around) (outer : List Env) (s : Shared) (H : Hp) (E : XK) (g : GI), g.xo = none → Room k (A.deeper (envOfC qual (defScope st) s.heap.objs.size f cdv)) →
      PSs (cxOf (L2.CX P w) P w K mg base N qual (defScope st) f cdv A outer s H E) (defBody st) (rdS G g (fun c d _ H => E c d H) m)) :
    FnOk P w K mg base (L2.CX P w) (k + 1) f fd ps (spF G np (fnM nn m)) := by
  subst hp
  subst hn
  exact fn_ok F S hNp hbody
theorem papp {α β : Type} {R : α → β → Prop} : ∀ {as : List α} {bs : List β} {cs : List α} {ds : List β}, Paired R as bs → Paired R cs ds → Paired R (as ++ cs) (bs ++ ds)
  | _, _, _, _, .nil, h => h
  | _, _, _, _, .cons h t, h' => .cons h (papp t h')
/-! ### the law -/
def spLaw (K : PySem.W.Frag) : Sp := fun vs H Q _ => ∃ (a : Addr) (ns : List Int), vs = [.ref a] ∧ SqL K H a (ns.map V.int) ∧ ns.length ≤ 63 ∧ ∀ H', Q (.bl true) H'
theorem law_sp {G : GE} {F : Fm} (hlaw : ∀ ns : List Int, ns.length ≤ 63 → ∃ st, F [.d (.lsx (ns.map D.int))] [] = .ok (.d (.bl true)) st) (vs : List V) (H : Hp) (Q : VK) (E : XK) (h : spLaw G.K vs H Q E) : spF G 1 F vs H Q E := by
  obtain ⟨a, ns, rfl, hS, hl, k⟩ := h
  obtain ⟨st, e⟩ := hlaw ns hl
  refine ⟨⟨H, [], fun _ => none, none⟩, [], [.d (.lsx (ns.map D.int))], ⟨L0.refl _, Same.refl _, (fun a u z => by cases z), rfl, rfl, List.nodup_nil, (fun k p d z => by simp at z), (fun p z => by cases z), (fun b o z _ => z), (fun b o z => Or.inl ⟨o, z⟩), (fun k p _ z => by simp at z)⟩, .cons ⟨a, _, rfl, hS, DAts.ints⟩ .nil, rfl, ?_⟩
  rw [e]
  intro w' b H' _ _ r
  cases (show b = V.bl true from r)
  exact k H'
theorem walk_law {l : PySem.W.OpenLaw} {q : Program} {loose : List Str} {XP : (Str → Option Value) → Heap → Prop} {YP : World → Heap → Prop} {d : DefRec} {K : Params → PySem.W.Frag} {k : Nat} {x : Str} (hn : l.most = some 63) (hdf : d.params.defaults = []) (hr : Room k callerA)
    (hY : ∀ (w : World) (h : Heap), YP w h → (K w.params).In h)
    (F : ∀ (w : World) (mg : Str → Option Value) (fa : Addr) (h : Heap), (K w.params).In h → h.Ns mainGlobals mg → mg d.name = some (.ref fa) →
      ∃ fd : FuncData, (∀ (s : Shared) (u : Value), BindsTo s fd ⟨[u], []⟩ [(x, u)]) ∧ ∀ base : Heap, (K w.params).In base → base.Ns mainGlobals mg → FnOk l.prog w (K w.params) mg base (L2.CX l.prog w) k fa fd [x] (spLaw (K w.params))) :
    PySem.W.WalkO q loose XP YP l.row.toRowW d [] (fun f vs => PySem.call f vs) :=
  L2.walk_of (n := 63) (k := k) (x := x) (CX := fun w => L2.CX l.prog w) (sp := fun w => spLaw (K w.params)) hn (by decide) hdf hr hY F (fun _ _ a ns hl _ hS => ⟨a, ns, rfl, hS, hl, fun _ => rfl⟩) fun w H s e s' z => (by
    obtain ⟨_, _, _, _, _, _, _, _, _, _, _, _, z⟩ := z
    exact z.elim)
end LV

/-! LWa -/
set_option Elab.async false
set_option linter.all false
set_option maxRecDepth 100000
set_option maxHeartbeats 2000000
/-! LWa: enumerate, over a list and over a text. -/
namespace LV
open PySem PySem.Spec PyProof.Rows SeqAt L2
/-- the items, each with its number -/
def enumD (ds : List D) : List D := ds.mapIdx fun i d => .tup [.int (i : Nat), d]
theorem enumD_len (ds : List D) : (enumD ds).length = ds.length := by simp [enumD]
theorem enumD_get {ds : List D} {i : Nat} {d : D} (h : (enumD ds)[i]? = some d) : ∃ e, ds[i]? = some e ∧ d = .tup [.int (i : Nat), e] := by
  unfold enumD at h
  rw [List.getElem?_mapIdx] at h
  obtain ⟨e, he, rfl⟩ := Option.map_eq_some_iff.mp h
  exact ⟨e, he, rfl⟩
/-- the signs of a text, each with its number in a new pair -/
def Ies (x : Str) : It := ⟨fun i _ => i < x.cps.size, fun i H v H' => ∃ T c, v = .ref T ∧ H T = none ∧ H' = upd H T (.tup [.int (i : Nat), .str ⟨#[c]⟩]) ∧ x.cps[i]? = some c, fun i _ => x.cps.size ≤ i⟩
theorem turn_ens {P : Program} {w : World} {K : PySem.W.Frag} {elts : List Expr} {kk : Nat} {tpos : Pos} (x : Str) (t : Tok) (e it : Addr) :
    Turn P w K (.Tuple elts kk tpos) (Ies x) [e, it] e (fun i h => (∃ old, IsEnum h e it ((i : Nat) : Int) old) ∧ h.IsStrIter it (strIterType x) x t i ∧ e ≠ it ∧ i ≤ x.cps.size) where
  mem := List.mem_cons_self
  obj := by
    rintro i h ⟨⟨old, he⟩, ⟨o, ho, hc, hd⟩, _⟩ b hb
    rcases List.mem_cons.mp hb with rfl | hb
    · exact ⟨_, he, fun v q => nomatch q⟩
    · cases List.mem_singleton.mp hb
      exact ⟨o, ho, fun v q => by rw [hd] at q; cases q⟩
  keep := by
    rintro i h h' ⟨⟨old, he⟩, ⟨o, ho, r⟩, ne, le⟩ k
    exact ⟨⟨old, k e List.mem_cons_self _ he⟩, ⟨o, k it (List.mem_cons_of_mem _ List.mem_cons_self) o ho, r⟩, ne, le⟩
  item := by
    rintro X rfl rfl rfl hc i pins s σ H E I hf ⟨⟨old, he⟩, hit, hne, hle⟩ hg
    have D := Draws.text (prog := X.prog) (w := X.w) (A := X.A.in1) (I.ok.hd hc) it x t
    have hel : e < s.heap.objs.size := Heap.lt_size he
    have hil : it < s.heap.objs.size := by obtain ⟨_, q, _⟩ := hit; exact Heap.lt_size q
    refine wpAny_pyNext_enum_itemC D he hit hg hne (fun q => hne (List.mem_singleton.mp q)) fun u h' tk hP ho hit' hT hsz hk => ?_
    obtain ⟨c, tu, hcx, rfl⟩ := hP
    refine ⟨_, rfl, wpAny_letOwnedTupleGo_enum (s := { s with heap := h', toks := tk + 1 }) ho fun h'' he' sb => ?_⟩
    have hT2 := (sb.2 _ (Nat.ne_of_gt hel)).trans hT
    have new : ObjOk X.prog X.w (upd H s.heap.objs.size (.tup [.int (i : Nat), .str ⟨#[c]⟩])) h'' s.heap.objs.size (.tup [.int (i : Nat), .str ⟨#[c]⟩]) :=
      ⟨by show 2 ≤ sizeLine; decide, [.int i tk, .str ⟨#[c]⟩ tu], .cons ⟨_, rfl⟩ (.cons ⟨_, rfl⟩ .nil), ⟨_, hT2, rfl, _, rfl⟩⟩
    have I1 : Inv X pins σ (upd H s.heap.objs.size (.tup [.int (i : Nat), .str ⟨#[c]⟩])) { s with heap := h'', toks := tk + 1 } := I.turnedNew (ch := [e, it]) (fun b ob hb q => by
      have n1 : b ≠ e := fun z => hb (z ▸ List.mem_cons_self)
      have n2 : b ≠ it := fun z => hb (z ▸ List.mem_cons_of_mem _ List.mem_cons_self)
      exact (sb.2 b n1).trans (hk b ob n1 n2 q)) hf (Nat.le_refl _) new
    refine ⟨.ref s.heap.objs.size, _, I1, rfl, ⟨_, c, rfl, I.hok.fresh (Nat.le_refl _), rfl, hcx⟩, ⟨⟨.str ⟨#[c]⟩ tu, ?_⟩, ?_, hne, hg⟩, fun b hb => ?_⟩
    · rw [show ((i + 1 : Nat) : Int) = (i : Int) + 1 by omega]; exact he'
    · obtain ⟨o, q1, q2⟩ := hit'
      exact ⟨o, (sb.2 it (Ne.symm hne)).trans q1, q2⟩
    · have hb' : b < s.heap.objs.size := by
        rcases List.mem_cons.mp hb with rfl | hb
        · exact hel
        · cases List.mem_singleton.mp hb; exact hil
      rw [upd_ne (Nat.ne_of_lt hb')]
      exact (hf b hb).1
  done := by
    rintro X rfl rfl rfl hc i pins s σ H E I hf ⟨⟨old, he⟩, hit, hne, hle⟩ hg
    obtain ⟨f0, f1, f2, f3, f4, f5⟩ := hf it (List.mem_cons_of_mem _ List.mem_cons_self)
    have ei : i = x.cps.size := Nat.le_antisymm hle hg
    subst ei
    exact wpAny_pyNext_enum_endD (Draws.text (prog := X.prog) (w := X.w) (A := X.A.in1) (I.ok.hd hc) it x t) he hit fun h' eb => ⟨rfl, I.turned (t' := s.toks) (fun b o hb q => eb b o hb q) f0 f1 f3 f4 f5⟩
  self := by
    rintro A i s Q E ⟨⟨_, he⟩, _⟩ h
    exact wpAny_pyIter_enum he h
def iEnS (ta : TA) : TI := fun σ H R => ta σ H fun vs H1 => ∃ x, vs = [.str x] ∧ R (Ies x) H1
theorem pi_ens {X : Cx} {e : Expr} {ta : TA} {p pos tpos : Pos} {elts : List Expr} {kk : Nat} (hg : Gl X "enumerate") (hm : X.mg "enumerate" = none) (ha : PA X [e] ta) (hs : starEach [e] X.env = [(false, eval e X.env)] := by rfl) :
    PI X (.Tuple elts kk tpos) (.Call (.Name "enumerate" p) [e] [] pos) (iEnS ta) := by
  refine ⟨fun pins s σ H R I h => Call_ (ld_blt I hg hm boot_enumerate (PyProof.Rows.callWith_type1 (thn (ha.run pos pins s σ H _ I h) fun us s1 ⟨vs, H1, I1, r1, x, ex, q⟩ => ?_) hs rfl))⟩
  subst ex
  cases r1 with
  | cons r rr =>
    cases rr
    obtain ⟨t, rfl⟩ := r
    refine call_enumerate_str fun h' he hit hsz hk => wpAny_pyIter_enum he ?_
    refine ⟨s1.heap.objs.size + 1, [s1.heap.objs.size + 1, s1.heap.objs.size], _, _, H1, rfl, I1.kept (t' := s1.toks) hk, turn_ens x t (s1.heap.objs.size + 1) s1.heap.objs.size, ⟨⟨.none, he⟩, hit, Nat.succ_ne_self _, Nat.zero_le _⟩, fun b hb => ?_, q⟩
    have hle : s1.heap.objs.size ≤ b := by
      rcases List.mem_cons.mp hb with rfl | hb
      · exact Nat.le_succ _
      · cases List.mem_singleton.mp hb; exact Nat.le_refl _
    exact I1.fpOk hle (I1.hok.fresh hle)
section
variable {X : Cx} {G : GE} {g : GI} {Wx : WX} {pos p tpos : Pos} {e : Expr} {elts : List Expr} {kk : Nat} {r : MA}
/-- the pair of a turn, by value -/
theorem pair_new {w2 : W} {st2 : Sto} {H2 : Hp} {T : Addr} {v : V} {d : D} {i : Nat} (g2 : Good G g w2 st2 H2) (hT : H2 T = none) (hv : DAt G w2.S v d) : ∃ w3, Le w2 w3 ∧ Good G g w3 st2 (upd H2 T (.tup [.int (i : Nat), v])) ∧ DAt G w3.S (.ref T) (.tup [.int (i : Nat), d]) := by
  have ex : Ex w2.S (upd w2.S T (.tup [.int (i : Nat), v])) := Ex.new (g2.sub.free hT)
  refine ⟨⟨upd w2.S T (.tup [.int (i : Nat), v]), w2.ps, w2.L, w2.xo⟩, ⟨ex, rfl, rfl, [], by simp⟩, g2.grow ex (Ex.new hT) (fun b u hb => ?_) (fun b u hb => ?_), T, _, rfl, upd_same, .cons rfl (.cons (DAt.mono ex _ hv) .nil)⟩
  · by_cases hbp : b = T
    · subst hbp; rw [upd_same] at hb ⊢; exact hb
    · rw [upd_ne hbp] at hb ⊢; exact g2.sub _ _ hb
  · by_cases hbp : b = T
    · subst hbp; exact .inr hT
    · rw [upd_ne hbp] at hb; exact .inl hb
theorem one_of {w : W} {vs : List V} {u : U} (h : UAts G w vs [u]) : ∃ v, vs = [v] ∧ UAt G w v u := by
  cases h with
  | cons a b => cases b; exact ⟨_, rfl, a⟩
/-- enumerate of a list -/
def iEn (r : MA) : MI := fun env st => (r env st).bind fun us st1 => match us with
  | [.d (.lst ds)] => .ok (enumD ds) st1
  | [.d (.lsx ds)] => .ok (enumD ds) st1
  | _ => .bad
/-- enumerate of a text -/
def iEs (r : MA) : MI := fun env st => (r env st).bind fun us st1 => match us with
  | [.d (.str x)] => .ok (enumD (x.map fun c => D.str [c])) st1
  | _ => .bad
theorem si_En (hK : X.K = G.K) (hg : Gl X "enumerate") (hm : X.mg "enumerate" = none) (h : PA X [e] (rdA G g Wx r)) (hs : starEach [e] X.env = [(false, eval e X.env)] := by rfl) : SI X G g Wx (.Tuple elts kk tpos) (.Call (.Name "enumerate" p) [e] [] pos) (iEn r) := by
  refine ⟨_, pi_enum hg hm h hs, fun σ H R' w env st hg he q => ?_⟩
  refine ⟨w, env, st, hg, he, Ok.bind q fun us st1 w1 vs H1 l1 g1 x1 q1 => ?_⟩
  have core : ∀ (ds : List D) (v : V) (a : Addr) (vs : List V), v = .ref a → SqL G.K w1.S a vs → DAts G w1.S vs ds → Ok G g Wx (relI G g) w1 σ (R.ok (enumD ds) st1) R' → ∃ a xs, [v] = [.ref a] ∧ SqL X.K H1 a xs ∧ R' (Ite X.K a) H1 := by
    intro ds v a vs ev h1 h2 q2
    refine ⟨a, vs, by rw [ev], by rw [hK]; exact Ex.sl g1.sub h1, q2 w1 (Ite X.K a) H1 (Le.refl _) g1 fun w2 st2 H2 l2 g2 => ?_⟩
    have h3 : SqL X.K H2 a vs := by rw [hK]; exact Ex.sl g2.sub (Ex.sl l2.s h1)
    refine ⟨fun i hi => ⟨vs, h3, by rw [h2.length, ← enumD_len]; exact hi⟩, fun i d hd => ?_⟩
    obtain ⟨d0, hd0, rfl⟩ := enumD_get hd
    obtain ⟨y, hy, hyd⟩ := h2.get hd0
    refine ⟨⟨vs, y, h3, hy⟩, fun x H3 yl => ?_⟩
    obtain ⟨T, y', rfl, hT, rfl, e2⟩ := yl
    have e3 := e2 vs h3
    rw [hy] at e3
    cases e3
    exact pair_new g2 hT (DAt.mono l2.s _ hyd)
  split at q1
  · rename_i ds
    obtain ⟨v, rfl, a, vs, e, h1, h2⟩ := one_of x1
    exact core ds v a vs e (SqL.of h1) h2 q1
  · rename_i ds
    obtain ⟨v, rfl, a, vs, e, h1, h2⟩ := one_of x1
    exact core ds v a vs e h1 h2 q1
  · exact (show False from q1).elim
theorem si_Es (hg : Gl X "enumerate") (hm : X.mg "enumerate" = none) (h : PA X [e] (rdA G g Wx r)) (hs : starEach [e] X.env = [(false, eval e X.env)] := by rfl) : SI X G g Wx (.Tuple elts kk tpos) (.Call (.Name "enumerate" p) [e] [] pos) (iEs r) := by
  refine ⟨_, pi_ens hg hm h hs, fun σ H R' w env st hg he q => ?_⟩
  refine ⟨w, env, st, hg, he, Ok.bind q fun us st1 w1 vs H1 l1 g1 x1 q1 => ?_⟩
  split at q1
  · rename_i x
    obtain ⟨v, rfl, x2⟩ := one_of x1
    cases (show v = V.str (S2 x) from x2)
    refine ⟨S2 x, rfl, q1 w1 _ H1 (Le.refl _) g1 fun w2 st2 H2 l2 g2 => ?_⟩
    refine ⟨fun i hi => by rw [enumD_len, List.length_map] at hi; simpa [Ies] using hi, fun i d hd => ?_⟩
    obtain ⟨d0, hd0, rfl⟩ := enumD_get hd
    rw [List.getElem?_map] at hd0
    obtain ⟨c, hc, rfl⟩ := Option.map_eq_some_iff.mp hd0
    have hlt : i < x.length := (List.getElem?_eq_some_iff.mp hc).1
    refine ⟨by simpa [Ies] using hlt, fun y H3 yl => ?_⟩
    obtain ⟨T, c', rfl, hT, rfl, e2⟩ := yl
    have e3 : (x.toArray)[i]? = some c' := e2
    rw [List.getElem?_toArray, hc] at e3
    cases e3
    exact pair_new g2 hT rfl
  · exact (show False from q1).elim
end
end LV

/-! LWb -/
set_option Elab.async false
set_option linter.all false
set_option maxRecDepth 100000
set_option maxHeartbeats 2000000
/-! LWb: raise C(), C without an __init__ of its own. -/
namespace LV
open PySem PySem.Spec PyProof.Rows SeqAt L2
section
variable {X : Cx} {G : GE} {g : GI} {Wx : WX} {pos p pos' : Pos} {x c : Str} {C : Addr} {bmB : List Value} {B newId initId : String}
theorem pmk_own0 (F : ExcBaseFacts B newId initId bmB) (q : PySem.W.excIn X.K C bmB newId = true) (gC : X.mg x = some (.ref C)) (kC : PySem.W.keepIn X.K (.ref C) = true) (r : Raises X (.ref C)) (hg : Gl X x)
    (hdb : (x == ("__debug__" : Str)) = false := by decide) : PMk X (.Call (.Name x p) [] [] pos) (fun _ H Q => Q (.ref C) none H) := by
  intro pins s σ H Q I h
  refine wpAny_Call_Name_kw (ld_glob I hg gC ?_ hdb)
  refine PySem.W.callWith_K0 I.kIn kC ?_
  obtain ⟨bm, N, nm, qn, bs, hdct, sn, sub, ab, col, dd, k0, k1, k2, k3, k5, mN, hC, hN, hni, T⟩ := exc_obj I.kIn q
  exact wpAny_call_exc_subT F T hC hN hni (fun h' e hm => mk_of I hm r h (I.hok.gone hm.new)) (Nat.zero_le _)
def sRaise0 (c : Str) : MS := fun env st => .exc ⟨c, []⟩ env st
theorem ss_raise0 (hC : G.cls c = some C) (q : PySem.W.excIn X.K C [.type "ValueError", .type "Exception", .type "BaseException", .type "object"] "ValueError.__new__" = true) (gC : X.mg x = some (.ref C)) (kC : PySem.W.keepIn X.K (.ref C) = true) (r : Raises X (.ref C)) (hg : Gl X x) (hc : X.calm = true) (tk : Takes X Wx)
    (hdb : (x == ("__debug__" : Str)) = false := by decide) : PS X (.Raise (some (.Call (.Name x p) [] [] pos')) none pos) (rdS G g Wx (sRaise0 c)) := by
  refine PS.imp (ps_raise hc tk (pmk_own0 PySem.F.excBase_ValueError q gC kC r hg hdb)) fun D σ H ⟨w, env, st, hg', hen, q⟩ => ?_
  exact q w σ H (.ref C) none (Le.refl _) hg' hen ⟨C, hC, rfl, .inl ⟨rfl, rfl⟩⟩
end
end LV

/-! LWc -/
set_option Elab.async false
set_option linter.all false
set_option maxRecDepth 100000
set_option maxHeartbeats 2000000
/-! LWc: o.m(..), m a method of o's own class; isinstance and text things that the layer lacked. -/
namespace LV
open PySem PySem.Spec PyProof.Rows SeqAt L2
section
variable {X : Cx} {G : GE} {g : GI} {Wx : WX} {pos p apos : Pos} {a e oe : Expr} {es : List Expr} {k n : Nat} {f C : Addr} {fd : FuncData} {ps : List Str} {F : Fm} {x m cn : Str}
def tMethD (C : Addr) (m : Str) (sp : Sp) (E : L2.St → XK) (ta : TE) (t : TA) : TE := fun σ H Q => ta σ H fun x H1 => ∃ a dx fs, x = .ref a ∧ H1 a = some (.ins C dx fs) ∧ fs.lookup m = none ∧ t σ H1 fun vs H2 => sp (x :: vs) H2 Q (E σ)
theorem pe_methD {pl : Sem Bool} {CX : CXT} {sp : Sp} {E : L2.St → XK} {ta : TE} {t : TA} (he : PE X oe ta) (c : Cls X.K C) (hm : Meth X.K C m f) (F : FnOk X.prog X.w X.K X.mg X.base CX k f fd ps sp) (hr : Room k X.A) (hb : Binds X.K fd ps []) (hx : ∀ σ, PassesAt CX X σ (E σ)) (ha : PA X (e :: es) t)
    (hst : starEach (e :: es) X.env = (false, eval e X.env) :: starEach es X.env := by rfl) (hpl : (backTo pos (starEach es X.env)).any (·.1) = false := by rfl)
    (ht : eval (.Call (.Attribute oe m apos) (e :: es) [] pos) X.env = (eval oe X.env >>= fun ov => standAt apos.atName >>= fun _ => holding [ov] (getMethod ov m pl) >>= fun r => callWith pos r.1 r.2 (backTo pos (starEach (e :: es) X.env)) (backToKw pos (keywordEach [] X.env))) := by rfl) :
    PE X (.Call (.Attribute oe m apos) (e :: es) [] pos) (tMethD C m sp E ta t) := by
  refine ⟨fun pins s σ H Q I h => PySem.W.methodCall_KW (pl := pl) (thn (he.run pins s σ H _ I h) fun u s1 ⟨x, H1, I1, rx, a, dx, fs, ex, ea, l, q⟩ => ?_) ht⟩
  subst ex
  cases (show u = Value.ref a from rx)
  refine getmeth_ok I1 ea c hm l (PySem.W.callWith_K (first := [.ref a]) (h₀ := X.base) I.ok.mod.kin hm.kp (thn (ha.run pos pins s1 σ H1 _ I1 q) fun us s2 ⟨vs, H2, I2, r, q2⟩ => ⟨I2.kIn, ?_⟩) hst hpl)
  have := run_fnSD (us := .ref a :: us) (vs := .ref a :: vs) (dvs := []) (ds := []) F hr hb .nil (hx σ) I2 (.cons rfl r) (by rw [List.append_nil]; exact q2)
  exact this
theorem pe_methD0 {pl : Sem Bool} {CX : CXT} {sp : Sp} {E : L2.St → XK} {ta : TE} (he : PE X oe ta) (c : Cls X.K C) (hm : Meth X.K C m f) (F : FnOk X.prog X.w X.K X.mg X.base CX k f fd ps sp) (hr : Room k X.A) (hb : Binds X.K fd ps []) (hx : ∀ σ, PassesAt CX X σ (E σ))
    (ht : eval (.Call (.Attribute oe m apos) [] [] pos) X.env = (eval oe X.env >>= fun ov => standAt apos.atName >>= fun _ => holding [ov] (getMethod ov m pl) >>= fun r => callWith pos r.1 r.2 (backTo pos (starEach [] X.env)) (backToKw pos (keywordEach [] X.env))) := by rfl) :
    PE X (.Call (.Attribute oe m apos) [] [] pos) (tMethD C m sp E ta tNil) := by
  refine ⟨fun pins s σ H Q I h => PySem.W.methodCall_KW (pl := pl) (thn (he.run pins s σ H _ I h) fun u s1 ⟨x, H1, I1, rx, a, dx, fs, ex, ea, l, q⟩ => ?_) ht⟩
  subst ex
  cases (show u = Value.ref a from rx)
  refine getmeth_ok I1 ea c hm l (PySem.W.callWith_K0 (first := [.ref a]) I1.kIn hm.kp ?_)
  have := run_fnSD (us := [.ref a]) (vs := [.ref a]) (dvs := []) (ds := []) F hr hb .nil (hx σ) I1 (.cons rfl .nil) (by rw [List.append_nil]; exact q)
  exact this
/-- o.m(e, ..) -/
def mOwn (cn m : Str) (F : Fm) (n : Nat) (mo : ME) (r : MA) : ME := fun env st => (mo env st).bind fun u st1 => match get st1 u with
  | some (.obj c fs) => if c = cn ∧ fs.lookup m = none then (r env st1).bind fun us st2 => callA F n (u :: us) st2 else .bad
  | _ => .bad
theorem own_ok {mo : ME} {r : MA} {w : W} {env : EnvU} {st : Sto} {σ : L2.St} {H : Hp} {Q : VK} (hC : G.cls cn = some C) (hg : Good G g w st H) (he : EnvAt G w σ env) (q : Ok G g Wx (relU G) w σ (mOwn cn m F n mo r env st) Q) {T : V → Hp → Prop} (hT : ∀ x H1, (rdA G g Wx r σ H1 fun vs H2 => spF G n F (x :: vs) H2 Q (fun c d H => Wx c d σ H)) → T x H1) :
    rdE G g Wx mo σ H fun x H1 => ∃ a dx fs, x = .ref a ∧ H1 a = some (.ins C dx fs) ∧ fs.lookup m = none ∧ T x H1 := by
  refine ⟨w, env, st, hg, he, Ok.bind q fun u st1 w1 v H1 l1 g1 x1 q1 => ?_⟩
  cases e4 : get st1 u with
  | none => rw [e4] at q1; exact (show False from q1).elim
  | some d =>
    rw [e4] at q1
    have vw := g1.view x1 e4
    cases d with
    | obj c fs =>
      simp only at q1
      split at q1
      · rename_i hcn
        obtain ⟨rfl, hl⟩ := hcn
        obtain ⟨a, C', dx, gs, rfl, h1, h2, h3⟩ := vw
        rw [hC] at h2
        cases h2
        refine ⟨a, dx, gs, rfl, h1, h3.lookn hl, hT _ _ ⟨w1, env, st1, g1, he.mono l1, Ok.bind q1 fun us st2 w2 vs H2 l2 g2 x2 q2 => ?_⟩⟩
        exact callA_sp g2 (.cons (x1.mono l2) x2) q2
      · exact (show False from q1).elim
    | _ => exact (show False from q1).elim
theorem se_own {mo : ME} {r : MA} (hC : G.cls cn = some C) (oc : OC X.K C) (hm : Meth X.K C m f) (ok : FnOk X.prog X.w X.K X.mg X.base (L2.CX X.prog X.w) k f fd ps (spF G n F)) (hr : Room k X.A) (hb : Binds X.K fd ps []) (tk : Takes X Wx) (ho : PE X oe (rdE G g Wx mo)) (ha : PA X (e :: es) (rdA G g Wx r))
    {pl : Sem Bool} (hst : starEach (e :: es) X.env = (false, eval e X.env) :: starEach es X.env := by rfl) (hpl : (backTo pos (starEach es X.env)).any (·.1) = false := by rfl)
    (ht : eval (.Call (.Attribute oe m apos) (e :: es) [] pos) X.env = (eval oe X.env >>= fun ov => standAt apos.atName >>= fun _ => holding [ov] (getMethod ov m pl) >>= fun r => callWith pos r.1 r.2 (backTo pos (starEach (e :: es) X.env)) (backToKw pos (keywordEach [] X.env))) := by rfl) :
    PE X (.Call (.Attribute oe m apos) (e :: es) [] pos) (rdE G g Wx (mOwn cn m F n mo r)) :=
  PE.imp (pe_methD (E := fun σ c d H => Wx c d σ H) ho oc.cl hm ok hr hb (fun σ => passAt tk σ) ha hst hpl ht) fun σ H Q ⟨w, env, st, hg, he, q⟩ => own_ok hC hg he q fun _ _ h => h
theorem se_own0 {mo : ME} (hC : G.cls cn = some C) (oc : OC X.K C) (hm : Meth X.K C m f) (ok : FnOk X.prog X.w X.K X.mg X.base (L2.CX X.prog X.w) k f fd ps (spF G n F)) (hr : Room k X.A) (hb : Binds X.K fd ps []) (tk : Takes X Wx) (ho : PE X oe (rdE G g Wx mo)) {pl : Sem Bool}
    (ht : eval (.Call (.Attribute oe m apos) [] [] pos) X.env = (eval oe X.env >>= fun ov => standAt apos.atName >>= fun _ => holding [ov] (getMethod ov m pl) >>= fun r => callWith pos r.1 r.2 (backTo pos (starEach [] X.env)) (backToKw pos (keywordEach [] X.env))) := by rfl) :
    PE X (.Call (.Attribute oe m apos) [] [] pos) (rdE G g Wx (mOwn cn m F n mo aN)) :=
  PE.imp (pe_methD0 (E := fun σ c d H => Wx c d σ H) ho oc.cl hm ok hr hb (fun σ => passAt tk σ) ht) fun σ H Q ⟨w, env, st, hg, he, q⟩ =>
    own_ok hC hg he q fun x H1 ⟨w2, e2, s2, g2, en2, q2⟩ => q2 w2 [] H1 (Le.refl _) g2 .nil
end
end LV

/-! LWd -/
set_option Elab.async false
set_option linter.all false
set_option maxRecDepth 100000
set_option maxHeartbeats 2000000
/-! LWd: try with several clauses, each with a name or without. -/
namespace LV
open PySem PySem.Spec PyProof.Rows SeqAt L2
abbrev Cls1 := Value × Option Nat × (Addr → Value → Option Addr → TS)
/-- the ends behind a clause with a name in slot i -/
def endsAs (D : Ends) (i : Nat) : Ends := { nx := fun σ H => D.nx (σ.set i none) H, rt := D.rt, bk := fun σ H => D.bk (σ.set i none) H, ct := fun σ H => D.ct (σ.set i none) H }
def wMix (K : PySem.W.Frag) (Wout : WX) (D : Ends) : List Cls1 → WX
  | [] => Wout
  | (c, none, ts) :: r => fun cls d σ H => ∃ b, PySem.W.exmOne K cls c = some b ∧ (b = true → ∀ a, H a = none → ts a cls d D σ H) ∧ (b = false → wMix K Wout D r cls d σ H)
  | (c, some i, ts) :: r => fun cls d σ H => ∃ b, PySem.W.exmOne K cls c = some b ∧ (b = true → ∀ a, H a = none → ts a cls d (endsAs D i) (σ.set i (some (.ref a))) H) ∧ (b = false → wMix K Wout D r cls d σ H)
/-- a clause's suite is walked -/
abbrev SuOk (X : Cx) (b₀ : Stmt) (suite : List Stmt) (ts : Addr → Value → Option Addr → TS) : Prop := ∀ (a : Addr) (oe : Obj) (cls : Value) (d : Option Addr) (pn : List (Addr × Obj)), Zc cls d oe → (∃ vs, oe.data = .fields vs) → PSs (X.suite a ((a, oe) :: pn)) (b₀ :: suite) (ts a cls d)
inductive HdM (X : Cx) : List ExceptHandler → List Cls1 → Prop
  | nil : HdM X [] []
  | plain {x : Str} {c : Value} {ts : Addr → Value → Option Addr → TS} {b₀ : Stmt} {suite : List Stmt} {np q : Pos} {hds : List ExceptHandler} {l : List Cls1} (hc : Names X x c) (hsu : SuOk X b₀ suite ts) (r : HdM X hds l) : HdM X (.ExceptHandler (some (.Name x np)) none (b₀ :: suite) q :: hds) ((c, none, ts) :: l)
  | named {x n : Str} {i : Nat} {c : Value} {ts : Addr → Value → Option Addr → TS} {b₀ : Stmt} {suite : List Stmt} {np q : Pos} {hds : List ExceptHandler} {l : List Cls1} (hc : Names X x c) (hi : X.N[i]? = some n) (hln : X.env.kindOf n = some .local) (hsu : SuOk X b₀ suite ts) (r : HdM X hds l) : HdM X (.ExceptHandler (some (.Name x np)) (some n) (b₀ :: suite) q :: hds) ((c, some i, ts) :: l)
section
variable {X : Cx} {body : List Stmt} {h₀ : ExceptHandler} {hds : List ExceptHandler} {l : List Cls1} {pos : Pos} {tb : WX → TS} {Wout : WX}
theorem ps_try_mix (hs : X.stack = X.env :: X.outer) (hf : X.env.frame = some X.env.locals) (hN : X.N.Nodup) (tk : Takes X Wout) (hb : ∀ (W : WX) (pn : List (Addr × Obj)) (xe : Value → Shared → Prop), Takes (X.tr pn xe) W → PassesOwn (model X.prog X.w) X.A X.env xe → PSs (X.tr pn xe) body (tb W)) (hh : HdM X (h₀ :: hds) l) :
    PS X (.Try body (h₀ :: hds) [] [] pos) (fun D σ H => tb (wMix X.K Wout D l) D σ H) := by
  refine ⟨fun pins s σ H D I h => ?_⟩
  have ok := I.ok
  have hfr : X.A.frames = some (X.env :: X.outer) := ok.frames.trans (by rw [hs])
  refine wpAny_Try_except (wpAny_mono ((hb (wMix X.K Wout D l) (X.pn ++ pins) (fun e s₁ => wpAny (model X.prog X.w) X.A (noteFrame e X.env) (fun _ s₂ => wpAny (model X.prog X.w) X.A (setFlight e none) (fun _ s₃ => wpAny (model X.prog X.w) X.A (handleBy e X.env (h₀ :: hds)) (SP X pins D) X.xe s₃) X.xe s₂) X.xe s₁) (fun u s' xx => ?_) PassesOwn.looking).run [] s σ H D (I.toTry _) h) (fun f s1 hsp => ?_) (fun e s1 he => he))
  · obtain ⟨a, B, sI, pins', σ', H', cls, d, rfl, J', nb, up, sky, na, os, ag, w⟩ := xx
    have J : Inv X pins σ' H' sI := J'.ofTry ok
    have sky' : Sky B (X.env :: X.outer) a (Zc cls d) X.env.locals s'.heap := hs ▸ sky
    refine Sky.land Zc.steady hfr hf sky' fun h3 fl3 up3 => ?_
    have J3 : Inv X pins σ' H' { s' with heap := h3 } := J.landed nb fl3.1 (up.trans up3) os ag
    obtain ⟨oe3, vs3, he3, hz3, hd3⟩ := fl3.there
    have nfr : a ∉ frs (X.env :: X.outer) := fun hm => by obtain ⟨_, o', e', hnf⟩ := fl3.2.2.1.mem hm; rw [he3] at e'; cases e'; exact hnf _ hd3
    have nL : a ≠ X.env.locals := fun z => nfr (List.mem_filterMap.mpr ⟨X.env, List.mem_cons_self, by rw [hf, z]⟩)
    have nF : a ∉ X.fs := fun hm => by obtain ⟨e, he, q⟩ := List.mem_filterMap.mp hm; exact nfr (List.mem_filterMap.mpr ⟨e, List.mem_cons_of_mem _ he, q⟩)
    have S3 := J3.suite he3 hd3 na nL nF
    -- what a clause names is found and compared
    have asked : ∀ {x : Str} {c : Value} {np : Pos} {b : Bool} {Q : Value → Shared → Prop} {E : Value → Shared → Prop}, Names X x c → (Q c { s' with heap := h3 }) → wpAny (model X.prog X.w) (X.A.mark (some (.ref a))) (eval (.Name x np) X.env) Q E { s' with heap := h3 } := fun {x c np b Q E} hc q => by
      obtain ⟨hg, hdbg, hm | ⟨hm, hv, hnn⟩⟩ := hc
      · exact ld_glob (X := X.suite a ((a, oe3) :: (X.pn ++ pins))) S3 hg hm q hdbg
      · exact ld_blt (X := X.suite a ((a, oe3) :: (X.pn ++ pins))) S3 hg hm hv q hnn hdbg
    have LT : PySem.W.Looks (model X.prog X.w) h3 (typeOf (.ref a)) cls := fun A Q E s k q => wpAny_typeOf_ref (k _ _ he3) (by rw [hz3.1]; exact q)
    have go : ∀ {hs' : List ExceptHandler} {l' : List Cls1}, HdM X hs' l' → wMix X.K Wout D l' cls d σ' H' → wpAny (model X.prog X.w) X.A (handleBy (.ref a) X.env hs') (SP X pins D) X.xe { s' with heap := h3 } := by
      intro hs' l' hk
      induction hk with
      | nil =>
        intro w
        obtain ⟨k1, k2, k3, oe, vs, T, oT, ts', he, hz, hd, h1, hr⟩ := id fl3
        refine wpAny_handleBy_nil ?_
        unfold PySem.passOn
        refine wpAny_bind (wpAny_field he hd h1 ?_)
        rw [if_neg (show ¬ ((Value.ref T == Value.none) = true) by simp)]
        have fin : wpAny (model X.prog X.w) X.A (setFlight (.ref a) X.env.frame) (fun _ s4 => wpAny (model X.prog X.w) X.A (throw (.ref a) : Sem Flow) (SP X pins D) X.xe s4) X.xe { s' with heap := h3 } := by
          rw [hf]
          exact HandSPX.setFlight_upZ fl3 fun h4 hh4 up4 => wpAny_throw (tk _ _ ⟨a, B, sI, pins, σ', H', cls, d, rfl, J, nb, (up.trans up3).trans up4, .inr (.inr (hs ▸ hh4)), na, os, ag, w⟩)
        first | exact wpAny_bind (wpAny_pure (wpAny_bind fin)) | exact wpAny_bind fin
      | plain hc hsu r ih =>
        rintro ⟨b, hb1, hyes, hno⟩
        refine wpAny_handleBy_cons (codeAny_handlers_test (asked (b := b) hc ((PySem.W.exm_one (M := model X.prog X.w) J3.kIn LT hb1).here ?_))) (fun q => nomatch q)
        cases b with
        | false => exact ih (hno rfl)
        | true =>
          refine codeAny_handlers_suite (HandSPX.lands_againZ fl3 fun h4 fl4 up4 => ?_)
          have J4 : Inv X pins σ' H' { s' with heap := h4 } := J.landed nb fl4.1 ((up.trans up3).trans up4) os ag
          obtain ⟨oe4, vs4, he4, hz4, hd4⟩ := fl4.there
          refine wpAny_mono ((hsu a oe4 cls d (X.pn ++ pins) hz4 ⟨_, hd4⟩).run [] _ _ H' _ (J4.suite he4 hd4 na nL nF) (hyes rfl a na)) (fun f s6 hsp => ?_) (fun _ _ z => z.elim)
          cases f with
          | ret u => obtain ⟨v6, σ6, H6, S6, r6, q6⟩ := hsp; exact ⟨_, _, _, S6.unsuite ok, r6, q6⟩
          | _ => obtain ⟨σ6, H6, S6, q6⟩ := hsp; exact ⟨_, _, S6.unsuite ok, q6⟩
      | named hc hi hln hsu r ih =>
        rintro ⟨b, hb1, hyes, hno⟩
        refine wpAny_handleBy_cons (codeAny_handlers_test (asked (b := b) hc ((PySem.W.exm_one (M := model X.prog X.w) J3.kIn LT hb1).here ?_))) (fun q => nomatch q)
        cases b with
        | false => exact ih (hno rfl)
        | true =>
          refine codeAny_handlers_suite_as (HandSPX.lands_againZ fl3 fun h4 fl4 up4 => ?_)
          have J4 : Inv X pins σ' H' { s' with heap := h4 } := J.landed nb fl4.1 ((up.trans up3).trans up4) os ag
          obtain ⟨oe4, vs4, he4, hz4, hd4⟩ := fl4.there
          refine store_ok (X := X.suite a ((a, oe4) :: (X.pn ++ pins))) (v := .ref a) (J4.suite he4 hd4 na nL nF) hN hi (.inl hln) rfl (fun s5 S5 => ?_) (.inr hln)
          refine wpAny_mono ((hsu a oe4 cls d (X.pn ++ pins) hz4 ⟨_, hd4⟩).run [] s5 _ H' _ S5 (hyes rfl a na)) (fun f s6 hsp => ?_) (fun _ _ z => z.elim)
          cases f with
          | ret u => obtain ⟨v6, σ6, H6, S6, r6, q6⟩ := hsp; exact gone_ok (S6.unsuite ok) hN hi hln fun s7 J7 => ⟨_, _, _, J7, r6, q6⟩
          | _ => obtain ⟨σ6, H6, S6, q6⟩ := hsp; exact gone_ok (S6.unsuite ok) hN hi hln fun s7 J7 => ⟨_, _, J7, q6⟩
    exact go hh w
  · cases f with
    | next => obtain ⟨σ', H', J', q⟩ := hsp; exact wpAny_execs_nil ⟨σ', H', J'.ofTry ok, q⟩
    | ret u => obtain ⟨v, σ', H', J', r, q⟩ := hsp; exact ⟨v, σ', H', J'.ofTry ok, r, q⟩
    | _ => obtain ⟨σ', H', J', q⟩ := hsp; exact ⟨σ', H', J'.ofTry ok, q⟩
end
end LV

/-! LWe -/
set_option Elab.async false
set_option linter.all false
set_option maxRecDepth 100000
set_option maxHeartbeats 2000000
/-! LWe: try with several clauses, by value. -/
namespace LV
open PySem PySem.Spec PyProof.Rows SeqAt L2
abbrev Hd1 := (Str → Option Bool) × Option Nat × MS
/-- what stands behind a clause's suite -/
def endO : Option Nat → RS → RS
  | some i, r => tryEnd i r
  | none, .nx e s => .nx (clr e) s
  | none, .bk e s => .bk (clr e) s
  | none, .ct e s => .ct (clr e) s
  | none, .rt (.x _) _ => .bad
  | none, .rt u s => .rt u s
  | none, .exc _ _ _ => .bad
  | none, .bad => .bad
def startO : Option Nat → Xc → EnvU → EnvU
  | some i, x, e => e.set i (some (.x x))
  | none, _, e => e
def handle : List Hd1 → Xc → EnvU → Sto → RS
  | [], x, e, st => .exc x e st
  | (mt, o, ms) :: r, x, e, st => match mt x.c with
    | some true => endO o (ms (startO o x e) st)
    | some false => handle r x e st
    | none => .bad
def sTryMany (hs : List Hd1) (mb : MS) : MS := fun env st => match mb env st with
  | .exc x e1 st1 => handle hs x e1 st1
  | r => r
section
variable {X : Cx} {G : GE} {g : GI} {Wx : WX} {pos : Pos}
def tsOf (G : GE) (g : GI) (ms : MS) : Addr → Value → Option Addr → TS := fun a cls d => rdS G { g with xo := some (a, cls, d) } WF ms
inductive HdV (X : Cx) (G : GE) (g : GI) : List ExceptHandler → List Hd1 → List Cls1 → Prop
  | nil : HdV X G g [] [] []
  | plain {x : Str} {c : Value} {mt : Str → Option Bool} {ms : MS} {b₀ : Stmt} {suite : List Stmt} {np q : Pos} {hds : List ExceptHandler} {l : List Hd1} {l' : List Cls1} (hc : Names X x c) (hmt : Catch X.K G.cls c mt) (hsu : SuOk X b₀ suite (tsOf G g ms)) (r : HdV X G g hds l l') : HdV X G g (.ExceptHandler (some (.Name x np)) none (b₀ :: suite) q :: hds) ((mt, none, ms) :: l) ((c, none, tsOf G g ms) :: l')
  | named {x n : Str} {i : Nat} {c : Value} {mt : Str → Option Bool} {ms : MS} {b₀ : Stmt} {suite : List Stmt} {np q : Pos} {hds : List ExceptHandler} {l : List Hd1} {l' : List Cls1} (hc : Names X x c) (hmt : Catch X.K G.cls c mt) (hi : X.N[i]? = some n) (hln : X.env.kindOf n = some .local) (hsu : SuOk X b₀ suite (tsOf G g ms)) (r : HdV X G g hds l l') : HdV X G g (.ExceptHandler (some (.Name x np)) (some n) (b₀ :: suite) q :: hds) ((mt, some i, ms) :: l) ((c, some i, tsOf G g ms) :: l')
theorem HdV.to {hds : List ExceptHandler} {l : List Hd1} {l' : List Cls1} (h : HdV X G g hds l l') : HdM X hds l' := by
  induction h with
  | nil => exact .nil
  | plain hc _ hsu _ ih => exact .plain hc hsu ih
  | named hc _ hi hln hsu _ ih => exact .named hc hi hln hsu ih
/-- the suite's outcome behind the handled error -/
theorem suite_back {w w1 : W} {a : Addr} {C : Value} {dd : Option Addr} (hgx : g.xo = none) (l1 : Le w w1) (wx : w1.xo = none) {w2 : W} {st2 : Sto} {H2 : Hp} (l2 : Le ⟨w1.S, w1.ps, w1.L, some (a, C, dd)⟩ w2) (g2 : Good G { g with xo := some (a, C, dd) } w2 st2 H2) : Le w ⟨w2.S, w2.ps, w2.L, none⟩ ∧ Good G g ⟨w2.S, w2.ps, w2.L, none⟩ st2 H2 := by
  refine ⟨⟨l1.s.trans l2.s, l2.l.trans l1.l, wx.symm.trans l1.o, ?_⟩, ?_⟩
  · obtain ⟨r1, z1⟩ := l1.p
    obtain ⟨r2, z2⟩ := l2.p
    exact ⟨r1 ++ r2, by rw [z2, z1, List.append_assoc]⟩
  · have := g2.xo_to none
    have eg : ({ ({ g with xo := some (a, C, dd) } : GI) with xo := none } : GI) = g := by cases g; cases hgx; rfl
    rwa [eg] at this
theorem handle_ok {hds : List ExceptHandler} {l : List Hd1} {l' : List Cls1} (h : HdV X G g hds l l') (hgx : g.xo = none) {w w1 : W} {σ1 : L2.St} {e1 : EnvU} {st1 : Sto} {H1 : Hp} {xc : Xc} {cls : Value} {dd : Option Addr} {D : Ends} (l1 : Le w w1) (g1 : Good G g w1 st1 H1) (en1 : EnvAt G w1 σ1 e1) (x1 : XAt G w1 H1 cls dd xc)
    (q : OkS G g Wx w (handle l xc e1 st1) D) : wMix X.K Wx D l' cls dd σ1 H1 := by
  have wx : w1.xo = none := g1.xo.trans hgx
  obtain ⟨C, hC, rfl, hfs⟩ := id x1
  induction h with
  | nil => exact q w1 σ1 H1 _ dd l1 g1 en1 x1
  | @plain x c mt ms b₀ suite np qq hds l l' hc hmt hsu r ih =>
    unfold handle at q
    cases em : mt xc.c with
    | none => simp only [em] at q; exact (show False from q).elim
    | some b =>
      refine ⟨b, hmt _ _ _ hC em, fun hbt a ha => ?_, fun hbf => ?_⟩
      · subst hbt
        simp only [em] at q
        have g2 := g1.xo_to (some (a, Value.ref C, dd))
        have en2 : EnvAt G ⟨w1.S, w1.ps, w1.L, some (a, Value.ref C, dd)⟩ σ1 e1 := ⟨en1.len, fun j u e => let ⟨v, h1, h2⟩ := en1.at_ j u e; ⟨v, h1, h2.noX wx _⟩⟩
        refine ⟨_, _, st1, g2, en2, ?_⟩
        have q : OkS G g Wx w (endO none (ms e1 st1)) D := q
        cases r2 : ms e1 st1 with
        | bad => rw [r2] at q; exact q
        | exc z e s => rw [r2] at q; exact (show False from q).elim
        | nx e s => rw [r2] at q; intro w2 σ2 H2 l2 g2 en2; obtain ⟨b1, b2⟩ := suite_back hgx l1 wx l2 g2; exact q _ _ H2 b1 b2 (clr_at en2 none)
        | bk e s => rw [r2] at q; intro w2 σ2 H2 l2 g2 en2; obtain ⟨b1, b2⟩ := suite_back hgx l1 wx l2 g2; exact q _ _ H2 b1 b2 (clr_at en2 none)
        | ct e s => rw [r2] at q; intro w2 σ2 H2 l2 g2 en2; obtain ⟨b1, b2⟩ := suite_back hgx l1 wx l2 g2; exact q _ _ H2 b1 b2 (clr_at en2 none)
        | rt u s =>
          rw [r2] at q
          intro w2 v H2 l2 g2 x2
          obtain ⟨b1, b2⟩ := suite_back hgx l1 wx l2 g2
          cases u with
          | x z => exact (show False from q).elim
          | d z => exact q _ v H2 b1 b2 x2
          | c z => exact q _ v H2 b1 b2 x2
      · subst hbf
        simp only [em] at q
        exact ih q
  | @named x n i c mt ms b₀ suite np qq hds l l' hc hmt hi hln hsu r ih =>
    unfold handle at q
    cases em : mt xc.c with
    | none => simp only [em] at q; exact (show False from q).elim
    | some b =>
      refine ⟨b, hmt _ _ _ hC em, fun hbt a ha => ?_, fun hbf => ?_⟩
      · subst hbt
        simp only [em] at q
        have g2 := g1.xo_to (some (a, Value.ref C, dd))
        have en2 : EnvAt G ⟨w1.S, w1.ps, w1.L, some (a, Value.ref C, dd)⟩ (σ1.set i (some (.ref a))) (e1.set i (some (.x xc))) :=
          EnvAt.set (w := ⟨w1.S, w1.ps, w1.L, some (a, Value.ref C, dd)⟩) ⟨en1.len, fun j u e => let ⟨v, h1, h2⟩ := en1.at_ j u e; ⟨v, h1, h2.noX wx _⟩⟩ i (u := .x xc) ⟨a, _, dd, rfl, rfl, x1⟩
        refine ⟨_, _, st1, g2, en2, ?_⟩
        have q : OkS G g Wx w (tryEnd i (ms (e1.set i (some (.x xc))) st1)) D := q
        cases r2 : ms (e1.set i (some (.x xc))) st1 with
        | bad => rw [r2] at q; exact q
        | exc z e s => rw [r2] at q; exact (show False from q).elim
        | nx e s => rw [r2] at q; intro w2 σ2 H2 l2 g2 en2; obtain ⟨b1, b2⟩ := suite_back hgx l1 wx l2 g2; exact q _ _ H2 b1 b2 ((clr_at en2 none).unset i)
        | bk e s => rw [r2] at q; intro w2 σ2 H2 l2 g2 en2; obtain ⟨b1, b2⟩ := suite_back hgx l1 wx l2 g2; exact q _ _ H2 b1 b2 ((clr_at en2 none).unset i)
        | ct e s => rw [r2] at q; intro w2 σ2 H2 l2 g2 en2; obtain ⟨b1, b2⟩ := suite_back hgx l1 wx l2 g2; exact q _ _ H2 b1 b2 ((clr_at en2 none).unset i)
        | rt u s =>
          rw [r2] at q
          intro w2 v H2 l2 g2 x2
          obtain ⟨b1, b2⟩ := suite_back hgx l1 wx l2 g2
          cases u with
          | x z => exact (show False from q).elim
          | d z => exact q _ v H2 b1 b2 x2
          | c z => exact q _ v H2 b1 b2 x2
      · subst hbf
        simp only [em] at q
        exact ih q
theorem ss_tryMany {body : List Stmt} {h₀ : ExceptHandler} {hds : List ExceptHandler} {l : List Hd1} {l' : List Cls1} {mb : MS} (hgx : g.xo = none) (hs : X.stack = X.env :: X.outer) (hf : X.env.frame = some X.env.locals) (hN : X.N.Nodup) (tk : Takes X Wx)
    (hb : ∀ (W' : WX) (pn : List (Addr × Obj)) (xe : Value → Shared → Prop), Takes (X.tr pn xe) W' → PassesOwn (model X.prog X.w) X.A X.env xe → PSs (X.tr pn xe) body (rdS G g W' mb)) (hh : HdV X G g (h₀ :: hds) l l') :
    PS X (.Try body (h₀ :: hds) [] [] pos) (rdS G g Wx (sTryMany l mb)) := by
  refine PS.imp (ps_try_mix hs hf hN tk hb hh.to) fun D σ H ⟨w, env, st, hg, he, q⟩ => ⟨w, env, st, hg, he, ?_⟩
  have q : OkS G g Wx w (sTryMany l mb env st) D := q
  unfold sTryMany at q
  cases r : mb env st with
  | exc xc e1 st1 =>
    rw [r] at q
    intro w1 σ1 H1 cls dd l1 g1 en1 x1
    exact handle_ok hh hgx l1 g1 en1 x1 q
  | _ => rw [r] at q; exact q
end
end LV

/-! LWf -/
set_option Elab.async false
set_option linter.all false
set_option maxRecDepth 100000
set_option maxHeartbeats 2000000
/-! LWf: text * n, text += text, sep.join(list). -/
namespace LV
open PySem PySem.Spec PyProof.Rows SeqAt L2
theorem foldl_repN (its : List Nat) : ∀ (k : Nat) (acc : List Nat), (List.replicate k its.toArray).foldl (· ++ ·) acc.toArray = (acc ++ (List.replicate k its).flatten).toArray
  | 0, acc => by simp
  | k + 1, acc => by
    rw [List.replicate_succ, List.foldl_cons, show acc.toArray ++ its.toArray = (acc ++ its).toArray by simp, foldl_repN its k (acc ++ its), List.replicate_succ, List.flatten_cons, List.append_assoc]
section
variable {X : Cx} {G : GE} {g : GI} {Wx : WX} {pos p apos cpos : Pos} {a b e : Expr}
def rMulS : R2 := fun x y H Q => ∃ (l : List Nat) (n : Int), x = .str (S2 l) ∧ y = .int n ∧ n.natAbs ≤ 1000 ∧ l.length ≤ 1000 ∧ Q (.str (S2 (List.replicate n.toNat l).flatten)) H
theorem op_mulS : OpR X (binaryOp .Mult) rMulS := by
  intro pins s σ H x y v u Q I rx ry h
  obtain ⟨l, n, rfl, rfl, hn, hl, q⟩ := h
  obtain ⟨t, rfl⟩ := rx
  obtain ⟨t', rfl⟩ := ry
  have hr : (decide (n < -(2 ^ 63 : Int)) || decide (n ≥ 2 ^ 63)) = false := by
    rw [Bool.or_eq_false_iff, decide_eq_false_iff_not, decide_eq_false_iff_not]; omega
  have hlen : (S2 l).length = l.length := S2_len l
  refine PySem.P.mul_str hr (fun h1 _ => ?_) (fun h1 _ => ?_) ?_
  · rw [hlen]
    have h1' : 0 < n := by omega
    have : (1000 : Int) ≤ (2 ^ 63 - 1) / n := by rw [Int.le_ediv_iff_mul_le h1']; omega
    omega
  · unfold Builtin.Str.tooLong
    rw [hlen, decide_eq_false_iff_not]
    have h2 : l.length * n.toNat ≤ 1000 * 1000 := Nat.mul_le_mul hl (by omega)
    show ¬ (l.length * n.toNat > 2 ^ 24)
    omega
  · by_cases h1 : n < 1
    · rw [if_pos h1]
      have e0 : n.toNat = 0 := by omega
      rw [e0] at q
      exact ⟨by decide, .str _, H, I.tok _, ⟨_, rfl⟩, q⟩
    · rw [if_neg h1]
      by_cases h2 : (n == 1 || (S2 l).length == 0) = true
      · rw [if_pos h2]
        have e : (List.replicate n.toNat l).flatten = l := by
          rw [hlen, Bool.or_eq_true, beq_iff_eq, beq_iff_eq] at h2
          rcases h2 with rfl | h2
          · simp
          · rw [List.eq_nil_of_length_eq_zero h2]; simp
        rw [e] at q
        exact ⟨.str _, H, I, ⟨t, rfl⟩, q⟩
      · rw [if_neg h2]
        have e : (⟨(List.replicate n.toNat (S2 l).cps).foldl (· ++ ·) #[]⟩ : Str) = S2 (List.replicate n.toNat l).flatten := by
          have := foldl_repN l n.toNat []
          rw [List.nil_append] at this
          exact congrArg Str.mk this
        rw [e]
        refine ⟨?_, .str _, H, I.tok _, ⟨_, rfl⟩, q⟩
        rw [S2_len, List.length_flatten, List.map_replicate, List.sum_replicate_nat]
        have h2 : n.toNat * l.length ≤ 1000 * 1000 := Nat.mul_le_mul (by omega) hl
        show _ ≤ 2 ^ 24
        omega
def dMulS : OD := fun x y => match x, y with
  | .str l, .int n => if n.natAbs ≤ 1000 ∧ l.length ≤ 1000 then some (.str (List.replicate n.toNat l).flatten) else none
  | _, _ => none
theorem x_mulS {ma mb : ME} (ha : PE X a (rdE G g Wx ma)) (hb : PE X b (rdE G g Wx mb)) : PE X (.BinOp a .Mult b pos) (rdE G g Wx (oL dMulS ma mb)) := by
  refine se_op (SrvD.lift (r := rMulS) ?_) op_mulS ha hb
  intro S H x y v u d Q e hx hy h f
  unfold dMulS at h
  split at h
  · rename_i l n
    split at h
    · rename_i hc
      cases h
      cases (show v = V.str (S2 l) from hx)
      cases (show u = V.int n from hy)
      exact ⟨l, n, rfl, rfl, hc.1, hc.2, f.str e⟩
    · cases h
  · cases h
/-- name += text -/
def dIAddS : OD := fun x y => match x, y with
  | .str p, .str q => if p.length + q.length ≤ sizeL then some (.str (p ++ q)) else none
  | _, _ => none
theorem dIAddS_serve : ∃ r, OpR X (inplaceOp .Add) r ∧ SrvD G r dIAddS := by
  refine ⟨_, iop_add_str, ?_⟩
  intro S H x y v u d Q e hx hy h f
  unfold dIAddS at h
  split at h
  · rename_i p q
    split at h
    · rename_i hc
      cases h
      cases (show v = V.str (S2 p) from hx)
      cases (show u = V.str (S2 q) from hy)
      refine ⟨_, _, rfl, rfl, by rw [S2_len, S2_len]; exact hc, ?_⟩
      rw [show S2 p ++ S2 q = S2 (p ++ q) from S2_add p q]
      exact f.str e
    · cases h
  · cases h
theorem x_iaddS {i : Nat} {x : Str} {m : ME} {pos' : Pos} (hN : X.N.Nodup) (hi : X.N[i]? = some x) (hx : Loc X.env.scope x) (he : PE X e (rdE G g Wx m)) (hf : X.fn x = true ∨ X.env.scope.names.lookup x = some .local := by first | exact .inl rfl | exact .inr rfl | assumption) :
    PS X (.AugAssign (.Name x pos') .Add e pos) (rdS G g Wx (sAug i (lift2 dIAddS) m)) := by obtain ⟨r, h1, h2⟩ := dIAddS_serve (G := G) (X := X); exact ss_aug h2.lift hN hi hx he h1 hf
/-- sep.join(list of texts) -/
def oJoin : OM := fun u us st => match get st u, us with
  | some (.str s), [v] => (match get st v with
    | some (.lst ds) => (match strsOf ds with
      | some L => if (L.map List.length).sum + L.length * s.length ≤ 16777216 then .ok (.d (.str (TL.joinL s L))) st else .bad
      | none => .bad)
    | _ => .bad)
  | _, _ => .bad
theorem oJoin_serve {K : PySem.W.Frag} (hK : K = G.K) : SrvM G g Wx (fun x xs H Q => ∃ a p, ∃ ys : List Str, x = .str a ∧ xs = [.ref p] ∧ (SqL K H p (ys.map V.str) ∨ SqT K H p (ys.map V.str)) ∧ (ys.map (·.length)).sum + ys.length * a.length ≤ 16777216 ∧ Q (.str (Txt.join a ys)) H) oJoin := by
  intro w σ st H u us v vs Q hg hu hv h
  unfold oJoin at h
  cases e1 : get st u with
  | none => simp only [e1] at h; exact (show False from h).elim
  | some d =>
    cases d with
    | str s =>
      have ev := hg.view hu e1
      simp only [e1] at h
      split at h
      · rename_i s' y e2
        cases e2
        cases e3 : get st y with
        | none => simp only [e3] at h; exact (show False from h).elim
        | some d =>
          cases d with
          | lst ds =>
            simp only [e3] at h
            cases e4 : strsOf ds with
            | none => simp only [e4] at h; exact (show False from h).elim
            | some L =>
              simp only [e4] at h
              split at h
              · rename_i hz
                cases (show v = V.str (S2 s) from ev)
                obtain ⟨z, rfl, hz2⟩ := one_of hv
                obtain ⟨p, zs, rfl, h1, h2⟩ := hg.view hz2 e3
                rw [strsOf_eq e4] at h2
                have h3 := h2.toStrs
                subst h3
                refine ⟨S2 s, p, L.map S2, rfl, rfl, .inl (SqL.of h1), ?_, ?_⟩
                · rw [List.map_map, List.length_map, S2_len, show ((fun x : Str => x.length) ∘ S2) = List.length from funext fun l => S2_len l]
                  exact hz
                · rw [show Txt.join (S2 s) (L.map S2) = S2 (TL.joinL s L) from SX.join_S s L]
                  exact h w _ H (Le.refl _) hg rfl
              · exact (show False from h).elim
          | _ => simp only [e3] at h; exact (show False from h).elim
      · exact (show False from h).elim
    | _ => simp only [e1] at h; exact (show False from h).elim
theorem exm_two {K : PySem.W.Frag} {S T : Addr} {b : Bool} (h1 : PySem.W.subIn K (.ref T) (.type "BaseException") = some true) (h2 : PySem.W.isClsIn K T = true) (h3 : PySem.W.typeIn K (.ref T) = some (.type "type")) (h4 : PySem.W.subIn K (.ref S) (.ref T) = some b) : PySem.W.exmOne K (.ref S) (.ref T) = some b := by
  have hc : (PySem.W.clsIn K T).isSome = true := h2
  have k : PySem.W.kitCls K (.ref S) (.ref T) = some b := by
    show (if ((PySem.W.clsIn K T).isSome && PySem.W.typeIn K (.ref T) == some (.type "type")) = true then PySem.W.subIn K (.ref S) (.ref T) else none) = some b
    rw [hc, h3, if_pos (by rfl), h4]
  show (if (PySem.W.subIn K (.ref T) (.type "BaseException") == some true) = true then PySem.W.kitCls K (.ref S) (.ref T) else none) = some b
  rw [h1, if_pos (by rfl), k]
/-- a class with a field and a class without: what one clause catches -/
theorem joinL_nil : ∀ L : List (List Nat), TL.joinL [] L = L.flatten := by
  intro L
  induction L with
  | nil => rfl
  | cons a r ih => cases r with
    | nil => simp [TL.joinL]
    | cons b r => simp [TL.joinL] at ih ⊢; exact ih
end
end LV

/-! K13a -/
set_option Elab.async false
set_option linter.all false
set_option maxRecDepth 100000
set_option maxHeartbeats 4000000
/-! printed by gen.py: what each def computes, by value -/
namespace K13
open LV
def mt_BadBits : PySem.Str → Option Bool := fun s => if s = "BadBits" then some true else if s = "BadFormat" then some false else if s = "BadWay" then some false else if s = "Left" then some false else if s = "NoBits" then some false else if s = "TooFew" then some false else none
def mt_Left : PySem.Str → Option Bool := fun s => if s = "BadBits" then some false else if s = "BadFormat" then some false else if s = "BadWay" then some false else if s = "Left" then some true else if s = "NoBits" then some false else if s = "TooFew" then some false else none
def mt_NoBits : PySem.Str → Option Bool := fun s => if s = "BadBits" then some false else if s = "BadFormat" then some false else if s = "BadWay" then some false else if s = "Left" then some false else if s = "NoBits" then some true else if s = "TooFew" then some false else none
def mt_TooFew : PySem.Str → Option Bool := fun s => if s = "BadBits" then some false else if s = "BadFormat" then some false else if s = "BadWay" then some false else if s = "Left" then some false else if s = "NoBits" then some false else if s = "TooFew" then some true else none
def ord_read_bits_coding : Ord := fun _ _ zs => match zs with | [x0, x1] => [x1, x0] | zs => zs
def ord_text_of_bits_coding : Ord := fun _ _ zs => match zs with | [x0, x1] => [x1, x0] | zs => zs
def b_is_letters_0 : MS :=
  (sSeq (sIf (cL dNotIn (oL dIx (mV 0) (mV 1)) (mC (.str [97, 98, 99, 100, 101, 102, 103, 104, 105, 106, 107, 108, 109, 110, 111, 112, 113, 114, 115, 116, 117, 118, 119, 120, 121, 122])))
  (sRet (mC (.bl false)))
  sNx)
  (sIf (tAn (cL dGt (mV 1) (mC (.int 0))) (cL dGe (oL dIx (mV 0) (oL dSub (mV 1) (mC (.int 1)))) (oL dIx (mV 0) (mV 1))))
  (sRet (mC (.bl false)))
  sNx))
def m_is_letters : MS :=
  (sSeq (sIf (tOr' (tNo (tTr (mIsi "str" (mV 0)))) (tOr' (cL dLt (mFn fLn (aC (mV 0) aN)) (mC (.int 1))) (cL dGt (mFn fLn (aC (mV 0) aN)) (mC (.int 4)))))
  (sRet (mC (.bl false)))
  sNx)
  (sSeq (sFor (iR1 (aC (mFn fLn (aC (mV 0) aN)) aN)) (gN 1)
  b_is_letters_0)
  (sRet (mC (.bl true)))))
def F_is_letters : Fm := fnM 2 m_is_letters
def b_is_bits_0 : MS :=
  (sIf (tAn (cL dNe (mV 1) (mC (.str [48]))) (cL dNe (mV 1) (mC (.str [49]))))
  (sRet (mC (.bl false)))
  sNx)
def m_is_bits : MS :=
  (sSeq (sIf (tNo (tTr (mIsi "str" (mV 0))))
  (sRet (mC (.bl false)))
  sNx)
  (sSeq (sFor (iS (mV 0)) (gN 1)
  b_is_bits_0)
  (sRet (mC (.bl true)))))
def F_is_bits : Fm := fnM 2 m_is_bits
def m_is_integer : MS :=
  (sRet (vAn (mIsi "int" (mV 0)) (vNo (mIsi "bool" (mV 0)))))
def F_is_integer : Fm := fnM 1 m_is_integer
def m_is_copy : MS :=
  (sSeq (sIf (tOr' (tNo (tTr (mIsi "tuple" (mV 0)))) (cL dNe (mFn fLn (aC (mV 0) aN)) (mC (.int 2))))
  (sRet (mC (.bl false)))
  sNx)
  (sSeq (sIf (tOr' (tNo (tTr (mCallA F_is_integer 1 (aC (oL dIx (mV 0) (mC (.int 0))) aN)))) (tNo (tTr (mCallA F_is_integer 1 (aC (oL dIx (mV 0) (mC (.int 1))) aN)))))
  (sRet (mC (.bl false)))
  sNx)
  (sRet (vAn (mChain (lift2 dLe) (lift2 dLe) (mC (.int 2)) (oL dIx (mV 0) (mC (.int 0))) (mC (.int 8))) (mChain (lift2 dLe) (lift2 dLe) (mC (.int 1)) (oL dIx (mV 0) (mC (.int 1))) (mC (.int 8)))))))
def F_is_copy : Fm := fnM 1 m_is_copy
def m_is_letter : MS :=
  (sRet (vAn (mIsi "str" (mV 0)) (vAn (oL dEq (mFn fLn (aC (mV 0) aN)) (mC (.int 1))) (oL dIn (mV 0) (mC (.str [97, 98, 99, 100, 101, 102, 103, 104, 105, 106, 107, 108, 109, 110, 111, 112, 113, 114, 115, 116, 117, 118, 119, 120, 121, 122]))))))
def F_is_letter : Fm := fnM 1 m_is_letter
def b_has_keys_0 : MS :=
  (sIf (tAn (cL dNe (mV 2) (mC (.str [101, 110, 100]))) (tAn (tNo (tTr (mCallA F_is_copy 1 (aC (mV 2) aN)))) (tNo (tAn (tTr (mCallA F_is_letter 1 (aC (mV 2) aN))) (cL dIn (mV 2) (mV 0))))))
  (sRet (mC (.bl false)))
  sNx)
def b_has_keys_1 : MS :=
  (sIf (cL dNotInK (mV 3) (mV 1))
  (sRet (mC (.bl false)))
  sNx)
def m_has_keys : MS :=
  (sSeq (sIf (tOr' (tNo (tTr (mIsi "dict" (mV 1)))) (cL dGt (mFn fLn (aC (mV 1) aN)) (mC (.int 40))))
  (sRet (mC (.bl false)))
  sNx)
  (sSeq (sFor (iKs (mV 1)) (gN 2)
  b_has_keys_0)
  (sSeq (sFor (iS (mV 0)) (gN 3)
  b_has_keys_1)
  (sRet (oL dInK (mC (.str [101, 110, 100])) (mV 1))))))
def F_has_keys : Fm := fnM 4 m_has_keys
def b_are_words_0 : MS :=
  (sIf (tOr' (tNo (tTr (mCallA F_is_bits 1 (aC (mV 2) aN)))) (tOr' (cL dLt (mFn fLn (aC (mV 2) aN)) (mC (.int 1))) (cL dGt (mFn fLn (aC (mV 2) aN)) (mC (.int 12)))))
  (sRet (mC (.bl false)))
  sNx)
def b_are_words_1 : MS :=
  (sIf (tTr (mMeth "str" oSw (oL dIx (mV 3) (oL dAdd (mV 4) (mC (.int 1)))) (aC (oL dIx (mV 3) (mV 4)) aN)))
  (sRet (mC (.bl false)))
  sNx)
def m_are_words : MS :=
  (sSeq (sIf (tNo (tTr (mCallA F_has_keys 2 (aC (mV 0) (aC (mV 1) aN)))))
  (sRet (mC (.bl false)))
  sNx)
  (sSeq (sFor (iVs (mV 1)) (gN 2)
  b_are_words_0)
  (sSeq (sSet 3 (mFz (nFn fSorted (aC (mFz (nLc (iVs (mV 1)) [5, 2] (gN 2) tTrue (mV 2))) aN))))
  (sSeq (sFor (iR1 (aC (oL dSub (mFn fLn (aC (mV 3) aN)) (mC (.int 1))) aN)) (gN 4)
  b_are_words_1)
  (sRet (mC (.bl true)))))))
def F_are_words : Fm := fnM 6 m_are_words
def m_in_order : MS :=
  (sSeq (sSet 2 (mFz (nFn fSorted (aC (mFz (nLc (iKs (mV 1)) [3, 4] (gN 4) (tTr (mIsi "tuple" (mV 4))) (mV 4))) aN))))
  (sRet (oL dAdd (oL dAdd (mFz (nFn fList (aC (mV 0) aN))) (mV 2)) (mFz (nLst (aC (mC (.str [101, 110, 100])) aN))))))
def F_in_order : Fm := fnM 5 m_in_order
def m_needed : MS :=
  (sSeq (sIf (tTr (mIsi "tuple" (mV 0)))
  (sRet (oL dIx (mV 0) (mC (.int 1))))
  sNx)
  (sRet (mC (.int 0))))
def F_needed : Fm := fnM 1 m_needed
def m_reach : MS :=
  (sSeq (sIf (tTr (mIsi "tuple" (mV 0)))
  (sRet (oL dIx (mV 0) (mC (.int 0))))
  sNx)
  (sSeq (sIf (cL dEq (mV 0) (mC (.str [101, 110, 100])))
  (sRet (mC (.int 0)))
  sNx)
  (sRet (mC (.int 1)))))
def F_reach : Fm := fnM 1 m_reach
def b_heads_of_0 : MS :=
  (sSeq (sSet 5 (mSl (mV 3) oN (oS (mV 4))))
  (sAsg (mFn fMin (aC (mGet2 (mV 1) (mV 5) (mCallA F_needed 1 (aC (mV 2) aN))) (aC (mCallA F_needed 1 (aC (mV 2) aN)) aN))) (gSubK (mV 1) (mV 5))))
def b_heads_of_1 : MS :=
  (sFor (iR1 (aC (oL dAdd (mFn fLn (aC (mV 3) aN)) (mC (.int 1))) aN)) (gN 4)
  b_heads_of_0)
def m_heads_of : MS :=
  (sSeq (sSet 1 (mCl nDic0))
  (sSeq (sFor (iPs (mV 0)) (gTu 2 (gsC (gN 2) (gsC (gN 3) gsN)))
  b_heads_of_1)
  (sRet (mFrz (mV 1)))))
def F_heads_of : Fm := fnM 6 m_heads_of
def m_Format_init : MS :=
  (sSeq (sIf (tNo (tTr (mCallA F_is_letters 1 (aC (mV 1) aN))))
  (sRaise "BadFormat" "part" (mC (.str [108, 101, 116, 116, 101, 114, 115])))
  sNx)
  (sSeq (sIf (tNo (tTr (mCallA F_are_words 2 (aC (mV 1) (aC (mV 2) aN)))))
  (sRaise "BadFormat" "part" (mC (.str [119, 111, 114, 100, 115])))
  sNx)
  (sSeq (sFldC "Format" "letters" (mV 0) (mV 1))
  (sSeq (sFldC "Format" "order" (mV 0) (mCallA F_in_order 2 (aC (mV 1) (aC (mV 2) aN))))
  (sSeq (sFldC "Format" "coded_words" (mV 0) (mFrz (mCl (nDc (iL (mFld "Format" "order" (mV 0))) [3, 4] (gN 4) tTrue (mV 4) (oL dDx (mV 2) (mV 4))))))
  (sSeq (sFldC "Format" "prices" (mV 0) (mFrz (mCl (nDc (iL (mFld "Format" "order" (mV 0))) [3, 4] (gN 4) tTrue (mV 4) (mFn fLn (aC (oL dDx (mV 2) (mV 4)) aN))))))
  (sSeq (sFldC "Format" "by_word" (mV 0) (mFrz (mCl (nDc (iL (mFld "Format" "order" (mV 0))) [3, 4] (gN 4) tTrue (oL dDx (mV 2) (mV 4)) (mV 4)))))
  (sSeq (sFldC "Format" "heads" (mV 0) (mCallA F_heads_of 1 (aC (mFld "Format" "coded_words" (mV 0)) aN)))
  (sSeq (sFldC "Format" "copy_list" (mV 0) (mFz (nLc (iL (mFld "Format" "order" (mV 0))) [3, 4] (gN 4) (tTr (mIsi "tuple" (mV 4))) (mV 4))))
  (sSeq (sFldC "Format" "window" (mV 0) (mFn fMax (aC (mFz (nLc (iL (mFld "Format" "order" (mV 0))) [3, 4] (gN 4) tTrue (mCallA F_needed 1 (aC (mV 4) aN)))) aN)))
  (sFldC "Format" "longest" (mV 0) (mFn fMax (aC (mFz (nLc (iL (mFld "Format" "order" (mV 0))) [3, 4] (gN 4) tTrue (mCallA F_reach 1 (aC (mV 4) aN)))) aN)))))))))))))
def F_Format_init : Fm := fnM 5 m_Format_init
def m_Format_has : MS :=
  (sSeq (sIf (tAn (tNo (tTr (mCallA F_is_copy 1 (aC (mV 1) aN)))) (tNo (tTr (mIsi "str" (mV 1)))))
  (sRet (mC (.bl false)))
  sNx)
  (sRet (oL dInK (mV 1) (mFld "Format" "prices" (mV 0)))))
def F_Format_has : Fm := fnM 2 m_Format_has
def b_check_way_0 : MS :=
  (sSeq (sIf (tOr' (tNo (tTr (mOwn "Format" "has" F_Format_has 2 (mV 0) (aC (mV 4) aN)))) (tOr' (cL dEq (mV 4) (mC (.str [101, 110, 100]))) (cL dGt (mCallA F_needed 1 (aC (mV 4) aN)) (mV 2))))
  (sRaise "BadWay" "at" (mV 3))
  sNx)
  (sAug 2 (lift2 (iI fun i j => i + j)) (mCallA F_reach 1 (aC (mV 4) aN))))
def m_check_way : MS :=
  (sSeq (sIf (tNo (tTr (mIsi "list" (mV 1))))
  (sRaise "BadWay" "at" (mNeg (mC (.int 1))))
  sNx)
  (sSeq (sSet 2 (mC (.int 0)))
  (sFor (iEn (aC (mV 1) aN)) (gTu 2 (gsC (gN 3) (gsC (gN 4) gsN)))
  b_check_way_0)))
def F_check_way : Fm := fnM 5 m_check_way
def m_written : MS :=
  (sSeq (sExpr (mCallA F_check_way 2 (aC (mV 0) (aC (mV 1) aN))))
  (sRet (oL dAdd (mMeth "str" oJoin (mC (.str [])) (aC (mFz (nLc (iL (mV 1)) [2, 3] (gN 3) tTrue (oL dDx (mFld "Format" "coded_words" (mV 0)) (mV 3)))) aN)) (oL dDx (mFld "Format" "coded_words" (mV 0)) (mC (.str [101, 110, 100]))))))
def F_written : Fm := fnM 4 m_written
def m_law_start : MS :=
  (sRet (mCl (nLst (aC (mFz (nFn fList (aC (mV 0) aN))) (aC (mC (.int 0)) (aC (mC (.int 0)) (aC (mC (.int 1234577)) aN)))))))
def F_law_start : Fm := fnM 1 m_law_start
def m_law_pull : MS :=
  (sSeq (sIf (tAn (cL dEq (oL dIx (mV 0) (mC (.int 2))) (mC (.int 0))) (cL dLt (oL dIx (mV 0) (mC (.int 1))) (mFn fLn (aC (oL dIx (mV 0) (mC (.int 0))) aN))))
  (sSeq (sSet 2 (oL dIx (oL dIx (mV 0) (mC (.int 0))) (oL dIx (mV 0) (mC (.int 1)))))
  (sSeq (sAsg (oL dAdd (oL dIx (mV 0) (mC (.int 1))) (mC (.int 1))) (gSubC (mV 0) (mC (.int 1))))
  (sIf (cL dGe (mV 2) (oL dPow (mC (.int 10)) (mC (.int 18))))
  (sAsg (mV 2) (gSubC (mV 0) (mC (.int 2))))
  (sAsg (oL dMod (mFn fInt (aC (oL dAdd (oL dAdd (oL dMul (oL dIx (mV 0) (mC (.int 3))) (mC (.int 48271))) (oL dMod (mFn fInt (aC (mV 2) aN)) (mC (.int 2147483629)))) (mC (.int 1))) aN)) (mC (.int 2147483647))) (gSubC (mV 0) (mC (.int 3)))))))
  sNx)
  (sSeq (sIf (cL dGt (oL dIx (mV 0) (mC (.int 2))) (mC (.int 0)))
  (sSeq (sSet 3 (oL dMod (mFn fInt (aC (oL dIx (mV 0) (mC (.int 2))) aN)) (mV 1)))
  (sSeq (sAsg (oL dDiv (oL dIx (mV 0) (mC (.int 2))) (mV 1)) (gSubC (mV 0) (mC (.int 2))))
  (sRet (mV 3))))
  sNx)
  (sSeq (sAsg (oL dMod (mFn fInt (aC (oL dAdd (oL dMul (oL dIx (mV 0) (mC (.int 3))) (mC (.int 69621))) (mC (.int 11))) aN)) (mC (.int 2147483647))) (gSubC (mV 0) (mC (.int 3))))
  (sSeq (sSet 3 (oL dMod (mFn fInt (aC (oL dAdd (oL dMul (oL dIx (mV 0) (mC (.int 3))) (mC (.int 40692))) (oL dDiv (oL dIx (mV 0) (mC (.int 3))) (mC (.int 1009)))) aN)) (mC (.int 2147483399))))
  (sRet (oL dMod (mFn fInt (aC (oL dDiv (mV 3) (mC (.int 16))) aN)) (mV 1)))))))
def F_law_pull : Fm := fnM 4 m_law_pull
def b_law_alphabet_0 : MS :=
  (sSeq (sSet 5 (oL dAdd (mV 3) (mCallA F_law_pull 2 (aC (mV 0) (aC (oL dSub (oL dAdd (oL dSub (mC (.int 27)) (mV 1)) (mV 4)) (mV 3)) aN)))))
  (sSeq (sSet 2 (oL dAdd (mV 2) (oL dIx (mC (.str [97, 98, 99, 100, 101, 102, 103, 104, 105, 106, 107, 108, 109, 110, 111, 112, 113, 114, 115, 116, 117, 118, 119, 120, 121, 122])) (mV 5))))
  (sSet 3 (oL dAdd (mV 5) (mC (.int 1))))))
def m_law_alphabet : MS :=
  (sSeq (sSet 2 (mC (.str [])))
  (sSeq (sSet 3 (mC (.int 0)))
  (sSeq (sFor (iR1 (aC (mV 1) aN)) (gN 4)
  b_law_alphabet_0)
  (sRet (mV 2)))))
def F_law_alphabet : Fm := fnM 6 m_law_alphabet
def b_law_copies_0 : MS :=
  (sSeq (sSet 6 (mTup (aC (oL dAdd (mC (.int 2)) (mCallA F_law_pull 2 (aC (mV 0) (aC (oL dSub (mV 2) (mC (.int 1))) aN)))) (aC (oL dAdd (mC (.int 1)) (mCallA F_law_pull 2 (aC (mV 0) (aC (mV 3) aN)))) aN))))
  (sIf (cL dNotIn (mV 6) (mV 4))
  (sExpr (mMeth "list" oAppend (mV 4) (aC (mV 6) aN)))
  sNx))
def m_law_copies : MS :=
  (sSeq (sSet 4 (mCl (nLst aN)))
  (sSeq (sFor (iR1 (aC (mV 1) aN)) (gN 5)
  b_law_copies_0)
  (sRet (mFrz (mV 4)))))
def F_law_copies : Fm := fnM 7 m_law_copies
def b_law_leaves_0 : MS :=
  (sIf (tAn (cL dGt (mFn fLn (aC (oL dIx (mV 2) (mV 4)) aN)) (mC (.int 11))) (cL dLt (mFn fLn (aC (oL dIx (mV 2) (mV 5)) aN)) (mFn fLn (aC (oL dIx (mV 2) (mV 4)) aN))))
  (sSet 4 (mV 5))
  sNx)
def b_law_leaves_1 : MS :=
  (sSeq (sSet 4 (mCallA F_law_pull 2 (aC (mV 0) (aC (mFn fLn (aC (mV 2) aN)) aN))))
  (sSeq (sFor (iR1 (aC (mFn fLn (aC (mV 2) aN)) aN)) (gN 5)
  b_law_leaves_0)
  (sSeq (sSet 6 (mMeth "list" oPopAt (mV 2) (aC (mV 4) aN)))
  (sSet 2 (mCl (nAdd (mV 2) (mFz (nLst (aC (oL dAdd (mV 6) (mC (.str [48]))) (aC (oL dAdd (mV 6) (mC (.str [49]))) aN))))))))))
def m_law_leaves : MS :=
  (sSeq (sSet 2 (mCl (nLst (aC (mC (.str [48])) (aC (mC (.str [49])) aN)))))
  (sSeq (sFor (iR1 (aC (oL dSub (mV 1) (mC (.int 2))) aN)) (gN 3)
  b_law_leaves_1)
  (sRet (mV 2))))
def F_law_leaves : Fm := fnM 7 m_law_leaves
def b_law_plain_0 : MS :=
  (sSeq (sSet 7 (mMeth "list" oPopAt (mV 3) (aC (mCallA F_law_pull 2 (aC (mV 0) (aC (mFn fLn (aC (mV 3) aN)) aN))) aN)))
  (sAsg (mMeth "list" oPopAt (mV 4) (aC (mCallA F_law_pull 2 (aC (mV 0) (aC (mFn fLn (aC (mV 4) aN)) aN))) aN)) (gSubK (mV 5) (mV 7))))
def m_law_plain : MS :=
  (sSeq (sSet 3 (mCl (nAdd (oL dAdd (mFz (nFn fList (aC (mV 1) aN))) (mFz (nLst (aC (mC (.str [101, 110, 100])) aN)))) (mV 2))))
  (sSeq (sSet 4 (mCallA F_law_leaves 2 (aC (mV 0) (aC (oL dAdd (mFn fLn (aC (mV 3) aN)) (mCallA F_law_pull 2 (aC (mV 0) (aC (mC (.int 3)) aN)))) aN))))
  (sSeq (sSet 5 (mCl nDic0))
  (sSeq (sFor (iR1 (aC (mFn fLn (aC (mV 3) aN)) aN)) (gN 6)
  b_law_plain_0)
  (sRet (mFz (nLst (aC (mV 1) (aC (mFrz (mV 5)) aN)))))))))
def F_law_plain : Fm := fnM 8 m_law_plain
def b_law_way_0 : MS :=
  (sSeq (sSet 3 (oL dIx (mV 4) (mCallA F_law_pull 2 (aC (mV 0) (aC (mFn fLn (aC (mV 4) aN)) aN)))))
  (sSeq (sIf (tOr' (cL dEq (mV 3) (mC (.str [101, 110, 100]))) (tAn (tTr (mIsi "tuple" (mV 3))) (cL dGt (oL dIx (mV 3) (mC (.int 1))) (mV 6))))
  (sSet 3 (oL dIx (oL dIx (mV 1) (mC (.int 0))) (mCallA F_law_pull 2 (aC (mV 0) (aC (mFn fLn (aC (oL dIx (mV 1) (mC (.int 0))) aN)) aN)))))
  sNx)
  (sSeq (sExpr (mMeth "list" oAppend (mV 5) (aC (mV 3) aN)))
  (sIf (tTr (mIsi "tuple" (mV 3)))
  (sSet 6 (oL dAdd (mV 6) (oL dIx (mV 3) (mC (.int 0)))))
  (sSet 6 (oL dAdd (mV 6) (mC (.int 1))))))))
def m_law_way : MS :=
  (sSeq (sSet 4 (mFz (nLc (iKs (oL dIx (mV 1) (mC (.int 1)))) [8, 3] (gN 3) tTrue (mV 3))))
  (sSeq (sSet 5 (mCl (nLst aN)))
  (sSeq (sSet 6 (mC (.int 0)))
  (sSeq (sFor (iR1 (aC (mV 2) aN)) (gN 7)
  b_law_way_0)
  (sRet (mFrz (mV 5)))))))
def F_law_way : Fm := fnM 9 m_law_way
def b_law_copied_0 : MS :=
  (sAsg (oL dDx (mV 0) (mV 2)) (gSubK (mV 1) (mV 2)))
def m_law_copied : MS :=
  (sSeq (sSet 1 (mCl nDic0))
  (sSeq (sFor (iKs (mV 0)) (gN 2)
  b_law_copied_0)
  (sRet (mV 1))))
def F_law_copied : Fm := fnM 3 m_law_copied
def m_law_is_int : MS :=
  (sRet (vAn (mIsi "int" (mV 0)) (vNo (mIsi "bool" (mV 0)))))
def F_law_is_int : Fm := fnM 1 m_law_is_int
def b_law_same_0 (rc : Fm) : MS :=
  (sIf (tNo (tTr (mCallA rc 2 (aC (oL dIx (mV 0) (mV 2)) (aC (oL dIx (mV 1) (mV 2)) aN)))))
  (sRet (mC (.bl false)))
  sNx)
def m_law_same (rc : Fm) : MS :=
  (sSeq (sIf (cL dIsN (mV 1) (mC .non))
  (sRet (oL dIsN (mV 0) (mC .non)))
  sNx)
  (sSeq (sIf (tTr (mIsi "bool" (mV 1)))
  (sRet (vAn (mIsi "bool" (mV 0)) (oL dEq (mV 0) (mV 1))))
  sNx)
  (sSeq (sIf (tTr (mIsi "int" (mV 1)))
  (sRet (vAn (mCallA F_law_is_int 1 (aC (mV 0) aN)) (oL dEq (mV 0) (mV 1))))
  sNx)
  (sSeq (sIf (tTr (mIsi "str" (mV 1)))
  (sRet (vAn (mIsi "str" (mV 0)) (oL dEq (mV 0) (mV 1))))
  sNx)
  (sSeq (sIf (tTr (mIsi "dict" (mV 1)))
  sBad
  sNx)
  (sSeq (sIf (tAn (tTr (mIsi "list" (mV 1))) (tNo (tTr (mIsi "list" (mV 0)))))
  (sRet (mC (.bl false)))
  sNx)
  (sSeq (sIf (tAn (tTr (mIsi "tuple" (mV 1))) (tNo (tTr (mIsi "tuple" (mV 0)))))
  (sRet (mC (.bl false)))
  sNx)
  (sSeq (sIf (cL dNe (mFn fLn (aC (mV 0) aN)) (mFn fLn (aC (mV 1) aN)))
  (sRet (mC (.bl false)))
  sNx)
  (sSeq (sFor (iR1 (aC (mFn fLn (aC (mV 1) aN)) aN)) (gN 2)
  (b_law_same_0 rc))
  (sRet (mC (.bl true))))))))))))
def F_law_same : Nat → Fm
  | 0 => fnM 3 sBad
  | n + 1 => fnM 3 (m_law_same (F_law_same n))
def b_law_put_0 : MS :=
  (sExpr (mMeth "list" oAppend (mV 1) (aC (oL dIx (mV 1) (oL dSub (mFn fLn (aC (mV 1) aN)) (oL dIx (mV 2) (mC (.int 1))))) aN)))
def b_law_put_1 : MS :=
  (sIf (tTr (mIsi "tuple" (mV 2)))
  (sFor (iR1 (aC (oL dIx (mV 2) (mC (.int 0))) aN)) (gN 3)
  b_law_put_0)
  (sExpr (mMeth "list" oAppend (mV 1) (aC (mV 2) aN))))
def m_law_put : MS :=
  (sSeq (sSet 1 (mCl (nLst aN)))
  (sSeq (sFor (iL (mV 0)) (gN 2)
  b_law_put_1)
  (sRet (mMeth "str" oJoin (mC (.str [])) (aC (mV 1) aN)))))
def F_law_put : Fm := fnM 4 m_law_put
def m_can_come : MS :=
  (sRet (vAn (oL dInK (mV 1) (mFld "Format" "heads" (mV 0))) (oL dLe (oL dDx (mFld "Format" "heads" (mV 0)) (mV 1)) (mV 2))))
def F_can_come : Fm := fnM 3 m_can_come
def b_least_due_0 : MS :=
  (sSeq (sSet 5 (oL dDx (mFld "Format" "coded_words" (mV 0)) (mV 4)))
  (sIf (tAn (tTr (mMeth "str" oSw (mV 5) (aC (mV 1) aN))) (cL dLe (mCallA F_needed 1 (aC (mV 4) aN)) (mV 2)))
  (sSeq (sSet 6 (oL dSub (mFn fLn (aC (mV 5) aN)) (mFn fLn (aC (mV 1) aN))))
  (sSeq (sIf (cL dNe (mV 4) (mC (.str [101, 110, 100])))
  (sAug 6 (lift2 (iI fun i j => i + j)) (oL dDx (mFld "Format" "prices" (mV 0)) (mC (.str [101, 110, 100]))))
  sNx)
  (sExpr (mMeth "list" oAppend (mV 3) (aC (mV 6) aN)))))
  sNx))
def m_least_due : MS :=
  (sSeq (sSet 3 (mCl (nLst aN)))
  (sSeq (sFor (iL (mFld "Format" "order" (mV 0))) (gN 4)
  b_least_due_0)
  (sRet (mFn fMin (aC (mV 3) aN)))))
def F_least_due : Fm := fnM 7 m_least_due
def b_read_0 : MS :=
  (sSeq (sAug 4 (lift2 dIAddS) (mV 6))
  (sSeq (sIf (tNo (tTr (mCallA F_can_come 3 (aC (mV 0) (aC (mV 4) (aC (mV 3) aN))))))
  (sRaise "BadBits" "at" (mV 5))
  sNx)
  (sIf (cL dInK (mV 4) (mFld "Format" "by_word" (mV 0)))
  (sSeq (sSet 7 (oL dDx (mFld "Format" "by_word" (mV 0)) (mV 4)))
  (sSeq (sIf (cL dEq (mV 7) (mC (.str [101, 110, 100])))
  (sSeq (sIf (cL dLt (oL dAdd (mV 5) (mC (.int 1))) (mFn fLn (aC (mV 1) aN)))
  (sRaise "Left" "at" (oL dAdd (mV 5) (mC (.int 1))))
  sNx)
  (sRet (mFrz (mV 2))))
  sNx)
  (sSeq (sExpr (mMeth "list" oAppend (mV 2) (aC (mV 7) aN)))
  (sSeq (sAug 3 (lift2 (iI fun i j => i + j)) (mCallA F_reach 1 (aC (mV 7) aN)))
  (sSet 4 (mC (.str [])))))))
  sNx)))
def m_read : MS :=
  (sSeq (sIf (tNo (tTr (mCallA F_is_bits 1 (aC (mV 1) aN))))
  (sRaise0 "NoBits")
  sNx)
  (sSeq (sSet 2 (mCl (nLst aN)))
  (sSeq (sSet 3 (mC (.int 0)))
  (sSeq (sSet 4 (mC (.str [])))
  (sSeq (sFor (iEs (aC (mV 1) aN)) (gTu 2 (gsC (gN 5) (gsC (gN 6) gsN)))
  b_read_0)
  (sRaise "TooFew" "due" (mCallA F_least_due 3 (aC (mV 0) (aC (mV 4) (aC (mV 3) aN))))))))))
def F_read : Fm := fnM 8 m_read
def m_put_by : MS :=
  (sSeq (sIf (tTr (mIsi "tuple" (mV 0)))
  (sSeq (sSet 2 (mSl (mV 1) (oS (oL dSub (mFn fLn (aC (mV 1) aN)) (oL dIx (mV 0) (mC (.int 1))))) oN))
  (sRet (mSl (oL dMulS (mV 2) (oL dIx (mV 0) (mC (.int 0)))) oN (oS (oL dIx (mV 0) (mC (.int 0)))))))
  sNx)
  (sSeq (sIf (cL dEq (mV 0) (mC (.str [101, 110, 100])))
  (sRet (mC (.str [])))
  sNx)
  (sRet (mV 0))))
def F_put_by : Fm := fnM 3 m_put_by
def b_spread_0 : MS :=
  (sAug 2 (lift2 dIAddS) (mCallA F_put_by 2 (aC (mV 3) (aC (mV 2) aN))))
def m_spread : MS :=
  (sSeq (sExpr (mCallA F_check_way 2 (aC (mV 0) (aC (mV 1) aN))))
  (sSeq (sSet 2 (mC (.str [])))
  (sSeq (sFor (iL (mV 1)) (gN 3)
  b_spread_0)
  (sRet (mV 2)))))
def F_spread : Fm := fnM 4 m_spread
def m_text_of : MS :=
  (sRet (mCallA F_spread 2 (aC (mV 0) (aC (mCallA F_read 2 (aC (mV 0) (aC (mV 1) aN))) aN))))
def F_text_of : Fm := fnM 2 m_text_of
def m_law_read : MS :=
  (sTryMany [(mt_BadBits, some 3, (sRet (mTup (aC (mC (.str [98, 97, 100])) (aC (mXg ["BadBits"] 3 "at") aN))))), (mt_TooFew, some 3, (sRet (mTup (aC (mC (.str [102, 101, 119])) (aC (mXg ["TooFew"] 3 "due") aN))))), (mt_Left, some 3, (sRet (mTup (aC (mC (.str [108, 101, 102, 116])) (aC (mXg ["Left"] 3 "at") aN))))), (mt_NoBits, none, (sRet (mTup (aC (mC (.str [110, 111, 110, 101])) aN))))]
  (sSeq (sIf (tTr (mV 2))
  (sRet (mTup (aC (mC (.str [116, 101, 120, 116])) (aC (mCallK F_text_of 2 0 2 ord_text_of_bits_coding aN (aC (mV 1) (aC (mV 0) aN))) aN))))
  sNx)
  (sRet (mTup (aC (mC (.str [114, 101, 97, 100])) (aC (mCallK F_read 2 0 2 ord_read_bits_coding aN (aC (mV 1) (aC (mV 0) aN))) aN))))))
def F_law_read : Fm := fnM 4 m_law_read
def m_law_both : MS :=
  (sSeq (sSet 3 (mV 2))
  (sSeq (sIf (cL dEq (oL dIx (mV 2) (mC (.int 0))) (mC (.str [114, 101, 97, 100])))
  (sSet 3 (mTup (aC (mC (.str [116, 101, 120, 116])) (aC (mCallA F_law_put 1 (aC (oL dIx (mV 2) (mC (.int 1))) aN)) aN))))
  sNx)
  (sRet (vAn (mCallA (F_law_same 6) 2 (aC (mCallA F_law_read 3 (aC (mV 0) (aC (mV 1) (aC (mC (.bl false)) aN)))) (aC (mV 2) aN))) (mCallA (F_law_same 6) 2 (aC (mCallA F_law_read 3 (aC (mV 0) (aC (mV 1) (aC (mC (.bl true)) aN)))) (aC (mV 3) aN)))))))
def F_law_both : Fm := fnM 4 m_law_both
def b_law_lack_0 : MS :=
  (sSeq (sSet 5 (oL dDx (oL dIx (mV 0) (mC (.int 1))) (mV 4)))
  (sIf (tAn (tTr (mMeth "str" oSw (mV 5) (aC (mV 1) aN))) (tOr' (tTr (mIsi "str" (mV 4))) (cL dLe (oL dIx (mV 4) (mC (.int 1))) (mV 2))))
  (sSeq (sSet 6 (oL dSub (mFn fLn (aC (mV 5) aN)) (mFn fLn (aC (mV 1) aN))))
  (sSeq (sIf (cL dNe (mV 4) (mC (.str [101, 110, 100])))
  (sSet 6 (oL dAdd (mV 6) (mFn fLn (aC (oL dDx (oL dIx (mV 0) (mC (.int 1))) (mC (.str [101, 110, 100]))) aN))))
  sNx)
  (sExpr (mMeth "list" oAppend (mV 3) (aC (mV 6) aN)))))
  sNx))
def m_law_lack : MS :=
  (sSeq (sSet 3 (mCl (nLst aN)))
  (sSeq (sFor (iKs (oL dIx (mV 0) (mC (.int 1)))) (gN 4)
  b_law_lack_0)
  (sRet (mFn fMin (aC (mV 3) aN)))))
def F_law_lack : Fm := fnM 7 m_law_lack
def b_law_could_0 : MS :=
  (sIf (tAn (tTr (mMeth "str" oSw (oL dDx (oL dIx (mV 0) (mC (.int 1))) (mV 3)) (aC (mV 1) aN))) (tOr' (tTr (mIsi "str" (mV 3))) (cL dLe (oL dIx (mV 3) (mC (.int 1))) (mV 2))))
  (sRet (mC (.bl true)))
  sNx)
def m_law_could : MS :=
  (sSeq (sFor (iKs (oL dIx (mV 0) (mC (.int 1)))) (gN 3)
  b_law_could_0)
  (sRet (mC (.bl false))))
def F_law_could : Fm := fnM 4 m_law_could
def b_law_parsed_0 : MS :=
  (sAsg (mV 3) (gSubK (mV 2) (oL dDx (oL dIx (mV 0) (mC (.int 1))) (mV 3))))
def b_law_parsed_1 : MS :=
  (sSeq (sSet 6 (oL dAdd (mV 6) (oL dIx (mV 1) (mV 7))))
  (sSeq (sIf (tNo (tTr (mCallA F_law_could 3 (aC (mV 0) (aC (mV 6) (aC (mV 5) aN))))))
  (sRet (mTup (aC (mC (.str [98, 97, 100])) (aC (mV 7) aN))))
  sNx)
  (sIf (cL dInK (mV 6) (mV 2))
  (sSeq (sSet 3 (oL dDx (mV 2) (mV 6)))
  (sSeq (sIf (cL dEq (mV 3) (mC (.str [101, 110, 100])))
  (sSeq (sIf (cL dLt (oL dAdd (mV 7) (mC (.int 1))) (mFn fLn (aC (mV 1) aN)))
  (sRet (mTup (aC (mC (.str [108, 101, 102, 116])) (aC (oL dAdd (mV 7) (mC (.int 1))) aN))))
  sNx)
  (sRet (mTup (aC (mC (.str [114, 101, 97, 100])) (aC (mFrz (mV 4)) aN)))))
  sNx)
  (sSeq (sExpr (mMeth "list" oAppend (mV 4) (aC (mV 3) aN)))
  (sSeq (sSet 6 (mC (.str [])))
  (sIf (tTr (mIsi "tuple" (mV 3)))
  (sSet 5 (oL dAdd (mV 5) (oL dIx (mV 3) (mC (.int 0)))))
  (sSet 5 (oL dAdd (mV 5) (mC (.int 1)))))))))
  sNx)))
def m_law_parsed : MS :=
  (sSeq (sSet 2 (mCl nDic0))
  (sSeq (sFor (iKs (oL dIx (mV 0) (mC (.int 1)))) (gN 3)
  b_law_parsed_0)
  (sSeq (sSet 4 (mCl (nLst aN)))
  (sSeq (sSet 5 (mC (.int 0)))
  (sSeq (sSet 6 (mC (.str [])))
  (sSeq (sFor (iR1 (aC (mFn fLn (aC (mV 1) aN)) aN)) (gN 7)
  b_law_parsed_1)
  (sRet (mTup (aC (mC (.str [102, 101, 119])) (aC (mCallA F_law_lack 3 (aC (mV 0) (aC (mV 6) (aC (mV 5) aN)))) aN))))))))))
def F_law_parsed : Fm := fnM 8 m_law_parsed
def m_law_changed_holds : MS :=
  (sSeq (sSet 5 (mCallA F_law_parsed 2 (aC (mV 1) (aC (mV 2) aN))))
  (sSeq (sIf (tAn (cL dEq (oL dIx (mV 5) (mC (.int 0))) (mC (.str [98, 97, 100]))) (cL dLt (oL dIx (mV 5) (mC (.int 1))) (mV 3)))
  (sRet (mC (.bl false)))
  sNx)
  (sSeq (sIf (tNo (tTr (mCallA F_law_both 3 (aC (mV 0) (aC (mV 2) (aC (mV 5) aN))))))
  (sRet (mC (.bl false)))
  sNx)
  (sSeq (sIf (cL dNe (oL dIx (mV 5) (mC (.int 0))) (mC (.str [114, 101, 97, 100])))
  (sRet (mC (.bl true)))
  sNx)
  (sSeq (sSet 6 (mCallA F_read 2 (aC (mV 0) (aC (mV 2) aN))))
  (sRet (vAn (oL dNe (mV 6) (mV 4)) (mCallA (F_law_same 6) 2 (aC (mCallA F_written 2 (aC (mV 0) (aC (mV 6) aN))) (aC (mV 2) aN))))))))))
def F_law_changed_holds : Fm := fnM 7 m_law_changed_holds
def b_law_0 : MS :=
  (sSeq (sSet 9 (oL dIx (mC (.str [49, 48])) (mFn fInt (aC (oL dEq (oL dIx (mV 7) (mV 8)) (mC (.str [49]))) aN))))
  (sSeq (sIf (tNo (tTr (mCallA F_law_changed_holds 5 (aC (mV 5) (aC (mV 4) (aC (oL dAdd (oL dAdd (mSl (mV 7) oN (oS (mV 8))) (mV 9)) (mSl (mV 7) (oS (oL dAdd (mV 8) (mC (.int 1)))) oN)) (aC (mV 8) (aC (mV 6) aN))))))))
  (sRet (mC (.bl false)))
  sNx)
  (sSeq (sIf (tNo (tTr (mCallA F_law_changed_holds 5 (aC (mV 5) (aC (mV 4) (aC (oL dAdd (mSl (mV 7) oN (oS (mV 8))) (mSl (mV 7) (oS (oL dAdd (mV 8) (mC (.int 1)))) oN)) (aC (mV 8) (aC (mV 6) aN))))))))
  (sRet (mC (.bl false)))
  sNx)
  (sIf (tNo (tTr (mCallA F_law_changed_holds 5 (aC (mV 5) (aC (mV 4) (aC (oL dAdd (oL dAdd (mSl (mV 7) oN (oS (mV 8))) (mV 9)) (mSl (mV 7) (oS (mV 8)) oN)) (aC (mV 8) (aC (mV 6) aN))))))))
  (sRet (mC (.bl false)))
  sNx))))
def m_law : MS :=
  (sSeq (sSet 1 (mCallA F_law_start 1 (aC (mV 0) aN)))
  (sSeq (sSet 2 (mCallA F_law_alphabet 2 (aC (mV 1) (aC (oL dAdd (mC (.int 1)) (mCallA F_law_pull 2 (aC (mV 1) (aC (mC (.int 4)) aN)))) aN))))
  (sSeq (sSet 3 (oL dIx (mFz (nLst (aC (mC (.int 4)) (aC (mC (.int 8)) aN)))) (mCallA F_law_pull 2 (aC (mV 1) (aC (mC (.int 2)) aN)))))
  (sSeq (sSet 4 (mCallA F_law_plain 3 (aC (mV 1) (aC (mV 2) (aC (mCallA F_law_copies 4 (aC (mV 1) (aC (mCallA F_law_pull 2 (aC (mV 1) (aC (mC (.int 7)) aN))) (aC (mV 3) (aC (mC (.int 3)) aN))))) aN)))))
  (sSeq (sSet 5 (mFrz (mMake "Format" F_Format_init 3 (aC (oL dIx (mV 4) (mC (.int 0))) (aC (mFrz (mCallA F_law_copied 1 (aC (oL dIx (mV 4) (mC (.int 1))) aN))) aN)))))
  (sSeq (sSet 6 (mCallA F_law_way 3 (aC (mV 1) (aC (mV 4) (aC (mCallA F_law_pull 2 (aC (mV 1) (aC (mC (.int 9)) aN))) aN)))))
  (sSeq (sSet 7 (mCallA F_written 2 (aC (mV 5) (aC (mFz (nFn fList (aC (mV 6) aN))) aN))))
  (sSeq (sFor (iR1 (aC (mFn fLn (aC (mV 7) aN)) aN)) (gN 8)
  b_law_0)
  (sRet (mCallA F_law_both 3 (aC (mV 5) (aC (mV 7) (aC (mTup (aC (mC (.str [114, 101, 97, 100])) (aC (mV 6) aN))) aN)))))))))))))
def F_law : Fm := fnM 10 m_law
end K13

/-! K13b0 -/
set_option Elab.async false
set_option linter.all false
set_option maxRecDepth 100000
set_option maxHeartbeats 4000000
/-! printed by gen.py: the walk: each def computes what its function says -/
namespace K13
open PySem PySem.Spec PyProof.Rows SeqAt L2 LV
def top (i : Nat) : Stmt := PySem.Challenge.pw_leastfile_k13_whole_one_bit_changed.main.body.getD i (.Pass ⟨0, 0, 0, 0⟩)
abbrev s_is_letters : Stmt := top 17
theorem sc_is_letters : FnScope ["thing", "at"] ["thing"] (defScope s_is_letters) := ⟨rfl, rfl, rfl, by decide +kernel, rfl, by decide +kernel, by decide +kernel⟩
abbrev s_is_bits : Stmt := top 14
theorem sc_is_bits : FnScope ["thing", "sign"] ["thing"] (defScope s_is_bits) := ⟨rfl, rfl, rfl, by decide +kernel, rfl, by decide +kernel, by decide +kernel⟩
abbrev s_is_integer : Stmt := top 13
theorem sc_is_integer : FnScope ["thing"] ["thing"] (defScope s_is_integer) := ⟨rfl, rfl, rfl, by decide +kernel, rfl, by decide +kernel, by decide +kernel⟩
abbrev s_is_copy : Stmt := top 15
theorem sc_is_copy : FnScope ["thing"] ["thing"] (defScope s_is_copy) := ⟨rfl, rfl, rfl, by decide +kernel, rfl, by decide +kernel, by decide +kernel⟩
abbrev s_is_letter : Stmt := top 16
theorem sc_is_letter : FnScope ["thing"] ["thing"] (defScope s_is_letter) := ⟨rfl, rfl, rfl, by decide +kernel, rfl, by decide +kernel, by decide +kernel⟩
abbrev s_has_keys : Stmt := top 18
theorem sc_has_keys : FnScope ["letters", "thing", "key", "letter"] ["letters", "thing"] (defScope s_has_keys) := ⟨rfl, rfl, rfl, by decide +kernel, rfl, by decide +kernel, by decide +kernel⟩
abbrev s_are_words : Stmt := top 19
theorem sc_are_words : FnScope ["letters", "thing", "word", "words", "at", ".0"] ["letters", "thing"] (defScope s_are_words) := ⟨rfl, rfl, rfl, by decide +kernel, rfl, by decide +kernel, by decide +kernel⟩
abbrev s_in_order : Stmt := top 20
theorem sc_in_order : FnScope ["letters", "table", "copy_list", ".0", "key"] ["letters", "table"] (defScope s_in_order) := ⟨rfl, rfl, rfl, by decide +kernel, rfl, by decide +kernel, by decide +kernel⟩
abbrev s_needed : Stmt := top 21
theorem sc_needed : FnScope ["command"] ["command"] (defScope s_needed) := ⟨rfl, rfl, rfl, by decide +kernel, rfl, by decide +kernel, by decide +kernel⟩
abbrev s_reach : Stmt := top 22
theorem sc_reach : FnScope ["command"] ["command"] (defScope s_reach) := ⟨rfl, rfl, rfl, by decide +kernel, rfl, by decide +kernel, by decide +kernel⟩
abbrev s_heads_of : Stmt := top 23
theorem sc_heads_of : FnScope ["words", "heads", "command", "word", "size", "head"] ["words"] (defScope s_heads_of) := ⟨rfl, rfl, rfl, by decide +kernel, rfl, by decide +kernel, by decide +kernel⟩
abbrev s_Format_init : Stmt := inClass (top 24) 0
theorem sc_Format_init : FnScope ["self", "letters", "words", ".0", "command"] ["self", "letters", "words"] (defScope s_Format_init) := ⟨rfl, rfl, rfl, by decide +kernel, rfl, by decide +kernel, by decide +kernel⟩
abbrev s_Format_has : Stmt := inClass (top 24) 3
theorem sc_Format_has : FnScope ["self", "thing"] ["self", "thing"] (defScope s_Format_has) := ⟨rfl, rfl, rfl, by decide +kernel, rfl, by decide +kernel, by decide +kernel⟩
abbrev s_check_way : Stmt := top 27
theorem sc_check_way : FnScope ["coding", "way", "many", "at", "command"] ["coding", "way"] (defScope s_check_way) := ⟨rfl, rfl, rfl, by decide +kernel, rfl, by decide +kernel, by decide +kernel⟩
abbrev s_written : Stmt := top 29
theorem sc_written : FnScope ["coding", "way", ".0", "command"] ["coding", "way"] (defScope s_written) := ⟨rfl, rfl, rfl, by decide +kernel, rfl, by decide +kernel, by decide +kernel⟩
abbrev s_law_start : Stmt := top 38
theorem sc_law_start : FnScope ["_law_script"] ["_law_script"] (defScope s_law_start) := ⟨rfl, rfl, rfl, by decide +kernel, rfl, by decide +kernel, by decide +kernel⟩
abbrev s_law_pull : Stmt := top 39
theorem sc_law_pull : FnScope ["_law_state", "_law_many", "_law_cell", "_law_number"] ["_law_state", "_law_many"] (defScope s_law_pull) := ⟨rfl, rfl, rfl, by decide +kernel, rfl, by decide +kernel, by decide +kernel⟩
abbrev s_law_alphabet : Stmt := top 40
theorem sc_law_alphabet : FnScope ["_law_state", "_law_many", "_law_letters", "_law_low", "_law_k", "_law_at"] ["_law_state", "_law_many"] (defScope s_law_alphabet) := ⟨rfl, rfl, rfl, by decide +kernel, rfl, by decide +kernel, by decide +kernel⟩
abbrev s_law_copies : Stmt := top 42
theorem sc_law_copies : FnScope ["_law_state", "_law_many", "_law_length", "_law_distance", "_law_found", "_law_k", "_law_copy"] ["_law_state", "_law_many", "_law_length", "_law_distance"] (defScope s_law_copies) := ⟨rfl, rfl, rfl, by decide +kernel, rfl, by decide +kernel, by decide +kernel⟩
abbrev s_law_leaves : Stmt := top 41
theorem sc_law_leaves : FnScope ["_law_state", "_law_many", "_law_leaves_here", "_law_k", "_law_at", "_law_j", "_law_leaf"] ["_law_state", "_law_many"] (defScope s_law_leaves) := ⟨rfl, rfl, rfl, by decide +kernel, rfl, by decide +kernel, by decide +kernel⟩
abbrev s_law_plain : Stmt := top 43
theorem sc_law_plain : FnScope ["_law_state", "_law_letters", "_law_copy_keys", "_law_keys", "_law_leaves_here", "_law_words", "_law_k", "_law_key"] ["_law_state", "_law_letters", "_law_copy_keys"] (defScope s_law_plain) := ⟨rfl, rfl, rfl, by decide +kernel, rfl, by decide +kernel, by decide +kernel⟩
abbrev s_law_way : Stmt := top 44
theorem sc_law_way : FnScope ["_law_state", "_law_plain_here", "_law_size", "_law_key", "_law_keys", "_law_way_here", "_law_many", "_law_k", ".0"] ["_law_state", "_law_plain_here", "_law_size"] (defScope s_law_way) := ⟨rfl, rfl, rfl, by decide +kernel, rfl, by decide +kernel, by decide +kernel⟩
abbrev s_law_copied : Stmt := top 45
theorem sc_law_copied : FnScope ["_law_table", "_law_changed", "_law_key"] ["_law_table"] (defScope s_law_copied) := ⟨rfl, rfl, rfl, by decide +kernel, rfl, by decide +kernel, by decide +kernel⟩
abbrev s_law_is_int : Stmt := top 35
theorem sc_law_is_int : FnScope ["_law_told"] ["_law_told"] (defScope s_law_is_int) := ⟨rfl, rfl, rfl, by decide +kernel, rfl, by decide +kernel, by decide +kernel⟩
abbrev s_law_same : Stmt := top 37
theorem sc_law_same : FnScope ["_law_told", "_law_due", "_law_k"] ["_law_told", "_law_due"] (defScope s_law_same) := ⟨rfl, rfl, rfl, by decide +kernel, rfl, by decide +kernel, by decide +kernel⟩
abbrev s_law_put : Stmt := top 46
theorem sc_law_put : FnScope ["_law_keys", "_law_row", "_law_key", "_law_j"] ["_law_keys"] (defScope s_law_put) := ⟨rfl, rfl, rfl, by decide +kernel, rfl, by decide +kernel, by decide +kernel⟩
abbrev s_can_come : Stmt := top 30
theorem sc_can_come : FnScope ["coding", "head", "many"] ["coding", "head", "many"] (defScope s_can_come) := ⟨rfl, rfl, rfl, by decide +kernel, rfl, by decide +kernel, by decide +kernel⟩
abbrev s_least_due : Stmt := top 31
theorem sc_least_due : FnScope ["coding", "head", "many", "found", "command", "word", "due"] ["coding", "head", "many"] (defScope s_least_due) := ⟨rfl, rfl, rfl, by decide +kernel, rfl, by decide +kernel, by decide +kernel⟩
abbrev s_read : Stmt := top 32
theorem sc_read : FnScope ["coding", "bits", "way", "many", "head", "at", "bit", "command"] ["coding", "bits"] (defScope s_read) := ⟨rfl, rfl, rfl, by decide +kernel, rfl, by decide +kernel, by decide +kernel⟩
abbrev s_put_by : Stmt := top 26
theorem sc_put_by : FnScope ["command", "text", "tail"] ["command", "text"] (defScope s_put_by) := ⟨rfl, rfl, rfl, by decide +kernel, rfl, by decide +kernel, by decide +kernel⟩
abbrev s_spread : Stmt := top 28
theorem sc_spread : FnScope ["coding", "way", "text", "command"] ["coding", "way"] (defScope s_spread) := ⟨rfl, rfl, rfl, by decide +kernel, rfl, by decide +kernel, by decide +kernel⟩
abbrev s_text_of : Stmt := top 33
theorem sc_text_of : FnScope ["coding", "bits"] ["coding", "bits"] (defScope s_text_of) := ⟨rfl, rfl, rfl, by decide +kernel, rfl, by decide +kernel, by decide +kernel⟩
abbrev s_law_read : Stmt := top 50
theorem sc_law_read : FnScope ["_law_made", "_law_row", "_law_puts", "e"] ["_law_made", "_law_row", "_law_puts"] (defScope s_law_read) := ⟨rfl, rfl, rfl, by decide +kernel, rfl, by decide +kernel, by decide +kernel⟩
abbrev s_law_both : Stmt := top 51
theorem sc_law_both : FnScope ["_law_made", "_law_row", "_law_due", "_law_texts"] ["_law_made", "_law_row", "_law_due"] (defScope s_law_both) := ⟨rfl, rfl, rfl, by decide +kernel, rfl, by decide +kernel, by decide +kernel⟩
abbrev s_law_lack : Stmt := top 47
theorem sc_law_lack : FnScope ["_law_plain_here", "_law_head", "_law_many", "_law_found", "_law_key", "_law_word", "_law_rest"] ["_law_plain_here", "_law_head", "_law_many"] (defScope s_law_lack) := ⟨rfl, rfl, rfl, by decide +kernel, rfl, by decide +kernel, by decide +kernel⟩
abbrev s_law_could : Stmt := top 48
theorem sc_law_could : FnScope ["_law_plain_here", "_law_head", "_law_many", "_law_key"] ["_law_plain_here", "_law_head", "_law_many"] (defScope s_law_could) := ⟨rfl, rfl, rfl, by decide +kernel, rfl, by decide +kernel, by decide +kernel⟩
abbrev s_law_parsed : Stmt := top 49
theorem sc_law_parsed : FnScope ["_law_plain_here", "_law_row", "_law_by_word", "_law_key", "_law_found", "_law_many", "_law_head", "_law_k"] ["_law_plain_here", "_law_row"] (defScope s_law_parsed) := ⟨rfl, rfl, rfl, by decide +kernel, rfl, by decide +kernel, by decide +kernel⟩
abbrev s_law_changed_holds : Stmt := top 52
theorem sc_law_changed_holds : FnScope ["_law_made", "_law_plain_here", "_law_row", "_law_at", "_law_items", "_law_due", "_law_told"] ["_law_made", "_law_plain_here", "_law_row", "_law_at", "_law_items"] (defScope s_law_changed_holds) := ⟨rfl, rfl, rfl, by decide +kernel, rfl, by decide +kernel, by decide +kernel⟩
abbrev s_law : Stmt := top 53
theorem sc_law : FnScope ["_law_script", "_law_state", "_law_letters", "_law_length", "_law_plain_here", "_law_made", "_law_items", "_law_file", "_law_at", "_law_other"] ["_law_script"] (defScope s_law) := ⟨rfl, rfl, rfl, by decide +kernel, rfl, by decide +kernel, by decide +kernel⟩
abbrev s_BadBits_init : Stmt := inClass (top 6) 0
theorem sc_BadBits_init : FnScope ["self", "at"] ["self", "at"] (defScope s_BadBits_init) := ⟨rfl, rfl, rfl, by decide +kernel, rfl, by decide +kernel, by decide +kernel⟩
abbrev s_BadFormat_init : Stmt := inClass (top 3) 0
theorem sc_BadFormat_init : FnScope ["self", "part"] ["self", "part"] (defScope s_BadFormat_init) := ⟨rfl, rfl, rfl, by decide +kernel, rfl, by decide +kernel, by decide +kernel⟩
abbrev s_BadWay_init : Stmt := inClass (top 4) 0
theorem sc_BadWay_init : FnScope ["self", "at"] ["self", "at"] (defScope s_BadWay_init) := ⟨rfl, rfl, rfl, by decide +kernel, rfl, by decide +kernel, by decide +kernel⟩
abbrev s_Left_init : Stmt := inClass (top 8) 0
theorem sc_Left_init : FnScope ["self", "at"] ["self", "at"] (defScope s_Left_init) := ⟨rfl, rfl, rfl, by decide +kernel, rfl, by decide +kernel, by decide +kernel⟩
abbrev s_TooFew_init : Stmt := inClass (top 7) 0
theorem sc_TooFew_init : FnScope ["self", "due"] ["self", "due"] (defScope s_TooFew_init) := ⟨rfl, rfl, rfl, by decide +kernel, rfl, by decide +kernel, by decide +kernel⟩
theorem bk_Format_init_0 : BlkOk ["self", "letters", "words", ".0", "command"] (defScope s_Format_init) { kind := .function, names := [(".0", .local), ("command", .local), ("words", .free)], isGenerator := false, isCoroutine := false, more := [] } [(".0", 3), ("command", 4)] := ⟨rfl, by decide +kernel, by decide +kernel, by decide +kernel, by decide +kernel⟩
theorem bk_Format_init_1 : BlkOk ["self", "letters", "words", ".0", "command"] (defScope s_Format_init) { kind := .function, names := [(".0", .local), ("command", .local), ("len", .globalImplicit), ("words", .free)], isGenerator := false, isCoroutine := false, more := [] } [(".0", 3), ("command", 4)] := ⟨rfl, by decide +kernel, by decide +kernel, by decide +kernel, by decide +kernel⟩
theorem bk_Format_init_2 : BlkOk ["self", "letters", "words", ".0", "command"] (defScope s_Format_init) { kind := .function, names := [(".0", .local), ("command", .local), ("words", .free)], isGenerator := false, isCoroutine := false, more := [] } [(".0", 3), ("command", 4)] := ⟨rfl, by decide +kernel, by decide +kernel, by decide +kernel, by decide +kernel⟩
theorem bk_Format_init_3 : BlkOk ["self", "letters", "words", ".0", "command"] (defScope s_Format_init) { kind := .function, names := [(".0", .local), ("command", .local), ("isinstance", .globalImplicit), ("tuple", .globalImplicit)], isGenerator := false, isCoroutine := false, more := [] } [(".0", 3), ("command", 4)] := ⟨rfl, by decide +kernel, by decide +kernel, by decide +kernel, by decide +kernel⟩
theorem bk_Format_init_4 : BlkOk ["self", "letters", "words", ".0", "command"] (defScope s_Format_init) { kind := .function, names := [(".0", .local), ("command", .local), ("needed", .globalImplicit)], isGenerator := false, isCoroutine := false, more := [] } [(".0", 3), ("command", 4)] := ⟨rfl, by decide +kernel, by decide +kernel, by decide +kernel, by decide +kernel⟩
theorem bk_Format_init_5 : BlkOk ["self", "letters", "words", ".0", "command"] (defScope s_Format_init) { kind := .function, names := [(".0", .local), ("command", .local), ("reach", .globalImplicit)], isGenerator := false, isCoroutine := false, more := [] } [(".0", 3), ("command", 4)] := ⟨rfl, by decide +kernel, by decide +kernel, by decide +kernel, by decide +kernel⟩
theorem bk_are_words_0 : BlkOk ["letters", "thing", "word", "words", "at", ".0"] (defScope s_are_words) { kind := .function, names := [(".0", .local), ("word", .local)], isGenerator := false, isCoroutine := false, more := [] } [(".0", 5), ("word", 2)] := ⟨rfl, by decide +kernel, by decide +kernel, by decide +kernel, by decide +kernel⟩
theorem bk_in_order_0 : BlkOk ["letters", "table", "copy_list", ".0", "key"] (defScope s_in_order) { kind := .function, names := [(".0", .local), ("key", .local), ("isinstance", .globalImplicit), ("tuple", .globalImplicit)], isGenerator := false, isCoroutine := false, more := [] } [(".0", 3), ("key", 4)] := ⟨rfl, by decide +kernel, by decide +kernel, by decide +kernel, by decide +kernel⟩
theorem bk_written_0 : BlkOk ["coding", "way", ".0", "command"] (defScope s_written) { kind := .function, names := [(".0", .local), ("command", .local), ("coding", .free)], isGenerator := false, isCoroutine := false, more := [] } [(".0", 2), ("command", 3)] := ⟨rfl, by decide +kernel, by decide +kernel, by decide +kernel, by decide +kernel⟩
theorem bk_law_way_0 : BlkOk ["_law_state", "_law_plain_here", "_law_size", "_law_key", "_law_keys", "_law_way_here", "_law_many", "_law_k", ".0"] (defScope s_law_way) { kind := .function, names := [(".0", .local), ("_law_key", .local)], isGenerator := false, isCoroutine := false, more := [] } [(".0", 8), ("_law_key", 3)] := ⟨rfl, by decide +kernel, by decide +kernel, by decide +kernel, by decide +kernel⟩
structure Ad where
  f_is_letters : Addr
  d_is_letters : FuncData
  f_is_bits : Addr
  d_is_bits : FuncData
  f_is_integer : Addr
  d_is_integer : FuncData
  f_is_copy : Addr
  d_is_copy : FuncData
  f_is_letter : Addr
  d_is_letter : FuncData
  f_has_keys : Addr
  d_has_keys : FuncData
  f_are_words : Addr
  d_are_words : FuncData
  f_in_order : Addr
  d_in_order : FuncData
  f_needed : Addr
  d_needed : FuncData
  f_reach : Addr
  d_reach : FuncData
  f_heads_of : Addr
  d_heads_of : FuncData
  f_Format_init : Addr
  d_Format_init : FuncData
  f_Format_has : Addr
  d_Format_has : FuncData
  f_check_way : Addr
  d_check_way : FuncData
  f_written : Addr
  d_written : FuncData
  f_law_start : Addr
  d_law_start : FuncData
  f_law_pull : Addr
  d_law_pull : FuncData
  f_law_alphabet : Addr
  d_law_alphabet : FuncData
  f_law_copies : Addr
  d_law_copies : FuncData
  f_law_leaves : Addr
  d_law_leaves : FuncData
  f_law_plain : Addr
  d_law_plain : FuncData
  f_law_way : Addr
  d_law_way : FuncData
  f_law_copied : Addr
  d_law_copied : FuncData
  f_law_is_int : Addr
  d_law_is_int : FuncData
  f_law_same : Addr
  d_law_same : FuncData
  f_law_put : Addr
  d_law_put : FuncData
  f_can_come : Addr
  d_can_come : FuncData
  f_least_due : Addr
  d_least_due : FuncData
  f_read : Addr
  d_read : FuncData
  f_put_by : Addr
  d_put_by : FuncData
  f_spread : Addr
  d_spread : FuncData
  f_text_of : Addr
  d_text_of : FuncData
  f_law_read : Addr
  d_law_read : FuncData
  f_law_both : Addr
  d_law_both : FuncData
  f_law_lack : Addr
  d_law_lack : FuncData
  f_law_could : Addr
  d_law_could : FuncData
  f_law_parsed : Addr
  d_law_parsed : FuncData
  f_law_changed_holds : Addr
  d_law_changed_holds : FuncData
  f_law : Addr
  d_law : FuncData
  f_BadBits_init : Addr
  d_BadBits_init : FuncData
  f_BadFormat_init : Addr
  d_BadFormat_init : FuncData
  f_BadWay_init : Addr
  d_BadWay_init : FuncData
  f_Left_init : Addr
  d_Left_init : FuncData
  f_TooFew_init : Addr
  d_TooFew_init : FuncData
  c_BadBits : Addr
  c_BadFormat : Addr
  c_BadWay : Addr
  c_Format : Addr
  c_Left : Addr
  c_NoBits : Addr
  c_TooFew : Addr
  t_LETTERS : Tok
  t_LONGEST_WORD : Tok
  t_MOST_COMMANDS : Tok
@[reducible] def clsF (A : Ad) : Str → Option Addr := fun s => if s = "BadBits" then some A.c_BadBits else if s = "BadFormat" then some A.c_BadFormat else if s = "BadWay" then some A.c_BadWay else if s = "Format" then some A.c_Format else if s = "Left" then some A.c_Left else if s = "NoBits" then some A.c_NoBits else if s = "TooFew" then some A.c_TooFew else none
theorem gCF_BadBits (A : Ad) : clsF A "BadBits" = some A.c_BadBits := if_pos rfl
theorem gCF_BadFormat (A : Ad) : clsF A "BadFormat" = some A.c_BadFormat := (if_neg (by decide +kernel)).trans (if_pos rfl)
theorem gCF_BadWay (A : Ad) : clsF A "BadWay" = some A.c_BadWay := (if_neg (by decide +kernel)).trans ((if_neg (by decide +kernel)).trans (if_pos rfl))
theorem gCF_Format (A : Ad) : clsF A "Format" = some A.c_Format := (if_neg (by decide +kernel)).trans ((if_neg (by decide +kernel)).trans ((if_neg (by decide +kernel)).trans (if_pos rfl)))
theorem gCF_Left (A : Ad) : clsF A "Left" = some A.c_Left := (if_neg (by decide +kernel)).trans ((if_neg (by decide +kernel)).trans ((if_neg (by decide +kernel)).trans ((if_neg (by decide +kernel)).trans (if_pos rfl))))
theorem gCF_NoBits (A : Ad) : clsF A "NoBits" = some A.c_NoBits := (if_neg (by decide +kernel)).trans ((if_neg (by decide +kernel)).trans ((if_neg (by decide +kernel)).trans ((if_neg (by decide +kernel)).trans ((if_neg (by decide +kernel)).trans (if_pos rfl)))))
theorem gCF_TooFew (A : Ad) : clsF A "TooFew" = some A.c_TooFew := (if_neg (by decide +kernel)).trans ((if_neg (by decide +kernel)).trans ((if_neg (by decide +kernel)).trans ((if_neg (by decide +kernel)).trans ((if_neg (by decide +kernel)).trans ((if_neg (by decide +kernel)).trans (if_pos rfl))))))
@[reducible] def GG (K : PySem.W.Frag) (w : World) (A : Ad) : GE := ⟨K, w, clsF A⟩
theorem gC_BadBits (K : PySem.W.Frag) (w : World) (A : Ad) : (GG K w A).cls "BadBits" = some A.c_BadBits := gCF_BadBits A
theorem gC_BadFormat (K : PySem.W.Frag) (w : World) (A : Ad) : (GG K w A).cls "BadFormat" = some A.c_BadFormat := gCF_BadFormat A
theorem gC_BadWay (K : PySem.W.Frag) (w : World) (A : Ad) : (GG K w A).cls "BadWay" = some A.c_BadWay := gCF_BadWay A
theorem gC_Format (K : PySem.W.Frag) (w : World) (A : Ad) : (GG K w A).cls "Format" = some A.c_Format := gCF_Format A
theorem gC_Left (K : PySem.W.Frag) (w : World) (A : Ad) : (GG K w A).cls "Left" = some A.c_Left := gCF_Left A
theorem gC_NoBits (K : PySem.W.Frag) (w : World) (A : Ad) : (GG K w A).cls "NoBits" = some A.c_NoBits := gCF_NoBits A
theorem gC_TooFew (K : PySem.W.Frag) (w : World) (A : Ad) : (GG K w A).cls "TooFew" = some A.c_TooFew := gCF_TooFew A
structure Tx (K : PySem.W.Frag) (mg : Str → Option Value) (A : Ad) : Prop where
  F_is_letters : Fun K "is_letters" "is_letters" s_is_letters A.f_is_letters A.d_is_letters
  g_is_letters : mg "is_letters" = some (.ref A.f_is_letters)
  B_is_letters : Binds K A.d_is_letters ["thing"] []
  F_is_bits : Fun K "is_bits" "is_bits" s_is_bits A.f_is_bits A.d_is_bits
  g_is_bits : mg "is_bits" = some (.ref A.f_is_bits)
  B_is_bits : Binds K A.d_is_bits ["thing"] []
  F_is_integer : Fun K "is_integer" "is_integer" s_is_integer A.f_is_integer A.d_is_integer
  g_is_integer : mg "is_integer" = some (.ref A.f_is_integer)
  B_is_integer : Binds K A.d_is_integer ["thing"] []
  F_is_copy : Fun K "is_copy" "is_copy" s_is_copy A.f_is_copy A.d_is_copy
  g_is_copy : mg "is_copy" = some (.ref A.f_is_copy)
  B_is_copy : Binds K A.d_is_copy ["thing"] []
  F_is_letter : Fun K "is_letter" "is_letter" s_is_letter A.f_is_letter A.d_is_letter
  g_is_letter : mg "is_letter" = some (.ref A.f_is_letter)
  B_is_letter : Binds K A.d_is_letter ["thing"] []
  F_has_keys : Fun K "has_keys" "has_keys" s_has_keys A.f_has_keys A.d_has_keys
  g_has_keys : mg "has_keys" = some (.ref A.f_has_keys)
  B_has_keys : Binds K A.d_has_keys ["letters", "thing"] []
  F_are_words : Fun K "are_words" "are_words" s_are_words A.f_are_words A.d_are_words
  g_are_words : mg "are_words" = some (.ref A.f_are_words)
  B_are_words : Binds K A.d_are_words ["letters", "thing"] []
  F_in_order : Fun K "in_order" "in_order" s_in_order A.f_in_order A.d_in_order
  g_in_order : mg "in_order" = some (.ref A.f_in_order)
  B_in_order : Binds K A.d_in_order ["letters", "table"] []
  F_needed : Fun K "needed" "needed" s_needed A.f_needed A.d_needed
  g_needed : mg "needed" = some (.ref A.f_needed)
  B_needed : Binds K A.d_needed ["command"] []
  F_reach : Fun K "reach" "reach" s_reach A.f_reach A.d_reach
  g_reach : mg "reach" = some (.ref A.f_reach)
  B_reach : Binds K A.d_reach ["command"] []
  F_heads_of : Fun K "heads_of" "heads_of" s_heads_of A.f_heads_of A.d_heads_of
  g_heads_of : mg "heads_of" = some (.ref A.f_heads_of)
  B_heads_of : Binds K A.d_heads_of ["words"] []
  F_Format_init : Fun K "__init__" "Format.__init__" s_Format_init A.f_Format_init A.d_Format_init
  B_Format_init : Binds K A.d_Format_init ["self", "letters", "words"] []
  F_Format_has : Fun K "has" "Format.has" s_Format_has A.f_Format_has A.d_Format_has
  B_Format_has : Binds K A.d_Format_has ["self", "thing"] []
  F_check_way : Fun K "check_way" "check_way" s_check_way A.f_check_way A.d_check_way
  g_check_way : mg "check_way" = some (.ref A.f_check_way)
  B_check_way : Binds K A.d_check_way ["coding", "way"] []
  F_written : Fun K "written" "written" s_written A.f_written A.d_written
  g_written : mg "written" = some (.ref A.f_written)
  B_written : Binds K A.d_written ["coding", "way"] []
  F_law_start : Fun K "_law_start" "_law_start" s_law_start A.f_law_start A.d_law_start
  g_law_start : mg "_law_start" = some (.ref A.f_law_start)
  B_law_start : Binds K A.d_law_start ["_law_script"] []
  F_law_pull : Fun K "_law_pull" "_law_pull" s_law_pull A.f_law_pull A.d_law_pull
  g_law_pull : mg "_law_pull" = some (.ref A.f_law_pull)
  B_law_pull : Binds K A.d_law_pull ["_law_state", "_law_many"] []
  F_law_alphabet : Fun K "_law_alphabet" "_law_alphabet" s_law_alphabet A.f_law_alphabet A.d_law_alphabet
  g_law_alphabet : mg "_law_alphabet" = some (.ref A.f_law_alphabet)
  B_law_alphabet : Binds K A.d_law_alphabet ["_law_state", "_law_many"] []
  F_law_copies : Fun K "_law_copies" "_law_copies" s_law_copies A.f_law_copies A.d_law_copies
  g_law_copies : mg "_law_copies" = some (.ref A.f_law_copies)
  B_law_copies : Binds K A.d_law_copies ["_law_state", "_law_many", "_law_length", "_law_distance"] []
  F_law_leaves : Fun K "_law_leaves" "_law_leaves" s_law_leaves A.f_law_leaves A.d_law_leaves
  g_law_leaves : mg "_law_leaves" = some (.ref A.f_law_leaves)
  B_law_leaves : Binds K A.d_law_leaves ["_law_state", "_law_many"] []
  F_law_plain : Fun K "_law_plain" "_law_plain" s_law_plain A.f_law_plain A.d_law_plain
  g_law_plain : mg "_law_plain" = some (.ref A.f_law_plain)
  B_law_plain : Binds K A.d_law_plain ["_law_state", "_law_letters", "_law_copy_keys"] []
  F_law_way : Fun K "_law_way" "_law_way" s_law_way A.f_law_way A.d_law_way
  g_law_way : mg "_law_way" = some (.ref A.f_law_way)
  B_law_way : Binds K A.d_law_way ["_law_state", "_law_plain_here", "_law_size"] []
  F_law_copied : Fun K "_law_copied" "_law_copied" s_law_copied A.f_law_copied A.d_law_copied
  g_law_copied : mg "_law_copied" = some (.ref A.f_law_copied)
  B_law_copied : Binds K A.d_law_copied ["_law_table"] []
  F_law_is_int : Fun K "_law_is_int" "_law_is_int" s_law_is_int A.f_law_is_int A.d_law_is_int
  g_law_is_int : mg "_law_is_int" = some (.ref A.f_law_is_int)
  B_law_is_int : Binds K A.d_law_is_int ["_law_told"] []
  F_law_same : Fun K "_law_same" "_law_same" s_law_same A.f_law_same A.d_law_same
  g_law_same : mg "_law_same" = some (.ref A.f_law_same)
  B_law_same : Binds K A.d_law_same ["_law_told", "_law_due"] []
  F_law_put : Fun K "_law_put" "_law_put" s_law_put A.f_law_put A.d_law_put
  g_law_put : mg "_law_put" = some (.ref A.f_law_put)
  B_law_put : Binds K A.d_law_put ["_law_keys"] []
  F_can_come : Fun K "can_come" "can_come" s_can_come A.f_can_come A.d_can_come
  g_can_come : mg "can_come" = some (.ref A.f_can_come)
  B_can_come : Binds K A.d_can_come ["coding", "head", "many"] []
  F_least_due : Fun K "least_due" "least_due" s_least_due A.f_least_due A.d_least_due
  g_least_due : mg "least_due" = some (.ref A.f_least_due)
  B_least_due : Binds K A.d_least_due ["coding", "head", "many"] []
  F_read : Fun K "read" "read" s_read A.f_read A.d_read
  g_read : mg "read" = some (.ref A.f_read)
  B_read : Binds K A.d_read ["coding", "bits"] []
  F_put_by : Fun K "put_by" "put_by" s_put_by A.f_put_by A.d_put_by
  g_put_by : mg "put_by" = some (.ref A.f_put_by)
  B_put_by : Binds K A.d_put_by ["command", "text"] []
  F_spread : Fun K "spread" "spread" s_spread A.f_spread A.d_spread
  g_spread : mg "spread" = some (.ref A.f_spread)
  B_spread : Binds K A.d_spread ["coding", "way"] []
  F_text_of : Fun K "text_of" "text_of" s_text_of A.f_text_of A.d_text_of
  g_text_of : mg "text_of" = some (.ref A.f_text_of)
  B_text_of : Binds K A.d_text_of ["coding", "bits"] []
  F_law_read : Fun K "_law_read" "_law_read" s_law_read A.f_law_read A.d_law_read
  g_law_read : mg "_law_read" = some (.ref A.f_law_read)
  B_law_read : Binds K A.d_law_read ["_law_made", "_law_row", "_law_puts"] []
  F_law_both : Fun K "_law_both" "_law_both" s_law_both A.f_law_both A.d_law_both
  g_law_both : mg "_law_both" = some (.ref A.f_law_both)
  B_law_both : Binds K A.d_law_both ["_law_made", "_law_row", "_law_due"] []
  F_law_lack : Fun K "_law_lack" "_law_lack" s_law_lack A.f_law_lack A.d_law_lack
  g_law_lack : mg "_law_lack" = some (.ref A.f_law_lack)
  B_law_lack : Binds K A.d_law_lack ["_law_plain_here", "_law_head", "_law_many"] []
  F_law_could : Fun K "_law_could" "_law_could" s_law_could A.f_law_could A.d_law_could
  g_law_could : mg "_law_could" = some (.ref A.f_law_could)
  B_law_could : Binds K A.d_law_could ["_law_plain_here", "_law_head", "_law_many"] []
  F_law_parsed : Fun K "_law_parsed" "_law_parsed" s_law_parsed A.f_law_parsed A.d_law_parsed
  g_law_parsed : mg "_law_parsed" = some (.ref A.f_law_parsed)
  B_law_parsed : Binds K A.d_law_parsed ["_law_plain_here", "_law_row"] []
  F_law_changed_holds : Fun K "_law_changed_holds" "_law_changed_holds" s_law_changed_holds A.f_law_changed_holds A.d_law_changed_holds
  g_law_changed_holds : mg "_law_changed_holds" = some (.ref A.f_law_changed_holds)
  B_law_changed_holds : Binds K A.d_law_changed_holds ["_law_made", "_law_plain_here", "_law_row", "_law_at", "_law_items"] []
  F_law : Fun K "law" "law" s_law A.f_law A.d_law
  g_law : mg "law" = some (.ref A.f_law)
  B_law : Binds K A.d_law ["_law_script"] []
  KB_read_bits_coding : KB K A.d_read ["coding", "bits"] 0 ["bits", "coding"] ord_read_bits_coding
  KB_text_of_bits_coding : KB K A.d_text_of ["coding", "bits"] 0 ["bits", "coding"] ord_text_of_bits_coding
  oc_Format : OC K A.c_Format
  M_Format : Mk K A.c_Format A.f_Format_init
  g_Format : mg "Format" = some (.ref A.c_Format)
  na_by_word : NoAttr K A.c_Format "by_word"
  na_coded_words : NoAttr K A.c_Format "coded_words"
  na_copy_list : NoAttr K A.c_Format "copy_list"
  na_heads : NoAttr K A.c_Format "heads"
  na_letters : NoAttr K A.c_Format "letters"
  na_longest : NoAttr K A.c_Format "longest"
  na_order : NoAttr K A.c_Format "order"
  na_prices : NoAttr K A.c_Format "prices"
  na_window : NoAttr K A.c_Format "window"
  Me_Format_has : Meth K A.c_Format "has" A.f_Format_has
  ox_BadBits : OexC K A.c_BadBits
  xf_BadBits : XfC K A.c_BadBits
  nf_BadBits : PySem.W.findIn K (.ref A.c_BadBits) "at" = some none
  ic_BadBits : PySem.W.findIn K (.ref A.c_BadBits) "__init__" = some (some (.ref A.f_BadBits_init))
  ti_BadBits : PySem.W.typeIn K (.ref A.f_BadBits_init) = some (.type "function")
  Fi_BadBits : Fun K "__init__" "BadBits.__init__" s_BadBits_init A.f_BadBits_init A.d_BadBits_init
  bi_BadBits : Binds K A.d_BadBits_init ["self", "at"] []
  g_BadBits : mg "BadBits" = some (.ref A.c_BadBits)
  ox_BadFormat : OexC K A.c_BadFormat
  xf_BadFormat : XfC K A.c_BadFormat
  nf_BadFormat : PySem.W.findIn K (.ref A.c_BadFormat) "part" = some none
  ic_BadFormat : PySem.W.findIn K (.ref A.c_BadFormat) "__init__" = some (some (.ref A.f_BadFormat_init))
  ti_BadFormat : PySem.W.typeIn K (.ref A.f_BadFormat_init) = some (.type "function")
  Fi_BadFormat : Fun K "__init__" "BadFormat.__init__" s_BadFormat_init A.f_BadFormat_init A.d_BadFormat_init
  bi_BadFormat : Binds K A.d_BadFormat_init ["self", "part"] []
  g_BadFormat : mg "BadFormat" = some (.ref A.c_BadFormat)
  ox_BadWay : OexC K A.c_BadWay
  xf_BadWay : XfC K A.c_BadWay
  nf_BadWay : PySem.W.findIn K (.ref A.c_BadWay) "at" = some none
  ic_BadWay : PySem.W.findIn K (.ref A.c_BadWay) "__init__" = some (some (.ref A.f_BadWay_init))
  ti_BadWay : PySem.W.typeIn K (.ref A.f_BadWay_init) = some (.type "function")
  Fi_BadWay : Fun K "__init__" "BadWay.__init__" s_BadWay_init A.f_BadWay_init A.d_BadWay_init
  bi_BadWay : Binds K A.d_BadWay_init ["self", "at"] []
  g_BadWay : mg "BadWay" = some (.ref A.c_BadWay)
  ox_Left : OexC K A.c_Left
  xf_Left : XfC K A.c_Left
  nf_Left : PySem.W.findIn K (.ref A.c_Left) "at" = some none
  ic_Left : PySem.W.findIn K (.ref A.c_Left) "__init__" = some (some (.ref A.f_Left_init))
  ti_Left : PySem.W.typeIn K (.ref A.f_Left_init) = some (.type "function")
  Fi_Left : Fun K "__init__" "Left.__init__" s_Left_init A.f_Left_init A.d_Left_init
  bi_Left : Binds K A.d_Left_init ["self", "at"] []
  g_Left : mg "Left" = some (.ref A.c_Left)
  ox_TooFew : OexC K A.c_TooFew
  xf_TooFew : XfC K A.c_TooFew
  nf_TooFew : PySem.W.findIn K (.ref A.c_TooFew) "due" = some none
  ic_TooFew : PySem.W.findIn K (.ref A.c_TooFew) "__init__" = some (some (.ref A.f_TooFew_init))
  ti_TooFew : PySem.W.typeIn K (.ref A.f_TooFew_init) = some (.type "function")
  Fi_TooFew : Fun K "__init__" "TooFew.__init__" s_TooFew_init A.f_TooFew_init A.d_TooFew_init
  bi_TooFew : Binds K A.d_TooFew_init ["self", "due"] []
  g_TooFew : mg "TooFew" = some (.ref A.c_TooFew)
  xP_NoBits : PySem.W.excIn K A.c_NoBits [.type "ValueError", .type "Exception", .type "BaseException", .type "object"] "ValueError.__new__" = true
  kp_NoBits : PySem.W.keepIn K (.ref A.c_NoBits) = true
  bP_NoBits : PySem.W.subIn K (.ref A.c_NoBits) (.type "BaseException") = some true
  tP_NoBits : PySem.W.typeIn K (.ref A.c_NoBits) = some (.type "type")
  g_NoBits : mg "NoBits" = some (.ref A.c_NoBits)
  ex_BadBits_BadBits : PySem.W.exmOne K (.ref A.c_BadBits) (.ref A.c_BadBits) = some true
  ex_BadFormat_BadBits : PySem.W.exmOne K (.ref A.c_BadFormat) (.ref A.c_BadBits) = some false
  ex_BadWay_BadBits : PySem.W.exmOne K (.ref A.c_BadWay) (.ref A.c_BadBits) = some false
  ex_Left_BadBits : PySem.W.exmOne K (.ref A.c_Left) (.ref A.c_BadBits) = some false
  ex_NoBits_BadBits : PySem.W.exmOne K (.ref A.c_NoBits) (.ref A.c_BadBits) = some false
  ex_TooFew_BadBits : PySem.W.exmOne K (.ref A.c_TooFew) (.ref A.c_BadBits) = some false
  ex_BadBits_Left : PySem.W.exmOne K (.ref A.c_BadBits) (.ref A.c_Left) = some false
  ex_BadFormat_Left : PySem.W.exmOne K (.ref A.c_BadFormat) (.ref A.c_Left) = some false
  ex_BadWay_Left : PySem.W.exmOne K (.ref A.c_BadWay) (.ref A.c_Left) = some false
  ex_Left_Left : PySem.W.exmOne K (.ref A.c_Left) (.ref A.c_Left) = some true
  ex_NoBits_Left : PySem.W.exmOne K (.ref A.c_NoBits) (.ref A.c_Left) = some false
  ex_TooFew_Left : PySem.W.exmOne K (.ref A.c_TooFew) (.ref A.c_Left) = some false
  ex_BadBits_NoBits : PySem.W.exmOne K (.ref A.c_BadBits) (.ref A.c_NoBits) = some false
  ex_BadFormat_NoBits : PySem.W.exmOne K (.ref A.c_BadFormat) (.ref A.c_NoBits) = some false
  ex_BadWay_NoBits : PySem.W.exmOne K (.ref A.c_BadWay) (.ref A.c_NoBits) = some false
  ex_Left_NoBits : PySem.W.exmOne K (.ref A.c_Left) (.ref A.c_NoBits) = some false
  ex_NoBits_NoBits : PySem.W.exmOne K (.ref A.c_NoBits) (.ref A.c_NoBits) = some true
  ex_TooFew_NoBits : PySem.W.exmOne K (.ref A.c_TooFew) (.ref A.c_NoBits) = some false
  ex_BadBits_TooFew : PySem.W.exmOne K (.ref A.c_BadBits) (.ref A.c_TooFew) = some false
  ex_BadFormat_TooFew : PySem.W.exmOne K (.ref A.c_BadFormat) (.ref A.c_TooFew) = some false
  ex_BadWay_TooFew : PySem.W.exmOne K (.ref A.c_BadWay) (.ref A.c_TooFew) = some false
  ex_Left_TooFew : PySem.W.exmOne K (.ref A.c_Left) (.ref A.c_TooFew) = some false
  ex_NoBits_TooFew : PySem.W.exmOne K (.ref A.c_NoBits) (.ref A.c_TooFew) = some false
  ex_TooFew_TooFew : PySem.W.exmOne K (.ref A.c_TooFew) (.ref A.c_TooFew) = some true
  g_LETTERS : mg "LETTERS" = some (.str (S2 [97, 98, 99, 100, 101, 102, 103, 104, 105, 106, 107, 108, 109, 110, 111, 112, 113, 114, 115, 116, 117, 118, 119, 120, 121, 122]) A.t_LETTERS)
  g_LONGEST_WORD : mg "LONGEST_WORD" = some (.int 12 A.t_LONGEST_WORD)
  g_MOST_COMMANDS : mg "MOST_COMMANDS" = some (.int 40 A.t_MOST_COMMANDS)
  b_bool : mg "bool" = none
  b_dict : mg "dict" = none
  b_enumerate : mg "enumerate" = none
  b_int : mg "int" = none
  b_isinstance : mg "isinstance" = none
  b_len : mg "len" = none
  b_list : mg "list" = none
  b_max : mg "max" = none
  b_min : mg "min" = none
  b_range : mg "range" = none
  b_sorted : mg "sorted" = none
  b_str : mg "str" = none
  b_tuple : mg "tuple" = none
end K13

/-! K13b1 -/
set_option Elab.async false
set_option linter.all false
set_option maxRecDepth 100000
set_option maxHeartbeats 4000000
namespace K13
open PySem PySem.Spec PyProof.Rows SeqAt L2 LV
variable {P : Program} {w : World} {K : PySem.W.Frag} {mg : Str → Option Value} {base : Heap} {A : Ad}
theorem okI_BadBits (T : Tx K mg A) : FnOk P w K mg base (L2.CX P w) 1 A.f_BadBits_init A.d_BadBits_init ["self", "at"] (spI K "at") := init_err T.Fi_BadBits sc_BadBits_init rfl rfl rfl
end K13

/-! K13b2 -/
set_option Elab.async false
set_option linter.all false
set_option maxRecDepth 100000
set_option maxHeartbeats 4000000
namespace K13
open PySem PySem.Spec PyProof.Rows SeqAt L2 LV
variable {P : Program} {w : World} {K : PySem.W.Frag} {mg : Str → Option Value} {base : Heap} {A : Ad}
theorem okI_BadFormat (T : Tx K mg A) : FnOk P w K mg base (L2.CX P w) 1 A.f_BadFormat_init A.d_BadFormat_init ["self", "part"] (spI K "part") := init_err T.Fi_BadFormat sc_BadFormat_init rfl rfl rfl
end K13

/-! K13b3 -/
set_option Elab.async false
set_option linter.all false
set_option maxRecDepth 100000
set_option maxHeartbeats 4000000
namespace K13
open PySem PySem.Spec PyProof.Rows SeqAt L2 LV
variable {P : Program} {w : World} {K : PySem.W.Frag} {mg : Str → Option Value} {base : Heap} {A : Ad}
theorem okI_BadWay (T : Tx K mg A) : FnOk P w K mg base (L2.CX P w) 1 A.f_BadWay_init A.d_BadWay_init ["self", "at"] (spI K "at") := init_err T.Fi_BadWay sc_BadWay_init rfl rfl rfl
end K13

/-! K13b4 -/
set_option Elab.async false
set_option linter.all false
set_option maxRecDepth 100000
set_option maxHeartbeats 4000000
namespace K13
open PySem PySem.Spec PyProof.Rows SeqAt L2 LV
variable {P : Program} {w : World} {K : PySem.W.Frag} {mg : Str → Option Value} {base : Heap} {A : Ad}
theorem okI_Left (T : Tx K mg A) : FnOk P w K mg base (L2.CX P w) 1 A.f_Left_init A.d_Left_init ["self", "at"] (spI K "at") := init_err T.Fi_Left sc_Left_init rfl rfl rfl
end K13

/-! K13b5 -/
set_option Elab.async false
set_option linter.all false
set_option maxRecDepth 100000
set_option maxHeartbeats 4000000
namespace K13
open PySem PySem.Spec PyProof.Rows SeqAt L2 LV
variable {P : Program} {w : World} {K : PySem.W.Frag} {mg : Str → Option Value} {base : Heap} {A : Ad}
theorem okI_TooFew (T : Tx K mg A) : FnOk P w K mg base (L2.CX P w) 1 A.f_TooFew_init A.d_TooFew_init ["self", "due"] (spI K "due") := init_err T.Fi_TooFew sc_TooFew_init rfl rfl rfl
end K13

/-! K13b6 -/
set_option Elab.async false
set_option linter.all false
set_option maxRecDepth 100000
set_option maxHeartbeats 4000000
namespace K13
open PySem PySem.Spec PyProof.Rows SeqAt L2 LV
variable {P : Program} {w : World} {K : PySem.W.Frag} {mg : Str → Option Value} {base : Heap} {A : Ad}
theorem Tx.ca_BadBits (T : Tx K mg A) : Catch K (clsF A) (.ref A.c_BadBits) mt_BadBits := by
  intro y C b h1 h2
  unfold mt_BadBits at h2
  split at h2
  · rename_i e
    subst e
    cases h2
    cases (gCF_BadBits A).symm.trans h1
    exact T.ex_BadBits_BadBits
  · skip
    split at h2
    · rename_i e
      subst e
      cases h2
      cases (gCF_BadFormat A).symm.trans h1
      exact T.ex_BadFormat_BadBits
    · skip
      split at h2
      · rename_i e
        subst e
        cases h2
        cases (gCF_BadWay A).symm.trans h1
        exact T.ex_BadWay_BadBits
      · skip
        split at h2
        · rename_i e
          subst e
          cases h2
          cases (gCF_Left A).symm.trans h1
          exact T.ex_Left_BadBits
        · skip
          split at h2
          · rename_i e
            subst e
            cases h2
            cases (gCF_NoBits A).symm.trans h1
            exact T.ex_NoBits_BadBits
          · skip
            split at h2
            · rename_i e
              subst e
              cases h2
              cases (gCF_TooFew A).symm.trans h1
              exact T.ex_TooFew_BadBits
            · skip
              cases h2
end K13

/-! K13b7 -/
set_option Elab.async false
set_option linter.all false
set_option maxRecDepth 100000
set_option maxHeartbeats 4000000
namespace K13
open PySem PySem.Spec PyProof.Rows SeqAt L2 LV
variable {P : Program} {w : World} {K : PySem.W.Frag} {mg : Str → Option Value} {base : Heap} {A : Ad}
theorem Tx.ca_Left (T : Tx K mg A) : Catch K (clsF A) (.ref A.c_Left) mt_Left := by
  intro y C b h1 h2
  unfold mt_Left at h2
  split at h2
  · rename_i e
    subst e
    cases h2
    cases (gCF_BadBits A).symm.trans h1
    exact T.ex_BadBits_Left
  · skip
    split at h2
    · rename_i e
      subst e
      cases h2
      cases (gCF_BadFormat A).symm.trans h1
      exact T.ex_BadFormat_Left
    · skip
      split at h2
      · rename_i e
        subst e
        cases h2
        cases (gCF_BadWay A).symm.trans h1
        exact T.ex_BadWay_Left
      · skip
        split at h2
        · rename_i e
          subst e
          cases h2
          cases (gCF_Left A).symm.trans h1
          exact T.ex_Left_Left
        · skip
          split at h2
          · rename_i e
            subst e
            cases h2
            cases (gCF_NoBits A).symm.trans h1
            exact T.ex_NoBits_Left
          · skip
            split at h2
            · rename_i e
              subst e
              cases h2
              cases (gCF_TooFew A).symm.trans h1
              exact T.ex_TooFew_Left
            · skip
              cases h2
end K13

/-! K13b8 -/
set_option Elab.async false
set_option linter.all false
set_option maxRecDepth 100000
set_option maxHeartbeats 4000000
namespace K13
open PySem PySem.Spec PyProof.Rows SeqAt L2 LV
variable {P : Program} {w : World} {K : PySem.W.Frag} {mg : Str → Option Value} {base : Heap} {A : Ad}
theorem Tx.ca_NoBits (T : Tx K mg A) : Catch K (clsF A) (.ref A.c_NoBits) mt_NoBits := by
  intro y C b h1 h2
  unfold mt_NoBits at h2
  split at h2
  · rename_i e
    subst e
    cases h2
    cases (gCF_BadBits A).symm.trans h1
    exact T.ex_BadBits_NoBits
  · skip
    split at h2
    · rename_i e
      subst e
      cases h2
      cases (gCF_BadFormat A).symm.trans h1
      exact T.ex_BadFormat_NoBits
    · skip
      split at h2
      · rename_i e
        subst e
        cases h2
        cases (gCF_BadWay A).symm.trans h1
        exact T.ex_BadWay_NoBits
      · skip
        split at h2
        · rename_i e
          subst e
          cases h2
          cases (gCF_Left A).symm.trans h1
          exact T.ex_Left_NoBits
        · skip
          split at h2
          · rename_i e
            subst e
            cases h2
            cases (gCF_NoBits A).symm.trans h1
            exact T.ex_NoBits_NoBits
          · skip
            split at h2
            · rename_i e
              subst e
              cases h2
              cases (gCF_TooFew A).symm.trans h1
              exact T.ex_TooFew_NoBits
            · skip
              cases h2
end K13

/-! K13b9 -/
set_option Elab.async false
set_option linter.all false
set_option maxRecDepth 100000
set_option maxHeartbeats 4000000
namespace K13
open PySem PySem.Spec PyProof.Rows SeqAt L2 LV
variable {P : Program} {w : World} {K : PySem.W.Frag} {mg : Str → Option Value} {base : Heap} {A : Ad}
theorem Tx.ca_TooFew (T : Tx K mg A) : Catch K (clsF A) (.ref A.c_TooFew) mt_TooFew := by
  intro y C b h1 h2
  unfold mt_TooFew at h2
  split at h2
  · rename_i e
    subst e
    cases h2
    cases (gCF_BadBits A).symm.trans h1
    exact T.ex_BadBits_TooFew
  · skip
    split at h2
    · rename_i e
      subst e
      cases h2
      cases (gCF_BadFormat A).symm.trans h1
      exact T.ex_BadFormat_TooFew
    · skip
      split at h2
      · rename_i e
        subst e
        cases h2
        cases (gCF_BadWay A).symm.trans h1
        exact T.ex_BadWay_TooFew
      · skip
        split at h2
        · rename_i e
          subst e
          cases h2
          cases (gCF_Left A).symm.trans h1
          exact T.ex_Left_TooFew
        · skip
          split at h2
          · rename_i e
            subst e
            cases h2
            cases (gCF_NoBits A).symm.trans h1
            exact T.ex_NoBits_TooFew
          · skip
            split at h2
            · rename_i e
              subst e
              cases h2
              cases (gCF_TooFew A).symm.trans h1
              exact T.ex_TooFew_TooFew
            · skip
              cases h2
end K13

/-! K13b10 -/
set_option Elab.async false
set_option linter.all false
set_option maxRecDepth 100000
set_option maxHeartbeats 4000000
namespace K13
open PySem PySem.Spec PyProof.Rows SeqAt L2 LV
variable {P : Program} {w : World} {K : PySem.W.Frag} {mg : Str → Option Value} {base : Heap} {A : Ad}
theorem Tx.xg_BadBits_at (T : Tx K mg A) : ∀ y ∈ (["BadBits"] : List Str), ∀ C, clsF A y = some C → XfC K C ∧ PySem.W.findIn K (.ref C) "at" = some none := by
  intro y hy C h
  rw [List.mem_singleton] at hy
  subst hy
  cases (gCF_BadBits A).symm.trans h
  exact ⟨T.xf_BadBits, T.nf_BadBits⟩
end K13

/-! K13b11 -/
set_option Elab.async false
set_option linter.all false
set_option maxRecDepth 100000
set_option maxHeartbeats 4000000
namespace K13
open PySem PySem.Spec PyProof.Rows SeqAt L2 LV
variable {P : Program} {w : World} {K : PySem.W.Frag} {mg : Str → Option Value} {base : Heap} {A : Ad}
theorem Tx.xg_Left_at (T : Tx K mg A) : ∀ y ∈ (["Left"] : List Str), ∀ C, clsF A y = some C → XfC K C ∧ PySem.W.findIn K (.ref C) "at" = some none := by
  intro y hy C h
  rw [List.mem_singleton] at hy
  subst hy
  cases (gCF_Left A).symm.trans h
  exact ⟨T.xf_Left, T.nf_Left⟩
end K13

/-! K13b12 -/
set_option Elab.async false
set_option linter.all false
set_option maxRecDepth 100000
set_option maxHeartbeats 4000000
namespace K13
open PySem PySem.Spec PyProof.Rows SeqAt L2 LV
variable {P : Program} {w : World} {K : PySem.W.Frag} {mg : Str → Option Value} {base : Heap} {A : Ad}
theorem Tx.xg_TooFew_due (T : Tx K mg A) : ∀ y ∈ (["TooFew"] : List Str), ∀ C, clsF A y = some C → XfC K C ∧ PySem.W.findIn K (.ref C) "due" = some none := by
  intro y hy C h
  rw [List.mem_singleton] at hy
  subst hy
  cases (gCF_TooFew A).symm.trans h
  exact ⟨T.xf_TooFew, T.nf_TooFew⟩
end K13

/-! K13b13 -/
set_option Elab.async false
set_option linter.all false
set_option maxRecDepth 100000
set_option maxHeartbeats 4000000
namespace K13
open PySem PySem.Spec PyProof.Rows SeqAt L2 LV
variable {P : Program} {w : World} {K : PySem.W.Frag} {mg : Str → Option Value} {base : Heap} {A : Ad}
theorem ok_is_letters (T : Tx K mg A) : FnOk P w K mg base (L2.CX P w) 1 A.f_is_letters A.d_is_letters ["thing"] (spF (GG K w A) 1 F_is_letters) :=
  fn_okN (k := 0) (m := m_is_letters) T.F_is_letters sc_is_letters rfl rfl (by decide) (fun cdv A₁ outer s H E g hgx hr =>
  (sss_cons (ss_if (sw_pt (sw_or (st_not (st_tru rfl (se_isi rfl (by decide) rfl T.b_isinstance rfl T.b_str (by first | rfl | decide +kernel) (by decide) (by decide) (se_v (pv 0))))) (sw_or (y_lt (f_len (en_of (G := GG K w A) hr) T.b_len rfl (sa_cons (se_v (pv 0)) sa_nil)) se_int) (sw_or1 (y_gt (f_len (en_of (G := GG K w A) hr) T.b_len rfl (sa_cons (se_v (pv 0)) sa_nil)) se_int)))))
  (sss_one (ss_ret se_bl))
  sss_nil)
  (sss_cons (ss_for (passes_of rfl) rfl (si_R1 rfl T.b_range (sa_cons (f_len (en_of (G := GG K w A) hr) T.b_len rfl (sa_cons (se_v (pv 0)) sa_nil)) sa_nil)) (sg_name sc_is_letters.nd rfl (by first | exact Or.inl rfl | exact Or.inr rfl))
  (sss_cons (ss_if (y_notin (x_ix (se_v (pv 0)) (se_v (pv 1)) (en_of (G := GG K w A) hr)) (se_glob (v := (.str (S2 [97, 98, 99, 100, 101, 102, 103, 104, 105, 106, 107, 108, 109, 110, 111, 112, 113, 114, 115, 116, 117, 118, 119, 120, 121, 122]))) (d := (.str [97, 98, 99, 100, 101, 102, 103, 104, 105, 106, 107, 108, 109, 110, 111, 112, 113, 114, 115, 116, 117, 118, 119, 120, 121, 122])) rfl T.g_LETTERS ⟨_, rfl⟩ (fun _ => by unfold DAt; rfl)) (en_of (G := GG K w A) hr))
  (sss_one (ss_ret se_bl))
  sss_nil)
  (sss_one (ss_if (sw_pt (sw_and (y_gt (se_v (pv 1)) se_int) (sw_and1 (y_ge (x_ix (se_v (pv 0)) (x_sub (se_v (pv 1)) se_int) (en_of (G := GG K w A) hr)) (x_ix (se_v (pv 0)) (se_v (pv 1)) (en_of (G := GG K w A) hr))))))
  (sss_one (ss_ret se_bl))
  sss_nil))))
  (sss_one (ss_ret se_bl)))))
end K13

/-! K13b14 -/
set_option Elab.async false
set_option linter.all false
set_option maxRecDepth 100000
set_option maxHeartbeats 4000000
namespace K13
open PySem PySem.Spec PyProof.Rows SeqAt L2 LV
variable {P : Program} {w : World} {K : PySem.W.Frag} {mg : Str → Option Value} {base : Heap} {A : Ad}
theorem ok_is_bits (T : Tx K mg A) : FnOk P w K mg base (L2.CX P w) 1 A.f_is_bits A.d_is_bits ["thing"] (spF (GG K w A) 1 F_is_bits) :=
  fn_okN (k := 0) (m := m_is_bits) T.F_is_bits sc_is_bits rfl rfl (by decide) (fun cdv A₁ outer s H E g hgx hr =>
  (sss_cons (ss_if (st_not (st_tru rfl (se_isi rfl (by decide) rfl T.b_isinstance rfl T.b_str (by first | rfl | decide +kernel) (by decide) (by decide) (se_v (pv 0)))))
  (sss_one (ss_ret se_bl))
  sss_nil)
  (sss_cons (ss_for (passes_of rfl) rfl (si_S (se_v (pv 0))) (sg_name sc_is_bits.nd rfl (by first | exact Or.inl rfl | exact Or.inr rfl))
  (sss_one (ss_if (sw_pt (sw_and (y_ne (se_v (pv 1)) (se_str (l := [48])) (en_of (G := GG K w A) hr)) (sw_and1 (y_ne (se_v (pv 1)) (se_str (l := [49])) (en_of (G := GG K w A) hr)))))
  (sss_one (ss_ret se_bl))
  sss_nil)))
  (sss_one (ss_ret se_bl)))))
end K13

/-! K13b15 -/
set_option Elab.async false
set_option linter.all false
set_option maxRecDepth 100000
set_option maxHeartbeats 4000000
namespace K13
open PySem PySem.Spec PyProof.Rows SeqAt L2 LV
variable {P : Program} {w : World} {K : PySem.W.Frag} {mg : Str → Option Value} {base : Heap} {A : Ad}
theorem ok_is_integer (T : Tx K mg A) : FnOk P w K mg base (L2.CX P w) 1 A.f_is_integer A.d_is_integer ["thing"] (spF (GG K w A) 1 F_is_integer) :=
  fn_okN (k := 0) (m := m_is_integer) T.F_is_integer sc_is_integer rfl rfl (by decide) (fun cdv A₁ outer s H E g hgx hr =>
  (sss_one (ss_ret (sv_and (se_isi rfl (by decide) rfl T.b_isinstance rfl T.b_int (by first | rfl | decide +kernel) (by decide) (by decide) (se_v (pv 0))) (sv_one (sv_not (se_isi rfl (by decide) rfl T.b_isinstance rfl T.b_bool (by first | rfl | decide +kernel) (by decide) (by decide) (se_v (pv 0)))))))))
end K13

/-! K13b16 -/
set_option Elab.async false
set_option linter.all false
set_option maxRecDepth 100000
set_option maxHeartbeats 4000000
namespace K13
open PySem PySem.Spec PyProof.Rows SeqAt L2 LV
variable {P : Program} {w : World} {K : PySem.W.Frag} {mg : Str → Option Value} {base : Heap} {A : Ad}
theorem ok_is_copy (T : Tx K mg A) : FnOk P w K mg base (L2.CX P w) 2 A.f_is_copy A.d_is_copy ["thing"] (spF (GG K w A) 1 F_is_copy) :=
  fn_okN (k := 1) (m := m_is_copy) T.F_is_copy sc_is_copy rfl rfl (by decide) (fun cdv A₁ outer s H E g hgx hr =>
  (sss_cons (ss_if (sw_pt (sw_or (st_not (st_tru rfl (se_isi rfl (by decide) rfl T.b_isinstance rfl T.b_tuple (by first | rfl | decide +kernel) (by decide) (by decide) (se_v (pv 0))))) (sw_or1 (y_ne (f_len (en_of (G := GG K w A) hr) T.b_len rfl (sa_cons (se_v (pv 0)) sa_nil)) se_int (en_of (G := GG K w A) hr)))))
  (sss_one (ss_ret se_bl))
  sss_nil)
  (sss_cons (ss_if (sw_pt (sw_or (st_not (st_tru rfl (se_callA (ok_is_integer T) (hr.mono (by decide)) rfl T.g_is_integer T.F_is_integer.kp T.B_is_integer (takes_of rfl rfl rfl rfl) (sa_cons (x_ix (se_v (pv 0)) se_int (en_of (G := GG K w A) hr)) sa_nil)))) (sw_or1 (st_not (st_tru rfl (se_callA (ok_is_integer T) (hr.mono (by decide)) rfl T.g_is_integer T.F_is_integer.kp T.B_is_integer (takes_of rfl rfl rfl rfl) (sa_cons (x_ix (se_v (pv 0)) se_int (en_of (G := GG K w A) hr)) sa_nil)))))))
  (sss_one (ss_ret se_bl))
  sss_nil)
  (sss_one (ss_ret (sv_and (x_ch_le_le se_int (x_ix (se_v (pv 0)) se_int (en_of (G := GG K w A) hr)) se_int) (sv_one (x_ch_le_le se_int (x_ix (se_v (pv 0)) se_int (en_of (G := GG K w A) hr)) se_int))))))))
end K13

/-! K13b17 -/
set_option Elab.async false
set_option linter.all false
set_option maxRecDepth 100000
set_option maxHeartbeats 4000000
namespace K13
open PySem PySem.Spec PyProof.Rows SeqAt L2 LV
variable {P : Program} {w : World} {K : PySem.W.Frag} {mg : Str → Option Value} {base : Heap} {A : Ad}
theorem ok_is_letter (T : Tx K mg A) : FnOk P w K mg base (L2.CX P w) 1 A.f_is_letter A.d_is_letter ["thing"] (spF (GG K w A) 1 F_is_letter) :=
  fn_okN (k := 0) (m := m_is_letter) T.F_is_letter sc_is_letter rfl rfl (by decide) (fun cdv A₁ outer s H E g hgx hr =>
  (sss_one (ss_ret (sv_and (se_isi rfl (by decide) rfl T.b_isinstance rfl T.b_str (by first | rfl | decide +kernel) (by decide) (by decide) (se_v (pv 0))) (sv_and (x_eq (f_len (en_of (G := GG K w A) hr) T.b_len rfl (sa_cons (se_v (pv 0)) sa_nil)) se_int (en_of (G := GG K w A) hr)) (sv_one (x_in (se_v (pv 0)) (se_glob (v := (.str (S2 [97, 98, 99, 100, 101, 102, 103, 104, 105, 106, 107, 108, 109, 110, 111, 112, 113, 114, 115, 116, 117, 118, 119, 120, 121, 122]))) (d := (.str [97, 98, 99, 100, 101, 102, 103, 104, 105, 106, 107, 108, 109, 110, 111, 112, 113, 114, 115, 116, 117, 118, 119, 120, 121, 122])) rfl T.g_LETTERS ⟨_, rfl⟩ (fun _ => by unfold DAt; rfl)) (en_of (G := GG K w A) hr))))))))
end K13

/-! K13b18 -/
set_option Elab.async false
set_option linter.all false
set_option maxRecDepth 100000
set_option maxHeartbeats 4000000
namespace K13
open PySem PySem.Spec PyProof.Rows SeqAt L2 LV
variable {P : Program} {w : World} {K : PySem.W.Frag} {mg : Str → Option Value} {base : Heap} {A : Ad}
theorem ok_has_keys (T : Tx K mg A) : FnOk P w K mg base (L2.CX P w) 3 A.f_has_keys A.d_has_keys ["letters", "thing"] (spF (GG K w A) 2 F_has_keys) :=
  fn_okN (k := 2) (m := m_has_keys) T.F_has_keys sc_has_keys rfl rfl (by decide) (fun cdv A₁ outer s H E g hgx hr =>
  (sss_cons (ss_if (sw_pt (sw_or (st_not (st_tru rfl (se_isi rfl (by decide) rfl T.b_isinstance rfl T.b_dict (by first | rfl | decide +kernel) (by decide) (by decide) (se_v (pv 1))))) (sw_or1 (y_gt (f_len (en_of (G := GG K w A) hr) T.b_len rfl (sa_cons (se_v (pv 1)) sa_nil)) (se_glob (v := (.int 40)) (d := (.int 40)) rfl T.g_MOST_COMMANDS ⟨_, rfl⟩ (fun _ => by unfold DAt; rfl))))))
  (sss_one (ss_ret se_bl))
  sss_nil)
  (sss_cons (ss_for (passes_of rfl) rfl (si_Ks rfl (se_v (pv 1))) (sg_name sc_has_keys.nd rfl (by first | exact Or.inl rfl | exact Or.inr rfl))
  (sss_one (ss_if (sw_pt (sw_and (y_ne (se_v (pv 2)) (se_str (l := [101, 110, 100])) (en_of (G := GG K w A) hr)) (sw_and (st_not (st_tru rfl (se_callA (ok_is_copy T) (hr.mono (by decide)) rfl T.g_is_copy T.F_is_copy.kp T.B_is_copy (takes_of rfl rfl rfl rfl) (sa_cons (se_v (pv 2)) sa_nil)))) (sw_and1 (st_not (sw_pt (sw_and (st_tru rfl (se_callA (ok_is_letter T) (hr.mono (by decide)) rfl T.g_is_letter T.F_is_letter.kp T.B_is_letter (takes_of rfl rfl rfl rfl) (sa_cons (se_v (pv 2)) sa_nil))) (sw_and1 (y_in (se_v (pv 2)) (se_v (pv 0)) (en_of (G := GG K w A) hr))))))))))
  (sss_one (ss_ret se_bl))
  sss_nil)))
  (sss_cons (ss_for (passes_of rfl) rfl (si_S (se_v (pv 0))) (sg_name sc_has_keys.nd rfl (by first | exact Or.inl rfl | exact Or.inr rfl))
  (sss_one (ss_if (y_notinK (se_v (pv 3)) (se_v (pv 1)) (en_of (G := GG K w A) hr))
  (sss_one (ss_ret se_bl))
  sss_nil)))
  (sss_one (ss_ret (x_inK (se_str (l := [101, 110, 100])) (se_v (pv 1)) (en_of (G := GG K w A) hr))))))))
end K13

/-! K13b19 -/
set_option Elab.async false
set_option linter.all false
set_option maxRecDepth 100000
set_option maxHeartbeats 4000000
namespace K13
open PySem PySem.Spec PyProof.Rows SeqAt L2 LV
variable {P : Program} {w : World} {K : PySem.W.Frag} {mg : Str → Option Value} {base : Heap} {A : Ad}
theorem ok_are_words (T : Tx K mg A) : FnOk P w K mg base (L2.CX P w) 4 A.f_are_words A.d_are_words ["letters", "thing"] (spF (GG K w A) 2 F_are_words) :=
  fn_okN (k := 3) (m := m_are_words) T.F_are_words sc_are_words rfl rfl (by decide) (fun cdv A₁ outer s H E g hgx hr =>
  (sss_cons (ss_if (st_not (st_tru rfl (se_callA (ok_has_keys T) (hr.mono (by decide)) rfl T.g_has_keys T.F_has_keys.kp T.B_has_keys (takes_of rfl rfl rfl rfl) (sa_cons (se_v (pv 0)) (sa_cons (se_v (pv 1)) sa_nil)))))
  (sss_one (ss_ret se_bl))
  sss_nil)
  (sss_cons (ss_for (passes_of rfl) rfl (si_Vs rfl (se_v (pv 1))) (sg_name sc_are_words.nd rfl (by first | exact Or.inl rfl | exact Or.inr rfl))
  (sss_one (ss_if (sw_pt (sw_or (st_not (st_tru rfl (se_callA (ok_is_bits T) (hr.mono (by decide)) rfl T.g_is_bits T.F_is_bits.kp T.B_is_bits (takes_of rfl rfl rfl rfl) (sa_cons (se_v (pv 2)) sa_nil)))) (sw_or (y_lt (f_len (en_of (G := GG K w A) hr) T.b_len rfl (sa_cons (se_v (pv 2)) sa_nil)) se_int) (sw_or1 (y_gt (f_len (en_of (G := GG K w A) hr) T.b_len rfl (sa_cons (se_v (pv 2)) sa_nil)) (se_glob (v := (.int 12)) (d := (.int 12)) rfl T.g_LONGEST_WORD ⟨_, rfl⟩ (fun _ => by unfold DAt; rfl)))))))
  (sss_one (ss_ret se_bl))
  sss_nil)))
  (sss_cons (ss_set (i := 3) sc_are_words.nd rfl (by first | exact Or.inl rfl | exact Or.inr rfl) (se_fz (f_sorted (en_of (G := GG K w A) hr) T.b_sorted rfl (sa_cons (se_fz (se_lc (i := 2) (own := [(".0", 5), ("word", 2)]) rfl sc_are_words.nd (si_Vs rfl (se_v (pv 1))) bk_are_words_0 (by decide) (fun _ _ _ _ _ => pg_name sc_are_words.nd rfl (Or.inl rfl)) (fun _ _ _ _ _ => sts_nil) (fun _ _ _ _ _ => (se_v (pv 2))))) sa_nil))))
  (sss_cons (ss_for (passes_of rfl) rfl (si_R1 rfl T.b_range (sa_cons (x_sub (f_len (en_of (G := GG K w A) hr) T.b_len rfl (sa_cons (se_v (pv 3)) sa_nil)) se_int) sa_nil)) (sg_name sc_are_words.nd rfl (by first | exact Or.inl rfl | exact Or.inr rfl))
  (sss_one (ss_if (st_tru rfl (se_meth rfl oSw_serve PySem.F.plainAttrs_str PySem.F.slot_str_startswith PySem.F.type_str_startswith mt_startswith (x_ix (se_v (pv 3)) (x_add (se_v (pv 4)) se_int (en_of (G := GG K w A) hr)) (en_of (G := GG K w A) hr)) (sa_cons (x_ix (se_v (pv 3)) (se_v (pv 4)) (en_of (G := GG K w A) hr)) sa_nil)))
  (sss_one (ss_ret se_bl))
  sss_nil)))
  (sss_one (ss_ret se_bl)))))))
end K13

/-! K13b20 -/
set_option Elab.async false
set_option linter.all false
set_option maxRecDepth 100000
set_option maxHeartbeats 4000000
namespace K13
open PySem PySem.Spec PyProof.Rows SeqAt L2 LV
variable {P : Program} {w : World} {K : PySem.W.Frag} {mg : Str → Option Value} {base : Heap} {A : Ad}
theorem ok_in_order (T : Tx K mg A) : FnOk P w K mg base (L2.CX P w) 1 A.f_in_order A.d_in_order ["letters", "table"] (spF (GG K w A) 2 F_in_order) :=
  fn_okN (k := 0) (m := m_in_order) T.F_in_order sc_in_order rfl rfl (by decide) (fun cdv A₁ outer s H E g hgx hr =>
  (sss_cons (ss_set (i := 2) sc_in_order.nd rfl (by first | exact Or.inl rfl | exact Or.inr rfl) (se_fz (f_sorted (en_of (G := GG K w A) hr) T.b_sorted rfl (sa_cons (se_fz (se_lc (i := 4) (own := [(".0", 3), ("key", 4)]) rfl sc_in_order.nd (si_Ks rfl (se_v (pv 1))) bk_in_order_0 (by decide) (fun _ _ _ _ _ => pg_name sc_in_order.nd rfl (Or.inl rfl)) (fun _ _ _ _ _ => (sts_one (st_tru rfl (se_isi rfl (by decide) rfl T.b_isinstance rfl T.b_tuple (by first | rfl | decide +kernel) (by decide) (by decide) (se_v (pv 4)))))) (fun _ _ _ _ _ => (se_v (pv 4))))) sa_nil))))
  (sss_one (ss_ret (x_add (x_add (se_fz (f_list (en_of (G := GG K w A) hr) T.b_list rfl (sa_cons (se_v (pv 0)) sa_nil))) (se_v (pv 2)) (en_of (G := GG K w A) hr)) (se_fz (se_lst (sa_cons (se_str (l := [101, 110, 100])) sa_nil))) (en_of (G := GG K w A) hr))))))
end K13

/-! K13b21 -/
set_option Elab.async false
set_option linter.all false
set_option maxRecDepth 100000
set_option maxHeartbeats 4000000
namespace K13
open PySem PySem.Spec PyProof.Rows SeqAt L2 LV
variable {P : Program} {w : World} {K : PySem.W.Frag} {mg : Str → Option Value} {base : Heap} {A : Ad}
theorem ok_needed (T : Tx K mg A) : FnOk P w K mg base (L2.CX P w) 1 A.f_needed A.d_needed ["command"] (spF (GG K w A) 1 F_needed) :=
  fn_okN (k := 0) (m := m_needed) T.F_needed sc_needed rfl rfl (by decide) (fun cdv A₁ outer s H E g hgx hr =>
  (sss_cons (ss_if (st_tru rfl (se_isi rfl (by decide) rfl T.b_isinstance rfl T.b_tuple (by first | rfl | decide +kernel) (by decide) (by decide) (se_v (pv 0))))
  (sss_one (ss_ret (x_ix (se_v (pv 0)) se_int (en_of (G := GG K w A) hr))))
  sss_nil)
  (sss_one (ss_ret se_int))))
end K13

/-! K13b22 -/
set_option Elab.async false
set_option linter.all false
set_option maxRecDepth 100000
set_option maxHeartbeats 4000000
namespace K13
open PySem PySem.Spec PyProof.Rows SeqAt L2 LV
variable {P : Program} {w : World} {K : PySem.W.Frag} {mg : Str → Option Value} {base : Heap} {A : Ad}
theorem ok_reach (T : Tx K mg A) : FnOk P w K mg base (L2.CX P w) 1 A.f_reach A.d_reach ["command"] (spF (GG K w A) 1 F_reach) :=
  fn_okN (k := 0) (m := m_reach) T.F_reach sc_reach rfl rfl (by decide) (fun cdv A₁ outer s H E g hgx hr =>
  (sss_cons (ss_if (st_tru rfl (se_isi rfl (by decide) rfl T.b_isinstance rfl T.b_tuple (by first | rfl | decide +kernel) (by decide) (by decide) (se_v (pv 0))))
  (sss_one (ss_ret (x_ix (se_v (pv 0)) se_int (en_of (G := GG K w A) hr))))
  sss_nil)
  (sss_cons (ss_if (y_eq (se_v (pv 0)) (se_str (l := [101, 110, 100])) (en_of (G := GG K w A) hr))
  (sss_one (ss_ret se_int))
  sss_nil)
  (sss_one (ss_ret se_int)))))
end K13

/-! K13b23 -/
set_option Elab.async false
set_option linter.all false
set_option maxRecDepth 100000
set_option maxHeartbeats 4000000
namespace K13
open PySem PySem.Spec PyProof.Rows SeqAt L2 LV
variable {P : Program} {w : World} {K : PySem.W.Frag} {mg : Str → Option Value} {base : Heap} {A : Ad}
theorem ok_heads_of (T : Tx K mg A) : FnOk P w K mg base (L2.CX P w) 2 A.f_heads_of A.d_heads_of ["words"] (spF (GG K w A) 1 F_heads_of) :=
  fn_okN (k := 1) (m := m_heads_of) T.F_heads_of sc_heads_of rfl rfl (by decide) (fun cdv A₁ outer s H E g hgx hr =>
  (sss_cons (ss_set (i := 1) sc_heads_of.nd rfl (by first | exact Or.inl rfl | exact Or.inr rfl) (se_cell (se_dic0 rfl)))
  (sss_cons (ss_for (passes_of rfl) rfl (si_Ps rfl (se_v (pv 0))) (sg_tup rfl rfl (sgs_cons (sg_name sc_heads_of.nd rfl (by first | exact Or.inl rfl | exact Or.inr rfl)) (sgs_cons (sg_name sc_heads_of.nd rfl (by first | exact Or.inl rfl | exact Or.inr rfl)) sgs_nil)))
  (sss_one (ss_for (passes_of rfl) rfl (si_R1 rfl T.b_range (sa_cons (x_add (f_len (en_of (G := GG K w A) hr) T.b_len rfl (sa_cons (se_v (pv 3)) sa_nil)) se_int (en_of (G := GG K w A) hr)) sa_nil)) (sg_name sc_heads_of.nd rfl (by first | exact Or.inl rfl | exact Or.inr rfl))
  (sss_cons (ss_set (i := 5) sc_heads_of.nd rfl (by first | exact Or.inl rfl | exact Or.inr rfl) (se_sl rfl (se_v (pv 3)) so_none (so_some (se_v (pv 4)))))
  (sss_one (ss_asg (f_min (en_of (G := GG K w A) hr) T.b_min rfl (sa_cons (se_get2 rfl rfl (en_of (G := GG K w A) hr).hu (se_v (pv 1)) (se_v (pv 5)) (se_callA (ok_needed T) (hr.mono (by decide)) rfl T.g_needed T.F_needed.kp T.B_needed (takes_of rfl rfl rfl rfl) (sa_cons (se_v (pv 2)) sa_nil)) ⟨rfl, rfl, rfl, rfl⟩) (sa_cons (se_callA (ok_needed T) (hr.mono (by decide)) rfl T.g_needed T.F_needed.kp T.B_needed (takes_of rfl rfl rfl rfl) (sa_cons (se_v (pv 2)) sa_nil)) sa_nil))) (sg_subK rfl rfl (en_of (G := GG K w A) hr).hu (se_v (pv 1)) (se_v (pv 5)))))))))
  (sss_one (ss_ret (se_frz (se_v (pv 1))))))))
end K13

/-! K13b24 -/
set_option Elab.async false
set_option linter.all false
set_option maxRecDepth 100000
set_option maxHeartbeats 4000000
namespace K13
open PySem PySem.Spec PyProof.Rows SeqAt L2 LV
variable {P : Program} {w : World} {K : PySem.W.Frag} {mg : Str → Option Value} {base : Heap} {A : Ad}
theorem ok_Format_init (T : Tx K mg A) : FnOk P w K mg base (L2.CX P w) 5 A.f_Format_init A.d_Format_init ["self", "letters", "words"] (spF (GG K w A) 3 F_Format_init) :=
  fn_okN (k := 4) (m := m_Format_init) T.F_Format_init sc_Format_init rfl rfl (by decide) (fun cdv A₁ outer s H E g hgx hr =>
  (sss_cons (ss_if (st_not (st_tru rfl (se_callA (ok_is_letters T) (hr.mono (by decide)) rfl T.g_is_letters T.F_is_letters.kp T.B_is_letters (takes_of rfl rfl rfl rfl) (sa_cons (se_v (pv 1)) sa_nil))))
  (sss_one (ss_raise (gC_BadFormat ..) T.ox_BadFormat T.nf_BadFormat T.ic_BadFormat T.ti_BadFormat (okI_BadFormat T) (hr.mono (by decide)) T.bi_BadFormat rfl (takes_of rfl rfl rfl rfl) passL rfl T.g_BadFormat (se_str (l := [108, 101, 116, 116, 101, 114, 115]))))
  sss_nil)
  (sss_cons (ss_if (st_not (st_tru rfl (se_callA (ok_are_words T) (hr.mono (by decide)) rfl T.g_are_words T.F_are_words.kp T.B_are_words (takes_of rfl rfl rfl rfl) (sa_cons (se_v (pv 1)) (sa_cons (se_v (pv 2)) sa_nil)))))
  (sss_one (ss_raise (gC_BadFormat ..) T.ox_BadFormat T.nf_BadFormat T.ic_BadFormat T.ti_BadFormat (okI_BadFormat T) (hr.mono (by decide)) T.bi_BadFormat rfl (takes_of rfl rfl rfl rfl) passL rfl T.g_BadFormat (se_str (l := [119, 111, 114, 100, 115]))))
  sss_nil)
  (sss_cons (ss_fld rfl (gC_Format ..) T.oc_Format T.na_letters (se_v (pv 0)) (se_v (pv 1)))
  (sss_cons (ss_fld rfl (gC_Format ..) T.oc_Format T.na_order (se_v (pv 0)) (se_callA (ok_in_order T) (hr.mono (by decide)) rfl T.g_in_order T.F_in_order.kp T.B_in_order (takes_of rfl rfl rfl rfl) (sa_cons (se_v (pv 1)) (sa_cons (se_v (pv 2)) sa_nil))))
  (sss_cons (ss_fld rfl (gC_Format ..) T.oc_Format T.na_coded_words (se_v (pv 0)) (se_frz (se_cell (se_dc (i := 4) (own := [(".0", 3), ("command", 4)]) rfl rfl (en_of (G := GG K w A) hr).hu rfl sc_Format_init.nd (si_L rfl (se_fld rfl (gC_Format ..) T.oc_Format T.na_order (se_v (pv 0)))) bk_Format_init_0 (by decide) (fun _ _ _ _ _ => pg_name sc_Format_init.nd rfl (Or.inl rfl)) (fun _ _ _ _ _ => sts_nil) (fun _ _ _ _ _ => (se_v (pv 4))) (fun _ _ _ _ _ => (x_dix (se_v (pv 2)) (se_v (pv 4)) (en_of (G := GG K w A) hr)))))))
  (sss_cons (ss_fld rfl (gC_Format ..) T.oc_Format T.na_prices (se_v (pv 0)) (se_frz (se_cell (se_dc (i := 4) (own := [(".0", 3), ("command", 4)]) rfl rfl (en_of (G := GG K w A) hr).hu rfl sc_Format_init.nd (si_L rfl (se_fld rfl (gC_Format ..) T.oc_Format T.na_order (se_v (pv 0)))) bk_Format_init_1 (by decide) (fun _ _ _ _ _ => pg_name sc_Format_init.nd rfl (Or.inl rfl)) (fun _ _ _ _ _ => sts_nil) (fun _ _ _ _ _ => (se_v (pv 4))) (fun _ _ _ _ _ => (f_len (en_of (G := GG K w A) hr) T.b_len rfl (sa_cons (x_dix (se_v (pv 2)) (se_v (pv 4)) (en_of (G := GG K w A) hr)) sa_nil)))))))
  (sss_cons (ss_fld rfl (gC_Format ..) T.oc_Format T.na_by_word (se_v (pv 0)) (se_frz (se_cell (se_dc (i := 4) (own := [(".0", 3), ("command", 4)]) rfl rfl (en_of (G := GG K w A) hr).hu rfl sc_Format_init.nd (si_L rfl (se_fld rfl (gC_Format ..) T.oc_Format T.na_order (se_v (pv 0)))) bk_Format_init_2 (by decide) (fun _ _ _ _ _ => pg_name sc_Format_init.nd rfl (Or.inl rfl)) (fun _ _ _ _ _ => sts_nil) (fun _ _ _ _ _ => (x_dix (se_v (pv 2)) (se_v (pv 4)) (en_of (G := GG K w A) hr))) (fun _ _ _ _ _ => (se_v (pv 4)))))))
  (sss_cons (ss_fld rfl (gC_Format ..) T.oc_Format T.na_heads (se_v (pv 0)) (se_callA (ok_heads_of T) (hr.mono (by decide)) rfl T.g_heads_of T.F_heads_of.kp T.B_heads_of (takes_of rfl rfl rfl rfl) (sa_cons (se_fld rfl (gC_Format ..) T.oc_Format T.na_coded_words (se_v (pv 0))) sa_nil)))
  (sss_cons (ss_fld rfl (gC_Format ..) T.oc_Format T.na_copy_list (se_v (pv 0)) (se_fz (se_lc (i := 4) (own := [(".0", 3), ("command", 4)]) rfl sc_Format_init.nd (si_L rfl (se_fld rfl (gC_Format ..) T.oc_Format T.na_order (se_v (pv 0)))) bk_Format_init_3 (by decide) (fun _ _ _ _ _ => pg_name sc_Format_init.nd rfl (Or.inl rfl)) (fun _ _ _ _ _ => (sts_one (st_tru rfl (se_isi rfl (by decide) rfl T.b_isinstance rfl T.b_tuple (by first | rfl | decide +kernel) (by decide) (by decide) (se_v (pv 4)))))) (fun _ _ _ _ _ => (se_v (pv 4))))))
  (sss_cons (ss_fld rfl (gC_Format ..) T.oc_Format T.na_window (se_v (pv 0)) (f_max (en_of (G := GG K w A) hr) T.b_max rfl (sa_cons (se_fz (se_lc (i := 4) (own := [(".0", 3), ("command", 4)]) rfl sc_Format_init.nd (si_L rfl (se_fld rfl (gC_Format ..) T.oc_Format T.na_order (se_v (pv 0)))) bk_Format_init_4 (by decide) (fun _ _ _ _ _ => pg_name sc_Format_init.nd rfl (Or.inl rfl)) (fun _ _ _ _ _ => sts_nil) (fun _ _ _ _ _ => (se_callA (ok_needed T) (hr.mono (by decide)) rfl T.g_needed T.F_needed.kp T.B_needed takes0 (sa_cons (se_v (pv 4)) sa_nil))))) sa_nil)))
  (sss_one (ss_fld rfl (gC_Format ..) T.oc_Format T.na_longest (se_v (pv 0)) (f_max (en_of (G := GG K w A) hr) T.b_max rfl (sa_cons (se_fz (se_lc (i := 4) (own := [(".0", 3), ("command", 4)]) rfl sc_Format_init.nd (si_L rfl (se_fld rfl (gC_Format ..) T.oc_Format T.na_order (se_v (pv 0)))) bk_Format_init_5 (by decide) (fun _ _ _ _ _ => pg_name sc_Format_init.nd rfl (Or.inl rfl)) (fun _ _ _ _ _ => sts_nil) (fun _ _ _ _ _ => (se_callA (ok_reach T) (hr.mono (by decide)) rfl T.g_reach T.F_reach.kp T.B_reach takes0 (sa_cons (se_v (pv 4)) sa_nil))))) sa_nil)))))))))))))))
end K13

/-! K13b25 -/
set_option Elab.async false
set_option linter.all false
set_option maxRecDepth 100000
set_option maxHeartbeats 4000000
namespace K13
open PySem PySem.Spec PyProof.Rows SeqAt L2 LV
variable {P : Program} {w : World} {K : PySem.W.Frag} {mg : Str → Option Value} {base : Heap} {A : Ad}
theorem ok_Format_has (T : Tx K mg A) : FnOk P w K mg base (L2.CX P w) 3 A.f_Format_has A.d_Format_has ["self", "thing"] (spF (GG K w A) 2 F_Format_has) :=
  fn_okN (k := 2) (m := m_Format_has) T.F_Format_has sc_Format_has rfl rfl (by decide) (fun cdv A₁ outer s H E g hgx hr =>
  (sss_cons (ss_if (sw_pt (sw_and (st_not (st_tru rfl (se_callA (ok_is_copy T) (hr.mono (by decide)) rfl T.g_is_copy T.F_is_copy.kp T.B_is_copy (takes_of rfl rfl rfl rfl) (sa_cons (se_v (pv 1)) sa_nil)))) (sw_and1 (st_not (st_tru rfl (se_isi rfl (by decide) rfl T.b_isinstance rfl T.b_str (by first | rfl | decide +kernel) (by decide) (by decide) (se_v (pv 1))))))))
  (sss_one (ss_ret se_bl))
  sss_nil)
  (sss_one (ss_ret (x_inK (se_v (pv 1)) (se_fld rfl (gC_Format ..) T.oc_Format T.na_prices (se_v (pv 0))) (en_of (G := GG K w A) hr))))))
end K13

/-! K13b26 -/
set_option Elab.async false
set_option linter.all false
set_option maxRecDepth 100000
set_option maxHeartbeats 4000000
namespace K13
open PySem PySem.Spec PyProof.Rows SeqAt L2 LV
variable {P : Program} {w : World} {K : PySem.W.Frag} {mg : Str → Option Value} {base : Heap} {A : Ad}
theorem ok_check_way (T : Tx K mg A) : FnOk P w K mg base (L2.CX P w) 4 A.f_check_way A.d_check_way ["coding", "way"] (spF (GG K w A) 2 F_check_way) :=
  fn_okN (k := 3) (m := m_check_way) T.F_check_way sc_check_way rfl rfl (by decide) (fun cdv A₁ outer s H E g hgx hr =>
  (sss_cons (ss_if (st_not (st_tru rfl (se_isi rfl (by decide) rfl T.b_isinstance rfl T.b_list (by first | rfl | decide +kernel) (by decide) (by decide) (se_v (pv 1)))))
  (sss_one (ss_raise (gC_BadWay ..) T.ox_BadWay T.nf_BadWay T.ic_BadWay T.ti_BadWay (okI_BadWay T) (hr.mono (by decide)) T.bi_BadWay rfl (takes_of rfl rfl rfl rfl) passL rfl T.g_BadWay (se_neg se_int)))
  sss_nil)
  (sss_cons (ss_set (i := 2) sc_check_way.nd rfl (by first | exact Or.inl rfl | exact Or.inr rfl) se_int)
  (sss_one (ss_for (passes_of rfl) rfl (si_En rfl rfl T.b_enumerate (sa_cons (se_v (pv 1)) sa_nil)) (sg_tup rfl rfl (sgs_cons (sg_name sc_check_way.nd rfl (by first | exact Or.inl rfl | exact Or.inr rfl)) (sgs_cons (sg_name sc_check_way.nd rfl (by first | exact Or.inl rfl | exact Or.inr rfl)) sgs_nil)))
  (sss_cons (ss_if (sw_pt (sw_or (st_not (st_tru rfl (se_own (gC_Format ..) T.oc_Format T.Me_Format_has (ok_Format_has T) (hr.mono (by decide)) T.B_Format_has (takes_of rfl rfl rfl rfl) (se_v (pv 0)) (sa_cons (se_v (pv 4)) sa_nil)))) (sw_or (y_eq (se_v (pv 4)) (se_str (l := [101, 110, 100])) (en_of (G := GG K w A) hr)) (sw_or1 (y_gt (se_callA (ok_needed T) (hr.mono (by decide)) rfl T.g_needed T.F_needed.kp T.B_needed (takes_of rfl rfl rfl rfl) (sa_cons (se_v (pv 4)) sa_nil)) (se_v (pv 2)))))))
  (sss_one (ss_raise (gC_BadWay ..) T.ox_BadWay T.nf_BadWay T.ic_BadWay T.ti_BadWay (okI_BadWay T) (hr.mono (by decide)) T.bi_BadWay rfl (takes_of rfl rfl rfl rfl) passL rfl T.g_BadWay (se_v (pv 3))))
  sss_nil)
  (sss_one (x_iadd sc_check_way.nd rfl (by first | exact Or.inl rfl | exact Or.inr rfl) (se_callA (ok_reach T) (hr.mono (by decide)) rfl T.g_reach T.F_reach.kp T.B_reach (takes_of rfl rfl rfl rfl) (sa_cons (se_v (pv 4)) sa_nil))))))))))
end K13

/-! K13b27 -/
set_option Elab.async false
set_option linter.all false
set_option maxRecDepth 100000
set_option maxHeartbeats 4000000
namespace K13
open PySem PySem.Spec PyProof.Rows SeqAt L2 LV
variable {P : Program} {w : World} {K : PySem.W.Frag} {mg : Str → Option Value} {base : Heap} {A : Ad}
theorem ok_written (T : Tx K mg A) : FnOk P w K mg base (L2.CX P w) 5 A.f_written A.d_written ["coding", "way"] (spF (GG K w A) 2 F_written) :=
  fn_okN (k := 4) (m := m_written) T.F_written sc_written rfl rfl (by decide) (fun cdv A₁ outer s H E g hgx hr =>
  (sss_cons (ss_expr (se_callA (ok_check_way T) (hr.mono (by decide)) rfl T.g_check_way T.F_check_way.kp T.B_check_way (takes_of rfl rfl rfl rfl) (sa_cons (se_v (pv 0)) (sa_cons (se_v (pv 1)) sa_nil))))
  (sss_one (ss_ret (x_add (se_meth rfl (oJoin_serve rfl) PySem.F.plainAttrs_str PySem.F.slot_str_join PySem.F.type_str_join mt_join (se_str (l := [])) (sa_cons (se_fz (se_lc (i := 3) (own := [(".0", 2), ("command", 3)]) rfl sc_written.nd (si_L rfl (se_v (pv 1))) bk_written_0 (by decide) (fun _ _ _ _ _ => pg_name sc_written.nd rfl (Or.inl rfl)) (fun _ _ _ _ _ => sts_nil) (fun _ _ _ _ _ => (x_dix (se_fld rfl (gC_Format ..) T.oc_Format T.na_coded_words (se_v (pv 0))) (se_v (pv 3)) (en_of (G := GG K w A) hr))))) sa_nil)) (x_dix (se_fld rfl (gC_Format ..) T.oc_Format T.na_coded_words (se_v (pv 0))) (se_str (l := [101, 110, 100])) (en_of (G := GG K w A) hr)) (en_of (G := GG K w A) hr))))))
end K13

/-! K13b28 -/
set_option Elab.async false
set_option linter.all false
set_option maxRecDepth 100000
set_option maxHeartbeats 4000000
namespace K13
open PySem PySem.Spec PyProof.Rows SeqAt L2 LV
variable {P : Program} {w : World} {K : PySem.W.Frag} {mg : Str → Option Value} {base : Heap} {A : Ad}
theorem ok_law_start (T : Tx K mg A) : FnOk P w K mg base (L2.CX P w) 1 A.f_law_start A.d_law_start ["_law_script"] (spF (GG K w A) 1 F_law_start) :=
  fn_okN (k := 0) (m := m_law_start) T.F_law_start sc_law_start rfl rfl (by decide) (fun cdv A₁ outer s H E g hgx hr =>
  (sss_one (ss_ret (se_cell (se_lst (sa_cons (se_fz (f_list (en_of (G := GG K w A) hr) T.b_list rfl (sa_cons (se_v (pv 0)) sa_nil))) (sa_cons se_int (sa_cons se_int (sa_cons se_int sa_nil)))))))))
end K13

/-! K13b29 -/
set_option Elab.async false
set_option linter.all false
set_option maxRecDepth 100000
set_option maxHeartbeats 4000000
namespace K13
open PySem PySem.Spec PyProof.Rows SeqAt L2 LV
variable {P : Program} {w : World} {K : PySem.W.Frag} {mg : Str → Option Value} {base : Heap} {A : Ad}
theorem ok_law_pull (T : Tx K mg A) : FnOk P w K mg base (L2.CX P w) 1 A.f_law_pull A.d_law_pull ["_law_state", "_law_many"] (spF (GG K w A) 2 F_law_pull) :=
  fn_okN (k := 0) (m := m_law_pull) T.F_law_pull sc_law_pull rfl rfl (by decide) (fun cdv A₁ outer s H E g hgx hr =>
  (sss_cons (ss_if (sw_pt (sw_and (y_eq (x_ix (se_v (pv 0)) se_int (en_of (G := GG K w A) hr)) se_int (en_of (G := GG K w A) hr)) (sw_and1 (y_lt (x_ix (se_v (pv 0)) se_int (en_of (G := GG K w A) hr)) (f_len (en_of (G := GG K w A) hr) T.b_len rfl (sa_cons (x_ix (se_v (pv 0)) se_int (en_of (G := GG K w A) hr)) sa_nil))))))
  (sss_cons (ss_set (i := 2) sc_law_pull.nd rfl (by first | exact Or.inl rfl | exact Or.inr rfl) (x_ix (x_ix (se_v (pv 0)) se_int (en_of (G := GG K w A) hr)) (x_ix (se_v (pv 0)) se_int (en_of (G := GG K w A) hr)) (en_of (G := GG K w A) hr)))
  (sss_cons (ss_asg (x_add (x_ix (se_v (pv 0)) se_int (en_of (G := GG K w A) hr)) se_int (en_of (G := GG K w A) hr)) (sg_sub (se_v (pv 0)) se_int))
  (sss_one (ss_if (y_ge (se_v (pv 2)) (x_pow se_int se_int))
  (sss_one (ss_asg (se_v (pv 2)) (sg_sub (se_v (pv 0)) se_int)))
  (sss_one (ss_asg (x_mod (f_int (en_of (G := GG K w A) hr) T.b_int rfl (sa_cons (x_add (x_add (x_mul (x_ix (se_v (pv 0)) se_int (en_of (G := GG K w A) hr)) se_int) (x_mod (f_int (en_of (G := GG K w A) hr) T.b_int rfl (sa_cons (se_v (pv 2)) sa_nil)) se_int) (en_of (G := GG K w A) hr)) se_int (en_of (G := GG K w A) hr)) sa_nil)) se_int) (sg_sub (se_v (pv 0)) se_int)))))))
  sss_nil)
  (sss_cons (ss_if (y_gt (x_ix (se_v (pv 0)) se_int (en_of (G := GG K w A) hr)) se_int)
  (sss_cons (ss_set (i := 3) sc_law_pull.nd rfl (by first | exact Or.inl rfl | exact Or.inr rfl) (x_mod (f_int (en_of (G := GG K w A) hr) T.b_int rfl (sa_cons (x_ix (se_v (pv 0)) se_int (en_of (G := GG K w A) hr)) sa_nil)) (se_v (pv 1))))
  (sss_cons (ss_asg (x_div (x_ix (se_v (pv 0)) se_int (en_of (G := GG K w A) hr)) (se_v (pv 1))) (sg_sub (se_v (pv 0)) se_int))
  (sss_one (ss_ret (se_v (pv 3))))))
  sss_nil)
  (sss_cons (ss_asg (x_mod (f_int (en_of (G := GG K w A) hr) T.b_int rfl (sa_cons (x_add (x_mul (x_ix (se_v (pv 0)) se_int (en_of (G := GG K w A) hr)) se_int) se_int (en_of (G := GG K w A) hr)) sa_nil)) se_int) (sg_sub (se_v (pv 0)) se_int))
  (sss_cons (ss_set (i := 3) sc_law_pull.nd rfl (by first | exact Or.inl rfl | exact Or.inr rfl) (x_mod (f_int (en_of (G := GG K w A) hr) T.b_int rfl (sa_cons (x_add (x_mul (x_ix (se_v (pv 0)) se_int (en_of (G := GG K w A) hr)) se_int) (x_div (x_ix (se_v (pv 0)) se_int (en_of (G := GG K w A) hr)) se_int) (en_of (G := GG K w A) hr)) sa_nil)) se_int))
  (sss_one (ss_ret (x_mod (f_int (en_of (G := GG K w A) hr) T.b_int rfl (sa_cons (x_div (se_v (pv 3)) se_int) sa_nil)) (se_v (pv 1))))))))))
end K13

/-! K13b30 -/
set_option Elab.async false
set_option linter.all false
set_option maxRecDepth 100000
set_option maxHeartbeats 4000000
namespace K13
open PySem PySem.Spec PyProof.Rows SeqAt L2 LV
variable {P : Program} {w : World} {K : PySem.W.Frag} {mg : Str → Option Value} {base : Heap} {A : Ad}
theorem ok_law_alphabet (T : Tx K mg A) : FnOk P w K mg base (L2.CX P w) 2 A.f_law_alphabet A.d_law_alphabet ["_law_state", "_law_many"] (spF (GG K w A) 2 F_law_alphabet) :=
  fn_okN (k := 1) (m := m_law_alphabet) T.F_law_alphabet sc_law_alphabet rfl rfl (by decide) (fun cdv A₁ outer s H E g hgx hr =>
  (sss_cons (ss_set (i := 2) sc_law_alphabet.nd rfl (by first | exact Or.inl rfl | exact Or.inr rfl) (se_str (l := [])))
  (sss_cons (ss_set (i := 3) sc_law_alphabet.nd rfl (by first | exact Or.inl rfl | exact Or.inr rfl) se_int)
  (sss_cons (ss_for (passes_of rfl) rfl (si_R1 rfl T.b_range (sa_cons (se_v (pv 1)) sa_nil)) (sg_name sc_law_alphabet.nd rfl (by first | exact Or.inl rfl | exact Or.inr rfl))
  (sss_cons (ss_set (i := 5) sc_law_alphabet.nd rfl (by first | exact Or.inl rfl | exact Or.inr rfl) (x_add (se_v (pv 3)) (se_callA (ok_law_pull T) (hr.mono (by decide)) rfl T.g_law_pull T.F_law_pull.kp T.B_law_pull (takes_of rfl rfl rfl rfl) (sa_cons (se_v (pv 0)) (sa_cons (x_sub (x_add (x_sub se_int (se_v (pv 1))) (se_v (pv 4)) (en_of (G := GG K w A) hr)) (se_v (pv 3))) sa_nil))) (en_of (G := GG K w A) hr)))
  (sss_cons (ss_set (i := 2) sc_law_alphabet.nd rfl (by first | exact Or.inl rfl | exact Or.inr rfl) (x_add (se_v (pv 2)) (x_ix (se_str (l := [97, 98, 99, 100, 101, 102, 103, 104, 105, 106, 107, 108, 109, 110, 111, 112, 113, 114, 115, 116, 117, 118, 119, 120, 121, 122])) (se_v (pv 5)) (en_of (G := GG K w A) hr)) (en_of (G := GG K w A) hr)))
  (sss_one (ss_set (i := 3) sc_law_alphabet.nd rfl (by first | exact Or.inl rfl | exact Or.inr rfl) (x_add (se_v (pv 5)) se_int (en_of (G := GG K w A) hr)))))))
  (sss_one (ss_ret (se_v (pv 2))))))))
end K13

/-! K13b31 -/
set_option Elab.async false
set_option linter.all false
set_option maxRecDepth 100000
set_option maxHeartbeats 4000000
namespace K13
open PySem PySem.Spec PyProof.Rows SeqAt L2 LV
variable {P : Program} {w : World} {K : PySem.W.Frag} {mg : Str → Option Value} {base : Heap} {A : Ad}
theorem ok_law_copies (T : Tx K mg A) : FnOk P w K mg base (L2.CX P w) 2 A.f_law_copies A.d_law_copies ["_law_state", "_law_many", "_law_length", "_law_distance"] (spF (GG K w A) 4 F_law_copies) :=
  fn_okN (k := 1) (m := m_law_copies) T.F_law_copies sc_law_copies rfl rfl (by decide) (fun cdv A₁ outer s H E g hgx hr =>
  (sss_cons (ss_set (i := 4) sc_law_copies.nd rfl (by first | exact Or.inl rfl | exact Or.inr rfl) (se_cell (se_lst sa_nil)))
  (sss_cons (ss_for (passes_of rfl) rfl (si_R1 rfl T.b_range (sa_cons (se_v (pv 1)) sa_nil)) (sg_name sc_law_copies.nd rfl (by first | exact Or.inl rfl | exact Or.inr rfl))
  (sss_cons (ss_set (i := 6) sc_law_copies.nd rfl (by first | exact Or.inl rfl | exact Or.inr rfl) (se_tup (sa_cons (x_add se_int (se_callA (ok_law_pull T) (hr.mono (by decide)) rfl T.g_law_pull T.F_law_pull.kp T.B_law_pull (takes_of rfl rfl rfl rfl) (sa_cons (se_v (pv 0)) (sa_cons (x_sub (se_v (pv 2)) se_int) sa_nil))) (en_of (G := GG K w A) hr)) (sa_cons (x_add se_int (se_callA (ok_law_pull T) (hr.mono (by decide)) rfl T.g_law_pull T.F_law_pull.kp T.B_law_pull (takes_of rfl rfl rfl rfl) (sa_cons (se_v (pv 0)) (sa_cons (se_v (pv 3)) sa_nil))) (en_of (G := GG K w A) hr)) sa_nil))))
  (sss_one (ss_if (y_notin (se_v (pv 6)) (se_v (pv 4)) (en_of (G := GG K w A) hr))
  (sss_one (ss_expr (se_meth rfl oAppend_serve PySem.F.plainAttrs_list PySem.F.slot_list_append PySem.F.type_list_append mt_append (se_v (pv 4)) (sa_cons (se_v (pv 6)) sa_nil))))
  sss_nil))))
  (sss_one (ss_ret (se_frz (se_v (pv 4))))))))
end K13

/-! K13b32 -/
set_option Elab.async false
set_option linter.all false
set_option maxRecDepth 100000
set_option maxHeartbeats 4000000
namespace K13
open PySem PySem.Spec PyProof.Rows SeqAt L2 LV
variable {P : Program} {w : World} {K : PySem.W.Frag} {mg : Str → Option Value} {base : Heap} {A : Ad}
theorem ok_law_leaves (T : Tx K mg A) : FnOk P w K mg base (L2.CX P w) 2 A.f_law_leaves A.d_law_leaves ["_law_state", "_law_many"] (spF (GG K w A) 2 F_law_leaves) :=
  fn_okN (k := 1) (m := m_law_leaves) T.F_law_leaves sc_law_leaves rfl rfl (by decide) (fun cdv A₁ outer s H E g hgx hr =>
  (sss_cons (ss_set (i := 2) sc_law_leaves.nd rfl (by first | exact Or.inl rfl | exact Or.inr rfl) (se_cell (se_lst (sa_cons (se_str (l := [48])) (sa_cons (se_str (l := [49])) sa_nil)))))
  (sss_cons (ss_for (passes_of rfl) rfl (si_R1 rfl T.b_range (sa_cons (x_sub (se_v (pv 1)) se_int) sa_nil)) (sg_name sc_law_leaves.nd rfl (by first | exact Or.inl rfl | exact Or.inr rfl))
  (sss_cons (ss_set (i := 4) sc_law_leaves.nd rfl (by first | exact Or.inl rfl | exact Or.inr rfl) (se_callA (ok_law_pull T) (hr.mono (by decide)) rfl T.g_law_pull T.F_law_pull.kp T.B_law_pull (takes_of rfl rfl rfl rfl) (sa_cons (se_v (pv 0)) (sa_cons (f_len (en_of (G := GG K w A) hr) T.b_len rfl (sa_cons (se_v (pv 2)) sa_nil)) sa_nil))))
  (sss_cons (ss_for (passes_of rfl) rfl (si_R1 rfl T.b_range (sa_cons (f_len (en_of (G := GG K w A) hr) T.b_len rfl (sa_cons (se_v (pv 2)) sa_nil)) sa_nil)) (sg_name sc_law_leaves.nd rfl (by first | exact Or.inl rfl | exact Or.inr rfl))
  (sss_one (ss_if (sw_pt (sw_and (y_gt (f_len (en_of (G := GG K w A) hr) T.b_len rfl (sa_cons (x_ix (se_v (pv 2)) (se_v (pv 4)) (en_of (G := GG K w A) hr)) sa_nil)) se_int) (sw_and1 (y_lt (f_len (en_of (G := GG K w A) hr) T.b_len rfl (sa_cons (x_ix (se_v (pv 2)) (se_v (pv 5)) (en_of (G := GG K w A) hr)) sa_nil)) (f_len (en_of (G := GG K w A) hr) T.b_len rfl (sa_cons (x_ix (se_v (pv 2)) (se_v (pv 4)) (en_of (G := GG K w A) hr)) sa_nil))))))
  (sss_one (ss_set (i := 4) sc_law_leaves.nd rfl (by first | exact Or.inl rfl | exact Or.inr rfl) (se_v (pv 5))))
  sss_nil)))
  (sss_cons (ss_set (i := 6) sc_law_leaves.nd rfl (by first | exact Or.inl rfl | exact Or.inr rfl) (se_meth rfl oPopAt_serve PySem.F.plainAttrs_list PySem.F.slot_list_pop PySem.F.type_list_pop mt_popAt (se_v (pv 2)) (sa_cons (se_v (pv 4)) sa_nil)))
  (sss_one (ss_set (i := 2) sc_law_leaves.nd rfl (by first | exact Or.inl rfl | exact Or.inr rfl) (se_cell (x_addN (se_v (pv 2)) (se_fz (se_lst (sa_cons (x_add (se_v (pv 6)) (se_str (l := [48])) (en_of (G := GG K w A) hr)) (sa_cons (x_add (se_v (pv 6)) (se_str (l := [49])) (en_of (G := GG K w A) hr)) sa_nil)))) (en_of (G := GG K w A) hr)))))))))
  (sss_one (ss_ret (se_v (pv 2)))))))
end K13

/-! K13b33 -/
set_option Elab.async false
set_option linter.all false
set_option maxRecDepth 100000
set_option maxHeartbeats 4000000
namespace K13
open PySem PySem.Spec PyProof.Rows SeqAt L2 LV
variable {P : Program} {w : World} {K : PySem.W.Frag} {mg : Str → Option Value} {base : Heap} {A : Ad}
theorem ok_law_plain (T : Tx K mg A) : FnOk P w K mg base (L2.CX P w) 3 A.f_law_plain A.d_law_plain ["_law_state", "_law_letters", "_law_copy_keys"] (spF (GG K w A) 3 F_law_plain) :=
  fn_okN (k := 2) (m := m_law_plain) T.F_law_plain sc_law_plain rfl rfl (by decide) (fun cdv A₁ outer s H E g hgx hr =>
  (sss_cons (ss_set (i := 3) sc_law_plain.nd rfl (by first | exact Or.inl rfl | exact Or.inr rfl) (se_cell (x_addN (x_add (se_fz (f_list (en_of (G := GG K w A) hr) T.b_list rfl (sa_cons (se_v (pv 1)) sa_nil))) (se_fz (se_lst (sa_cons (se_str (l := [101, 110, 100])) sa_nil))) (en_of (G := GG K w A) hr)) (se_v (pv 2)) (en_of (G := GG K w A) hr))))
  (sss_cons (ss_set (i := 4) sc_law_plain.nd rfl (by first | exact Or.inl rfl | exact Or.inr rfl) (se_callA (ok_law_leaves T) (hr.mono (by decide)) rfl T.g_law_leaves T.F_law_leaves.kp T.B_law_leaves (takes_of rfl rfl rfl rfl) (sa_cons (se_v (pv 0)) (sa_cons (x_add (f_len (en_of (G := GG K w A) hr) T.b_len rfl (sa_cons (se_v (pv 3)) sa_nil)) (se_callA (ok_law_pull T) (hr.mono (by decide)) rfl T.g_law_pull T.F_law_pull.kp T.B_law_pull (takes_of rfl rfl rfl rfl) (sa_cons (se_v (pv 0)) (sa_cons se_int sa_nil))) (en_of (G := GG K w A) hr)) sa_nil))))
  (sss_cons (ss_set (i := 5) sc_law_plain.nd rfl (by first | exact Or.inl rfl | exact Or.inr rfl) (se_cell (se_dic0 rfl)))
  (sss_cons (ss_for (passes_of rfl) rfl (si_R1 rfl T.b_range (sa_cons (f_len (en_of (G := GG K w A) hr) T.b_len rfl (sa_cons (se_v (pv 3)) sa_nil)) sa_nil)) (sg_name sc_law_plain.nd rfl (by first | exact Or.inl rfl | exact Or.inr rfl))
  (sss_cons (ss_set (i := 7) sc_law_plain.nd rfl (by first | exact Or.inl rfl | exact Or.inr rfl) (se_meth rfl oPopAt_serve PySem.F.plainAttrs_list PySem.F.slot_list_pop PySem.F.type_list_pop mt_popAt (se_v (pv 3)) (sa_cons (se_callA (ok_law_pull T) (hr.mono (by decide)) rfl T.g_law_pull T.F_law_pull.kp T.B_law_pull (takes_of rfl rfl rfl rfl) (sa_cons (se_v (pv 0)) (sa_cons (f_len (en_of (G := GG K w A) hr) T.b_len rfl (sa_cons (se_v (pv 3)) sa_nil)) sa_nil))) sa_nil)))
  (sss_one (ss_asg (se_meth rfl oPopAt_serve PySem.F.plainAttrs_list PySem.F.slot_list_pop PySem.F.type_list_pop mt_popAt (se_v (pv 4)) (sa_cons (se_callA (ok_law_pull T) (hr.mono (by decide)) rfl T.g_law_pull T.F_law_pull.kp T.B_law_pull (takes_of rfl rfl rfl rfl) (sa_cons (se_v (pv 0)) (sa_cons (f_len (en_of (G := GG K w A) hr) T.b_len rfl (sa_cons (se_v (pv 4)) sa_nil)) sa_nil))) sa_nil)) (sg_subK rfl rfl (en_of (G := GG K w A) hr).hu (se_v (pv 5)) (se_v (pv 7)))))))
  (sss_one (ss_ret (se_fz (se_lst (sa_cons (se_v (pv 1)) (sa_cons (se_frz (se_v (pv 5))) sa_nil)))))))))))
end K13

/-! K13b34 -/
set_option Elab.async false
set_option linter.all false
set_option maxRecDepth 100000
set_option maxHeartbeats 4000000
namespace K13
open PySem PySem.Spec PyProof.Rows SeqAt L2 LV
variable {P : Program} {w : World} {K : PySem.W.Frag} {mg : Str → Option Value} {base : Heap} {A : Ad}
theorem ok_law_way (T : Tx K mg A) : FnOk P w K mg base (L2.CX P w) 2 A.f_law_way A.d_law_way ["_law_state", "_law_plain_here", "_law_size"] (spF (GG K w A) 3 F_law_way) :=
  fn_okN (k := 1) (m := m_law_way) T.F_law_way sc_law_way rfl rfl (by decide) (fun cdv A₁ outer s H E g hgx hr =>
  (sss_cons (ss_setLc (i := 3) (j := 4) (own := [(".0", 8), ("_law_key", 3)]) (cv := mFz) (fun _ _ _ => fz_imp _ _ _) rfl sc_law_way.nd rfl rfl rfl (si_Ks rfl (x_ix (se_v (pv 1)) se_int (en_of (G := GG K w A) hr))) bk_law_way_0 (by decide) (fun _ _ _ _ _ => pg_name sc_law_way.nd rfl (Or.inl rfl)) (fun _ _ _ _ _ => sts_nil) (fun _ _ _ _ _ => (se_v (pv 3))))
  (sss_cons (ss_set (i := 5) sc_law_way.nd rfl (by first | exact Or.inl rfl | exact Or.inr rfl) (se_cell (se_lst sa_nil)))
  (sss_cons (ss_set (i := 6) sc_law_way.nd rfl (by first | exact Or.inl rfl | exact Or.inr rfl) se_int)
  (sss_cons (ss_for (passes_of rfl) rfl (si_R1 rfl T.b_range (sa_cons (se_v (pv 2)) sa_nil)) (sg_name sc_law_way.nd rfl (by first | exact Or.inl rfl | exact Or.inr rfl))
  (sss_cons (ss_set (i := 3) sc_law_way.nd rfl (by first | exact Or.inl rfl | exact Or.inr rfl) (x_ix (se_v (pv 4)) (se_callA (ok_law_pull T) (hr.mono (by decide)) rfl T.g_law_pull T.F_law_pull.kp T.B_law_pull (takes_of rfl rfl rfl rfl) (sa_cons (se_v (pv 0)) (sa_cons (f_len (en_of (G := GG K w A) hr) T.b_len rfl (sa_cons (se_v (pv 4)) sa_nil)) sa_nil))) (en_of (G := GG K w A) hr)))
  (sss_cons (ss_if (sw_pt (sw_or (y_eq (se_v (pv 3)) (se_str (l := [101, 110, 100])) (en_of (G := GG K w A) hr)) (sw_or1 (sw_pt (sw_and (st_tru rfl (se_isi rfl (by decide) rfl T.b_isinstance rfl T.b_tuple (by first | rfl | decide +kernel) (by decide) (by decide) (se_v (pv 3)))) (sw_and1 (y_gt (x_ix (se_v (pv 3)) se_int (en_of (G := GG K w A) hr)) (se_v (pv 6)))))))))
  (sss_one (ss_set (i := 3) sc_law_way.nd rfl (by first | exact Or.inl rfl | exact Or.inr rfl) (x_ix (x_ix (se_v (pv 1)) se_int (en_of (G := GG K w A) hr)) (se_callA (ok_law_pull T) (hr.mono (by decide)) rfl T.g_law_pull T.F_law_pull.kp T.B_law_pull (takes_of rfl rfl rfl rfl) (sa_cons (se_v (pv 0)) (sa_cons (f_len (en_of (G := GG K w A) hr) T.b_len rfl (sa_cons (x_ix (se_v (pv 1)) se_int (en_of (G := GG K w A) hr)) sa_nil)) sa_nil))) (en_of (G := GG K w A) hr))))
  sss_nil)
  (sss_cons (ss_expr (se_meth rfl oAppend_serve PySem.F.plainAttrs_list PySem.F.slot_list_append PySem.F.type_list_append mt_append (se_v (pv 5)) (sa_cons (se_v (pv 3)) sa_nil)))
  (sss_one (ss_if (st_tru rfl (se_isi rfl (by decide) rfl T.b_isinstance rfl T.b_tuple (by first | rfl | decide +kernel) (by decide) (by decide) (se_v (pv 3))))
  (sss_one (ss_set (i := 6) sc_law_way.nd rfl (by first | exact Or.inl rfl | exact Or.inr rfl) (x_add (se_v (pv 6)) (x_ix (se_v (pv 3)) se_int (en_of (G := GG K w A) hr)) (en_of (G := GG K w A) hr))))
  (sss_one (ss_set (i := 6) sc_law_way.nd rfl (by first | exact Or.inl rfl | exact Or.inr rfl) (x_add (se_v (pv 6)) se_int (en_of (G := GG K w A) hr))))))))))
  (sss_one (ss_ret (se_frz (se_v (pv 5))))))))))
end K13

/-! K13b35 -/
set_option Elab.async false
set_option linter.all false
set_option maxRecDepth 100000
set_option maxHeartbeats 4000000
namespace K13
open PySem PySem.Spec PyProof.Rows SeqAt L2 LV
variable {P : Program} {w : World} {K : PySem.W.Frag} {mg : Str → Option Value} {base : Heap} {A : Ad}
theorem ok_law_copied (T : Tx K mg A) : FnOk P w K mg base (L2.CX P w) 1 A.f_law_copied A.d_law_copied ["_law_table"] (spF (GG K w A) 1 F_law_copied) :=
  fn_okN (k := 0) (m := m_law_copied) T.F_law_copied sc_law_copied rfl rfl (by decide) (fun cdv A₁ outer s H E g hgx hr =>
  (sss_cons (ss_set (i := 1) sc_law_copied.nd rfl (by first | exact Or.inl rfl | exact Or.inr rfl) (se_cell (se_dic0 rfl)))
  (sss_cons (ss_for (passes_of rfl) rfl (si_Ks rfl (se_v (pv 0))) (sg_name sc_law_copied.nd rfl (by first | exact Or.inl rfl | exact Or.inr rfl))
  (sss_one (ss_asg (x_dix (se_v (pv 0)) (se_v (pv 2)) (en_of (G := GG K w A) hr)) (sg_subK rfl rfl (en_of (G := GG K w A) hr).hu (se_v (pv 1)) (se_v (pv 2))))))
  (sss_one (ss_ret (se_v (pv 1)))))))
end K13

/-! K13b36 -/
set_option Elab.async false
set_option linter.all false
set_option maxRecDepth 100000
set_option maxHeartbeats 4000000
namespace K13
open PySem PySem.Spec PyProof.Rows SeqAt L2 LV
variable {P : Program} {w : World} {K : PySem.W.Frag} {mg : Str → Option Value} {base : Heap} {A : Ad}
theorem ok_law_is_int (T : Tx K mg A) : FnOk P w K mg base (L2.CX P w) 1 A.f_law_is_int A.d_law_is_int ["_law_told"] (spF (GG K w A) 1 F_law_is_int) :=
  fn_okN (k := 0) (m := m_law_is_int) T.F_law_is_int sc_law_is_int rfl rfl (by decide) (fun cdv A₁ outer s H E g hgx hr =>
  (sss_one (ss_ret (sv_and (se_isi rfl (by decide) rfl T.b_isinstance rfl T.b_int (by first | rfl | decide +kernel) (by decide) (by decide) (se_v (pv 0))) (sv_one (sv_not (se_isi rfl (by decide) rfl T.b_isinstance rfl T.b_bool (by first | rfl | decide +kernel) (by decide) (by decide) (se_v (pv 0)))))))))
end K13

/-! K13b37 -/
set_option Elab.async false
set_option linter.all false
set_option maxRecDepth 100000
set_option maxHeartbeats 4000000
namespace K13
open PySem PySem.Spec PyProof.Rows SeqAt L2 LV
variable {P : Program} {w : World} {K : PySem.W.Frag} {mg : Str → Option Value} {base : Heap} {A : Ad}
theorem ok_law_same (T : Tx K mg A) : ∀ n : Nat, FnOk P w K mg base (L2.CX P w) (n + 1) A.f_law_same A.d_law_same ["_law_told", "_law_due"] (spF (GG K w A) 2 (F_law_same n))
  | 0 => fn_okN (k := 0) (m := sBad) T.F_law_same sc_law_same rfl rfl (by decide) (fun cdv A₁ outer s H E g hgx hr => sss_bad)
  | n + 1 => by
    have okr := ok_law_same T n
    refine (fn_okN (k := n + 1) (m := m_law_same (F_law_same n)) T.F_law_same sc_law_same rfl rfl (by decide) (fun cdv A₁ outer s H E g hgx hr => ?_)).mono (by omega)
    exact (sss_cons (ss_if (y_is (se_v (pv 1)) se_non)
  (sss_one (ss_ret (x_is (se_v (pv 0)) se_non)))
  sss_nil)
  (sss_cons (ss_if (st_tru rfl (se_isi rfl (by decide) rfl T.b_isinstance rfl T.b_bool (by first | rfl | decide +kernel) (by decide) (by decide) (se_v (pv 1))))
  (sss_one (ss_ret (sv_and (se_isi rfl (by decide) rfl T.b_isinstance rfl T.b_bool (by first | rfl | decide +kernel) (by decide) (by decide) (se_v (pv 0))) (sv_one (x_eq (se_v (pv 0)) (se_v (pv 1)) (en_of (G := GG K w A) hr))))))
  sss_nil)
  (sss_cons (ss_if (st_tru rfl (se_isi rfl (by decide) rfl T.b_isinstance rfl T.b_int (by first | rfl | decide +kernel) (by decide) (by decide) (se_v (pv 1))))
  (sss_one (ss_ret (sv_and (se_callA (ok_law_is_int T) (hr.mono (by omega)) rfl T.g_law_is_int T.F_law_is_int.kp T.B_law_is_int (takes_of rfl rfl rfl rfl) (sa_cons (se_v (pv 0)) sa_nil)) (sv_one (x_eq (se_v (pv 0)) (se_v (pv 1)) (en_of (G := GG K w A) hr))))))
  sss_nil)
  (sss_cons (ss_if (st_tru rfl (se_isi rfl (by decide) rfl T.b_isinstance rfl T.b_str (by first | rfl | decide +kernel) (by decide) (by decide) (se_v (pv 1))))
  (sss_one (ss_ret (sv_and (se_isi rfl (by decide) rfl T.b_isinstance rfl T.b_str (by first | rfl | decide +kernel) (by decide) (by decide) (se_v (pv 0))) (sv_one (x_eq (se_v (pv 0)) (se_v (pv 1)) (en_of (G := GG K w A) hr))))))
  sss_nil)
  (sss_cons (ss_if (st_tru rfl (se_isi rfl (by decide) rfl T.b_isinstance rfl T.b_dict (by first | rfl | decide +kernel) (by decide) (by decide) (se_v (pv 1))))
  sss_bad
  sss_nil)
  (sss_cons (ss_if (sw_pt (sw_and (st_tru rfl (se_isi rfl (by decide) rfl T.b_isinstance rfl T.b_list (by first | rfl | decide +kernel) (by decide) (by decide) (se_v (pv 1)))) (sw_and1 (st_not (st_tru rfl (se_isi rfl (by decide) rfl T.b_isinstance rfl T.b_list (by first | rfl | decide +kernel) (by decide) (by decide) (se_v (pv 0))))))))
  (sss_one (ss_ret se_bl))
  sss_nil)
  (sss_cons (ss_if (sw_pt (sw_and (st_tru rfl (se_isi rfl (by decide) rfl T.b_isinstance rfl T.b_tuple (by first | rfl | decide +kernel) (by decide) (by decide) (se_v (pv 1)))) (sw_and1 (st_not (st_tru rfl (se_isi rfl (by decide) rfl T.b_isinstance rfl T.b_tuple (by first | rfl | decide +kernel) (by decide) (by decide) (se_v (pv 0))))))))
  (sss_one (ss_ret se_bl))
  sss_nil)
  (sss_cons (ss_if (y_ne (f_len (en_of (G := GG K w A) hr) T.b_len rfl (sa_cons (se_v (pv 0)) sa_nil)) (f_len (en_of (G := GG K w A) hr) T.b_len rfl (sa_cons (se_v (pv 1)) sa_nil)) (en_of (G := GG K w A) hr))
  (sss_one (ss_ret se_bl))
  sss_nil)
  (sss_cons (ss_for (passes_of rfl) rfl (si_R1 rfl T.b_range (sa_cons (f_len (en_of (G := GG K w A) hr) T.b_len rfl (sa_cons (se_v (pv 1)) sa_nil)) sa_nil)) (sg_name sc_law_same.nd rfl (by first | exact Or.inl rfl | exact Or.inr rfl))
  (sss_one (ss_if (st_not (st_tru rfl (se_callA okr (hr.mono (by omega)) rfl T.g_law_same T.F_law_same.kp T.B_law_same (takes_of rfl rfl rfl rfl) (sa_cons (x_ix (se_v (pv 0)) (se_v (pv 2)) (en_of (G := GG K w A) hr)) (sa_cons (x_ix (se_v (pv 1)) (se_v (pv 2)) (en_of (G := GG K w A) hr)) sa_nil)))))
  (sss_one (ss_ret se_bl))
  sss_nil)))
  (sss_one (ss_ret se_bl)))))))))))
end K13

/-! K13b38 -/
set_option Elab.async false
set_option linter.all false
set_option maxRecDepth 100000
set_option maxHeartbeats 4000000
namespace K13
open PySem PySem.Spec PyProof.Rows SeqAt L2 LV
variable {P : Program} {w : World} {K : PySem.W.Frag} {mg : Str → Option Value} {base : Heap} {A : Ad}
theorem ok_law_put (T : Tx K mg A) : FnOk P w K mg base (L2.CX P w) 1 A.f_law_put A.d_law_put ["_law_keys"] (spF (GG K w A) 1 F_law_put) :=
  fn_okN (k := 0) (m := m_law_put) T.F_law_put sc_law_put rfl rfl (by decide) (fun cdv A₁ outer s H E g hgx hr =>
  (sss_cons (ss_set (i := 1) sc_law_put.nd rfl (by first | exact Or.inl rfl | exact Or.inr rfl) (se_cell (se_lst sa_nil)))
  (sss_cons (ss_for (passes_of rfl) rfl (si_L rfl (se_v (pv 0))) (sg_name sc_law_put.nd rfl (by first | exact Or.inl rfl | exact Or.inr rfl))
  (sss_one (ss_if (st_tru rfl (se_isi rfl (by decide) rfl T.b_isinstance rfl T.b_tuple (by first | rfl | decide +kernel) (by decide) (by decide) (se_v (pv 2))))
  (sss_one (ss_for (passes_of rfl) rfl (si_R1 rfl T.b_range (sa_cons (x_ix (se_v (pv 2)) se_int (en_of (G := GG K w A) hr)) sa_nil)) (sg_name sc_law_put.nd rfl (by first | exact Or.inl rfl | exact Or.inr rfl))
  (sss_one (ss_expr (se_meth rfl oAppend_serve PySem.F.plainAttrs_list PySem.F.slot_list_append PySem.F.type_list_append mt_append (se_v (pv 1)) (sa_cons (x_ix (se_v (pv 1)) (x_sub (f_len (en_of (G := GG K w A) hr) T.b_len rfl (sa_cons (se_v (pv 1)) sa_nil)) (x_ix (se_v (pv 2)) se_int (en_of (G := GG K w A) hr))) (en_of (G := GG K w A) hr)) sa_nil))))))
  (sss_one (ss_expr (se_meth rfl oAppend_serve PySem.F.plainAttrs_list PySem.F.slot_list_append PySem.F.type_list_append mt_append (se_v (pv 1)) (sa_cons (se_v (pv 2)) sa_nil)))))))
  (sss_one (ss_ret (se_meth rfl (oJoin_serve rfl) PySem.F.plainAttrs_str PySem.F.slot_str_join PySem.F.type_str_join mt_join (se_str (l := [])) (sa_cons (se_v (pv 1)) sa_nil)))))))
end K13

/-! K13b39 -/
set_option Elab.async false
set_option linter.all false
set_option maxRecDepth 100000
set_option maxHeartbeats 4000000
namespace K13
open PySem PySem.Spec PyProof.Rows SeqAt L2 LV
variable {P : Program} {w : World} {K : PySem.W.Frag} {mg : Str → Option Value} {base : Heap} {A : Ad}
theorem ok_can_come (T : Tx K mg A) : FnOk P w K mg base (L2.CX P w) 1 A.f_can_come A.d_can_come ["coding", "head", "many"] (spF (GG K w A) 3 F_can_come) :=
  fn_okN (k := 0) (m := m_can_come) T.F_can_come sc_can_come rfl rfl (by decide) (fun cdv A₁ outer s H E g hgx hr =>
  (sss_one (ss_ret (sv_and (x_inK (se_v (pv 1)) (se_fld rfl (gC_Format ..) T.oc_Format T.na_heads (se_v (pv 0))) (en_of (G := GG K w A) hr)) (sv_one (x_le (x_dix (se_fld rfl (gC_Format ..) T.oc_Format T.na_heads (se_v (pv 0))) (se_v (pv 1)) (en_of (G := GG K w A) hr)) (se_v (pv 2))))))))
end K13

/-! K13b40 -/
set_option Elab.async false
set_option linter.all false
set_option maxRecDepth 100000
set_option maxHeartbeats 4000000
namespace K13
open PySem PySem.Spec PyProof.Rows SeqAt L2 LV
variable {P : Program} {w : World} {K : PySem.W.Frag} {mg : Str → Option Value} {base : Heap} {A : Ad}
theorem ok_least_due (T : Tx K mg A) : FnOk P w K mg base (L2.CX P w) 2 A.f_least_due A.d_least_due ["coding", "head", "many"] (spF (GG K w A) 3 F_least_due) :=
  fn_okN (k := 1) (m := m_least_due) T.F_least_due sc_least_due rfl rfl (by decide) (fun cdv A₁ outer s H E g hgx hr =>
  (sss_cons (ss_set (i := 3) sc_least_due.nd rfl (by first | exact Or.inl rfl | exact Or.inr rfl) (se_cell (se_lst sa_nil)))
  (sss_cons (ss_for (passes_of rfl) rfl (si_L rfl (se_fld rfl (gC_Format ..) T.oc_Format T.na_order (se_v (pv 0)))) (sg_name sc_least_due.nd rfl (by first | exact Or.inl rfl | exact Or.inr rfl))
  (sss_cons (ss_set (i := 5) sc_least_due.nd rfl (by first | exact Or.inl rfl | exact Or.inr rfl) (x_dix (se_fld rfl (gC_Format ..) T.oc_Format T.na_coded_words (se_v (pv 0))) (se_v (pv 4)) (en_of (G := GG K w A) hr)))
  (sss_one (ss_if (sw_pt (sw_and (st_tru rfl (se_meth rfl oSw_serve PySem.F.plainAttrs_str PySem.F.slot_str_startswith PySem.F.type_str_startswith mt_startswith (se_v (pv 5)) (sa_cons (se_v (pv 1)) sa_nil))) (sw_and1 (y_le (se_callA (ok_needed T) (hr.mono (by decide)) rfl T.g_needed T.F_needed.kp T.B_needed (takes_of rfl rfl rfl rfl) (sa_cons (se_v (pv 4)) sa_nil)) (se_v (pv 2))))))
  (sss_cons (ss_set (i := 6) sc_least_due.nd rfl (by first | exact Or.inl rfl | exact Or.inr rfl) (x_sub (f_len (en_of (G := GG K w A) hr) T.b_len rfl (sa_cons (se_v (pv 5)) sa_nil)) (f_len (en_of (G := GG K w A) hr) T.b_len rfl (sa_cons (se_v (pv 1)) sa_nil))))
  (sss_cons (ss_if (y_ne (se_v (pv 4)) (se_str (l := [101, 110, 100])) (en_of (G := GG K w A) hr))
  (sss_one (x_iadd sc_least_due.nd rfl (by first | exact Or.inl rfl | exact Or.inr rfl) (x_dix (se_fld rfl (gC_Format ..) T.oc_Format T.na_prices (se_v (pv 0))) (se_str (l := [101, 110, 100])) (en_of (G := GG K w A) hr))))
  sss_nil)
  (sss_one (ss_expr (se_meth rfl oAppend_serve PySem.F.plainAttrs_list PySem.F.slot_list_append PySem.F.type_list_append mt_append (se_v (pv 3)) (sa_cons (se_v (pv 6)) sa_nil))))))
  sss_nil))))
  (sss_one (ss_ret (f_min (en_of (G := GG K w A) hr) T.b_min rfl (sa_cons (se_v (pv 3)) sa_nil)))))))
end K13

/-! K13b41 -/
set_option Elab.async false
set_option linter.all false
set_option maxRecDepth 100000
set_option maxHeartbeats 4000000
namespace K13
open PySem PySem.Spec PyProof.Rows SeqAt L2 LV
variable {P : Program} {w : World} {K : PySem.W.Frag} {mg : Str → Option Value} {base : Heap} {A : Ad}
theorem ok_read (T : Tx K mg A) : FnOk P w K mg base (L2.CX P w) 3 A.f_read A.d_read ["coding", "bits"] (spF (GG K w A) 2 F_read) :=
  fn_okN (k := 2) (m := m_read) T.F_read sc_read rfl rfl (by decide) (fun cdv A₁ outer s H E g hgx hr =>
  (sss_cons (ss_if (st_not (st_tru rfl (se_callA (ok_is_bits T) (hr.mono (by decide)) rfl T.g_is_bits T.F_is_bits.kp T.B_is_bits (takes_of rfl rfl rfl rfl) (sa_cons (se_v (pv 1)) sa_nil))))
  (sss_one (ss_raise0 (gC_NoBits ..) T.xP_NoBits T.g_NoBits T.kp_NoBits (raises_own T.bP_NoBits T.tP_NoBits) rfl rfl (takes_of rfl rfl rfl rfl)))
  sss_nil)
  (sss_cons (ss_set (i := 2) sc_read.nd rfl (by first | exact Or.inl rfl | exact Or.inr rfl) (se_cell (se_lst sa_nil)))
  (sss_cons (ss_set (i := 3) sc_read.nd rfl (by first | exact Or.inl rfl | exact Or.inr rfl) se_int)
  (sss_cons (ss_set (i := 4) sc_read.nd rfl (by first | exact Or.inl rfl | exact Or.inr rfl) (se_str (l := [])))
  (sss_cons (ss_for (passes_of rfl) rfl (si_Es rfl T.b_enumerate (sa_cons (se_v (pv 1)) sa_nil)) (sg_tup rfl rfl (sgs_cons (sg_name sc_read.nd rfl (by first | exact Or.inl rfl | exact Or.inr rfl)) (sgs_cons (sg_name sc_read.nd rfl (by first | exact Or.inl rfl | exact Or.inr rfl)) sgs_nil)))
  (sss_cons (x_iaddS sc_read.nd rfl (by first | exact Or.inl rfl | exact Or.inr rfl) (se_v (pv 6)))
  (sss_cons (ss_if (st_not (st_tru rfl (se_callA (ok_can_come T) (hr.mono (by decide)) rfl T.g_can_come T.F_can_come.kp T.B_can_come (takes_of rfl rfl rfl rfl) (sa_cons (se_v (pv 0)) (sa_cons (se_v (pv 4)) (sa_cons (se_v (pv 3)) sa_nil))))))
  (sss_one (ss_raise (gC_BadBits ..) T.ox_BadBits T.nf_BadBits T.ic_BadBits T.ti_BadBits (okI_BadBits T) (hr.mono (by decide)) T.bi_BadBits rfl (takes_of rfl rfl rfl rfl) passL rfl T.g_BadBits (se_v (pv 5))))
  sss_nil)
  (sss_one (ss_if (y_inK (se_v (pv 4)) (se_fld rfl (gC_Format ..) T.oc_Format T.na_by_word (se_v (pv 0))) (en_of (G := GG K w A) hr))
  (sss_cons (ss_set (i := 7) sc_read.nd rfl (by first | exact Or.inl rfl | exact Or.inr rfl) (x_dix (se_fld rfl (gC_Format ..) T.oc_Format T.na_by_word (se_v (pv 0))) (se_v (pv 4)) (en_of (G := GG K w A) hr)))
  (sss_cons (ss_if (y_eq (se_v (pv 7)) (se_str (l := [101, 110, 100])) (en_of (G := GG K w A) hr))
  (sss_cons (ss_if (y_lt (x_add (se_v (pv 5)) se_int (en_of (G := GG K w A) hr)) (f_len (en_of (G := GG K w A) hr) T.b_len rfl (sa_cons (se_v (pv 1)) sa_nil)))
  (sss_one (ss_raise (gC_Left ..) T.ox_Left T.nf_Left T.ic_Left T.ti_Left (okI_Left T) (hr.mono (by decide)) T.bi_Left rfl (takes_of rfl rfl rfl rfl) passL rfl T.g_Left (x_add (se_v (pv 5)) se_int (en_of (G := GG K w A) hr))))
  sss_nil)
  (sss_one (ss_ret (se_frz (se_v (pv 2))))))
  sss_nil)
  (sss_cons (ss_expr (se_meth rfl oAppend_serve PySem.F.plainAttrs_list PySem.F.slot_list_append PySem.F.type_list_append mt_append (se_v (pv 2)) (sa_cons (se_v (pv 7)) sa_nil)))
  (sss_cons (x_iadd sc_read.nd rfl (by first | exact Or.inl rfl | exact Or.inr rfl) (se_callA (ok_reach T) (hr.mono (by decide)) rfl T.g_reach T.F_reach.kp T.B_reach (takes_of rfl rfl rfl rfl) (sa_cons (se_v (pv 7)) sa_nil)))
  (sss_one (ss_set (i := 4) sc_read.nd rfl (by first | exact Or.inl rfl | exact Or.inr rfl) (se_str (l := []))))))))
  sss_nil)))))
  (sss_one (ss_raise (gC_TooFew ..) T.ox_TooFew T.nf_TooFew T.ic_TooFew T.ti_TooFew (okI_TooFew T) (hr.mono (by decide)) T.bi_TooFew rfl (takes_of rfl rfl rfl rfl) passL rfl T.g_TooFew (se_callA (ok_least_due T) (hr.mono (by decide)) rfl T.g_least_due T.F_least_due.kp T.B_least_due (takes_of rfl rfl rfl rfl) (sa_cons (se_v (pv 0)) (sa_cons (se_v (pv 4)) (sa_cons (se_v (pv 3)) sa_nil))))))))))))
end K13

/-! K13b42 -/
set_option Elab.async false
set_option linter.all false
set_option maxRecDepth 100000
set_option maxHeartbeats 4000000
namespace K13
open PySem PySem.Spec PyProof.Rows SeqAt L2 LV
variable {P : Program} {w : World} {K : PySem.W.Frag} {mg : Str → Option Value} {base : Heap} {A : Ad}
theorem ok_put_by (T : Tx K mg A) : FnOk P w K mg base (L2.CX P w) 1 A.f_put_by A.d_put_by ["command", "text"] (spF (GG K w A) 2 F_put_by) :=
  fn_okN (k := 0) (m := m_put_by) T.F_put_by sc_put_by rfl rfl (by decide) (fun cdv A₁ outer s H E g hgx hr =>
  (sss_cons (ss_if (st_tru rfl (se_isi rfl (by decide) rfl T.b_isinstance rfl T.b_tuple (by first | rfl | decide +kernel) (by decide) (by decide) (se_v (pv 0))))
  (sss_cons (ss_set (i := 2) sc_put_by.nd rfl (by first | exact Or.inl rfl | exact Or.inr rfl) (se_sl rfl (se_v (pv 1)) (so_some (x_sub (f_len (en_of (G := GG K w A) hr) T.b_len rfl (sa_cons (se_v (pv 1)) sa_nil)) (x_ix (se_v (pv 0)) se_int (en_of (G := GG K w A) hr)))) so_none))
  (sss_one (ss_ret (se_sl rfl (x_mulS (se_v (pv 2)) (x_ix (se_v (pv 0)) se_int (en_of (G := GG K w A) hr))) so_none (so_some (x_ix (se_v (pv 0)) se_int (en_of (G := GG K w A) hr)))))))
  sss_nil)
  (sss_cons (ss_if (y_eq (se_v (pv 0)) (se_str (l := [101, 110, 100])) (en_of (G := GG K w A) hr))
  (sss_one (ss_ret (se_str (l := []))))
  sss_nil)
  (sss_one (ss_ret (se_v (pv 0)))))))
end K13

/-! K13b43 -/
set_option Elab.async false
set_option linter.all false
set_option maxRecDepth 100000
set_option maxHeartbeats 4000000
namespace K13
open PySem PySem.Spec PyProof.Rows SeqAt L2 LV
variable {P : Program} {w : World} {K : PySem.W.Frag} {mg : Str → Option Value} {base : Heap} {A : Ad}
theorem ok_spread (T : Tx K mg A) : FnOk P w K mg base (L2.CX P w) 5 A.f_spread A.d_spread ["coding", "way"] (spF (GG K w A) 2 F_spread) :=
  fn_okN (k := 4) (m := m_spread) T.F_spread sc_spread rfl rfl (by decide) (fun cdv A₁ outer s H E g hgx hr =>
  (sss_cons (ss_expr (se_callA (ok_check_way T) (hr.mono (by decide)) rfl T.g_check_way T.F_check_way.kp T.B_check_way (takes_of rfl rfl rfl rfl) (sa_cons (se_v (pv 0)) (sa_cons (se_v (pv 1)) sa_nil))))
  (sss_cons (ss_set (i := 2) sc_spread.nd rfl (by first | exact Or.inl rfl | exact Or.inr rfl) (se_str (l := [])))
  (sss_cons (ss_for (passes_of rfl) rfl (si_L rfl (se_v (pv 1))) (sg_name sc_spread.nd rfl (by first | exact Or.inl rfl | exact Or.inr rfl))
  (sss_one (x_iaddS sc_spread.nd rfl (by first | exact Or.inl rfl | exact Or.inr rfl) (se_callA (ok_put_by T) (hr.mono (by decide)) rfl T.g_put_by T.F_put_by.kp T.B_put_by (takes_of rfl rfl rfl rfl) (sa_cons (se_v (pv 3)) (sa_cons (se_v (pv 2)) sa_nil))))))
  (sss_one (ss_ret (se_v (pv 2))))))))
end K13

/-! K13b44 -/
set_option Elab.async false
set_option linter.all false
set_option maxRecDepth 100000
set_option maxHeartbeats 4000000
namespace K13
open PySem PySem.Spec PyProof.Rows SeqAt L2 LV
variable {P : Program} {w : World} {K : PySem.W.Frag} {mg : Str → Option Value} {base : Heap} {A : Ad}
theorem ok_text_of (T : Tx K mg A) : FnOk P w K mg base (L2.CX P w) 6 A.f_text_of A.d_text_of ["coding", "bits"] (spF (GG K w A) 2 F_text_of) :=
  fn_okN (k := 5) (m := m_text_of) T.F_text_of sc_text_of rfl rfl (by decide) (fun cdv A₁ outer s H E g hgx hr =>
  (sss_one (ss_ret (se_callA (ok_spread T) (hr.mono (by decide)) rfl T.g_spread T.F_spread.kp T.B_spread (takes_of rfl rfl rfl rfl) (sa_cons (se_v (pv 0)) (sa_cons (se_callA (ok_read T) (hr.mono (by decide)) rfl T.g_read T.F_read.kp T.B_read (takes_of rfl rfl rfl rfl) (sa_cons (se_v (pv 0)) (sa_cons (se_v (pv 1)) sa_nil))) sa_nil))))))
end K13

/-! K13b45 -/
set_option Elab.async false
set_option linter.all false
set_option maxRecDepth 100000
set_option maxHeartbeats 4000000
namespace K13
open PySem PySem.Spec PyProof.Rows SeqAt L2 LV
variable {P : Program} {w : World} {K : PySem.W.Frag} {mg : Str → Option Value} {base : Heap} {A : Ad}
theorem ok_law_read (T : Tx K mg A) : FnOk P w K mg base (L2.CX P w) 7 A.f_law_read A.d_law_read ["_law_made", "_law_row", "_law_puts"] (spF (GG K w A) 3 F_law_read) :=
  fn_okN (k := 6) (m := m_law_read) T.F_law_read sc_law_read rfl rfl (by decide) (fun cdv A₁ outer s H E g hgx hr =>
  (sss_one (ss_tryMany hgx rfl rfl sc_law_read.nd (takes_of rfl rfl rfl rfl)
  (fun W' pn xe tk po => (sss_cons (ss_if (st_tru rfl (se_v (pv 2)))
  (sss_one (ss_ret (se_tup (sa_cons (se_str (l := [116, 101, 120, 116])) (sa_cons (se_callK0 (ks := ["bits", "coding"]) (o := ord_text_of_bits_coding) (ok_text_of T) (hr.mono (by decide)) rfl T.g_text_of T.F_text_of.kp T.KB_text_of_bits_coding tk (sk_cons (se_v (pv 1)) (sk_cons (se_v (pv 0)) sk_nil))) sa_nil)))))
  sss_nil)
  (sss_one (ss_ret (se_tup (sa_cons (se_str (l := [114, 101, 97, 100])) (sa_cons (se_callK0 (ks := ["bits", "coding"]) (o := ord_read_bits_coding) (ok_read T) (hr.mono (by decide)) rfl T.g_read T.F_read.kp T.KB_read_bits_coding tk (sk_cons (se_v (pv 1)) (sk_cons (se_v (pv 0)) sk_nil))) sa_nil)))))))
  (.named (i := 3) ⟨rfl, by decide, Or.inl T.g_BadBits⟩ T.ca_BadBits rfl rfl (fun a oe cls d pn hz hfs => (sss_one (ss_ret (se_tup (sa_cons (se_str (l := [98, 97, 100])) (sa_cons (se_xg (T.xg_BadBits_at) hz hfs (pv 3)) sa_nil)))))) (.named (i := 3) ⟨rfl, by decide, Or.inl T.g_TooFew⟩ T.ca_TooFew rfl rfl (fun a oe cls d pn hz hfs => (sss_one (ss_ret (se_tup (sa_cons (se_str (l := [102, 101, 119])) (sa_cons (se_xg (T.xg_TooFew_due) hz hfs (pv 3)) sa_nil)))))) (.named (i := 3) ⟨rfl, by decide, Or.inl T.g_Left⟩ T.ca_Left rfl rfl (fun a oe cls d pn hz hfs => (sss_one (ss_ret (se_tup (sa_cons (se_str (l := [108, 101, 102, 116])) (sa_cons (se_xg (T.xg_Left_at) hz hfs (pv 3)) sa_nil)))))) (.plain ⟨rfl, by decide, Or.inl T.g_NoBits⟩ T.ca_NoBits (fun a oe cls d pn hz hfs => (sss_one (ss_ret (se_tup (sa_cons (se_str (l := [110, 111, 110, 101])) sa_nil))))) .nil)))))))
end K13

/-! K13b46 -/
set_option Elab.async false
set_option linter.all false
set_option maxRecDepth 100000
set_option maxHeartbeats 4000000
namespace K13
open PySem PySem.Spec PyProof.Rows SeqAt L2 LV
variable {P : Program} {w : World} {K : PySem.W.Frag} {mg : Str → Option Value} {base : Heap} {A : Ad}
theorem ok_law_both (T : Tx K mg A) : FnOk P w K mg base (L2.CX P w) 8 A.f_law_both A.d_law_both ["_law_made", "_law_row", "_law_due"] (spF (GG K w A) 3 F_law_both) :=
  fn_okN (k := 7) (m := m_law_both) T.F_law_both sc_law_both rfl rfl (by decide) (fun cdv A₁ outer s H E g hgx hr =>
  (sss_cons (ss_set (i := 3) sc_law_both.nd rfl (by first | exact Or.inl rfl | exact Or.inr rfl) (se_v (pv 2)))
  (sss_cons (ss_if (y_eq (x_ix (se_v (pv 2)) se_int (en_of (G := GG K w A) hr)) (se_str (l := [114, 101, 97, 100])) (en_of (G := GG K w A) hr))
  (sss_one (ss_set (i := 3) sc_law_both.nd rfl (by first | exact Or.inl rfl | exact Or.inr rfl) (se_tup (sa_cons (se_str (l := [116, 101, 120, 116])) (sa_cons (se_callA (ok_law_put T) (hr.mono (by decide)) rfl T.g_law_put T.F_law_put.kp T.B_law_put (takes_of rfl rfl rfl rfl) (sa_cons (x_ix (se_v (pv 2)) se_int (en_of (G := GG K w A) hr)) sa_nil)) sa_nil)))))
  sss_nil)
  (sss_one (ss_ret (sv_and (se_callA (ok_law_same T 6) (hr.mono (by decide)) rfl T.g_law_same T.F_law_same.kp T.B_law_same (takes_of rfl rfl rfl rfl) (sa_cons (se_callA (ok_law_read T) (hr.mono (by decide)) rfl T.g_law_read T.F_law_read.kp T.B_law_read (takes_of rfl rfl rfl rfl) (sa_cons (se_v (pv 0)) (sa_cons (se_v (pv 1)) (sa_cons se_bl sa_nil)))) (sa_cons (se_v (pv 2)) sa_nil))) (sv_one (se_callA (ok_law_same T 6) (hr.mono (by decide)) rfl T.g_law_same T.F_law_same.kp T.B_law_same (takes_of rfl rfl rfl rfl) (sa_cons (se_callA (ok_law_read T) (hr.mono (by decide)) rfl T.g_law_read T.F_law_read.kp T.B_law_read (takes_of rfl rfl rfl rfl) (sa_cons (se_v (pv 0)) (sa_cons (se_v (pv 1)) (sa_cons se_bl sa_nil)))) (sa_cons (se_v (pv 3)) sa_nil))))))))))
end K13

/-! K13b47 -/
set_option Elab.async false
set_option linter.all false
set_option maxRecDepth 100000
set_option maxHeartbeats 4000000
namespace K13
open PySem PySem.Spec PyProof.Rows SeqAt L2 LV
variable {P : Program} {w : World} {K : PySem.W.Frag} {mg : Str → Option Value} {base : Heap} {A : Ad}
theorem ok_law_lack (T : Tx K mg A) : FnOk P w K mg base (L2.CX P w) 1 A.f_law_lack A.d_law_lack ["_law_plain_here", "_law_head", "_law_many"] (spF (GG K w A) 3 F_law_lack) :=
  fn_okN (k := 0) (m := m_law_lack) T.F_law_lack sc_law_lack rfl rfl (by decide) (fun cdv A₁ outer s H E g hgx hr =>
  (sss_cons (ss_set (i := 3) sc_law_lack.nd rfl (by first | exact Or.inl rfl | exact Or.inr rfl) (se_cell (se_lst sa_nil)))
  (sss_cons (ss_for (passes_of rfl) rfl (si_Ks rfl (x_ix (se_v (pv 0)) se_int (en_of (G := GG K w A) hr))) (sg_name sc_law_lack.nd rfl (by first | exact Or.inl rfl | exact Or.inr rfl))
  (sss_cons (ss_set (i := 5) sc_law_lack.nd rfl (by first | exact Or.inl rfl | exact Or.inr rfl) (x_dix (x_ix (se_v (pv 0)) se_int (en_of (G := GG K w A) hr)) (se_v (pv 4)) (en_of (G := GG K w A) hr)))
  (sss_one (ss_if (sw_pt (sw_and (st_tru rfl (se_meth rfl oSw_serve PySem.F.plainAttrs_str PySem.F.slot_str_startswith PySem.F.type_str_startswith mt_startswith (se_v (pv 5)) (sa_cons (se_v (pv 1)) sa_nil))) (sw_and1 (sw_pt (sw_or (st_tru rfl (se_isi rfl (by decide) rfl T.b_isinstance rfl T.b_str (by first | rfl | decide +kernel) (by decide) (by decide) (se_v (pv 4)))) (sw_or1 (y_le (x_ix (se_v (pv 4)) se_int (en_of (G := GG K w A) hr)) (se_v (pv 2)))))))))
  (sss_cons (ss_set (i := 6) sc_law_lack.nd rfl (by first | exact Or.inl rfl | exact Or.inr rfl) (x_sub (f_len (en_of (G := GG K w A) hr) T.b_len rfl (sa_cons (se_v (pv 5)) sa_nil)) (f_len (en_of (G := GG K w A) hr) T.b_len rfl (sa_cons (se_v (pv 1)) sa_nil))))
  (sss_cons (ss_if (y_ne (se_v (pv 4)) (se_str (l := [101, 110, 100])) (en_of (G := GG K w A) hr))
  (sss_one (ss_set (i := 6) sc_law_lack.nd rfl (by first | exact Or.inl rfl | exact Or.inr rfl) (x_add (se_v (pv 6)) (f_len (en_of (G := GG K w A) hr) T.b_len rfl (sa_cons (x_dix (x_ix (se_v (pv 0)) se_int (en_of (G := GG K w A) hr)) (se_str (l := [101, 110, 100])) (en_of (G := GG K w A) hr)) sa_nil)) (en_of (G := GG K w A) hr))))
  sss_nil)
  (sss_one (ss_expr (se_meth rfl oAppend_serve PySem.F.plainAttrs_list PySem.F.slot_list_append PySem.F.type_list_append mt_append (se_v (pv 3)) (sa_cons (se_v (pv 6)) sa_nil))))))
  sss_nil))))
  (sss_one (ss_ret (f_min (en_of (G := GG K w A) hr) T.b_min rfl (sa_cons (se_v (pv 3)) sa_nil)))))))
end K13

/-! K13b48 -/
set_option Elab.async false
set_option linter.all false
set_option maxRecDepth 100000
set_option maxHeartbeats 4000000
namespace K13
open PySem PySem.Spec PyProof.Rows SeqAt L2 LV
variable {P : Program} {w : World} {K : PySem.W.Frag} {mg : Str → Option Value} {base : Heap} {A : Ad}
theorem ok_law_could (T : Tx K mg A) : FnOk P w K mg base (L2.CX P w) 1 A.f_law_could A.d_law_could ["_law_plain_here", "_law_head", "_law_many"] (spF (GG K w A) 3 F_law_could) :=
  fn_okN (k := 0) (m := m_law_could) T.F_law_could sc_law_could rfl rfl (by decide) (fun cdv A₁ outer s H E g hgx hr =>
  (sss_cons (ss_for (passes_of rfl) rfl (si_Ks rfl (x_ix (se_v (pv 0)) se_int (en_of (G := GG K w A) hr))) (sg_name sc_law_could.nd rfl (by first | exact Or.inl rfl | exact Or.inr rfl))
  (sss_one (ss_if (sw_pt (sw_and (st_tru rfl (se_meth rfl oSw_serve PySem.F.plainAttrs_str PySem.F.slot_str_startswith PySem.F.type_str_startswith mt_startswith (x_dix (x_ix (se_v (pv 0)) se_int (en_of (G := GG K w A) hr)) (se_v (pv 3)) (en_of (G := GG K w A) hr)) (sa_cons (se_v (pv 1)) sa_nil))) (sw_and1 (sw_pt (sw_or (st_tru rfl (se_isi rfl (by decide) rfl T.b_isinstance rfl T.b_str (by first | rfl | decide +kernel) (by decide) (by decide) (se_v (pv 3)))) (sw_or1 (y_le (x_ix (se_v (pv 3)) se_int (en_of (G := GG K w A) hr)) (se_v (pv 2)))))))))
  (sss_one (ss_ret se_bl))
  sss_nil)))
  (sss_one (ss_ret se_bl))))
end K13

/-! K13b49 -/
set_option Elab.async false
set_option linter.all false
set_option maxRecDepth 100000
set_option maxHeartbeats 4000000
namespace K13
open PySem PySem.Spec PyProof.Rows SeqAt L2 LV
variable {P : Program} {w : World} {K : PySem.W.Frag} {mg : Str → Option Value} {base : Heap} {A : Ad}
theorem ok_law_parsed (T : Tx K mg A) : FnOk P w K mg base (L2.CX P w) 2 A.f_law_parsed A.d_law_parsed ["_law_plain_here", "_law_row"] (spF (GG K w A) 2 F_law_parsed) :=
  fn_okN (k := 1) (m := m_law_parsed) T.F_law_parsed sc_law_parsed rfl rfl (by decide) (fun cdv A₁ outer s H E g hgx hr =>
  (sss_cons (ss_set (i := 2) sc_law_parsed.nd rfl (by first | exact Or.inl rfl | exact Or.inr rfl) (se_cell (se_dic0 rfl)))
  (sss_cons (ss_for (passes_of rfl) rfl (si_Ks rfl (x_ix (se_v (pv 0)) se_int (en_of (G := GG K w A) hr))) (sg_name sc_law_parsed.nd rfl (by first | exact Or.inl rfl | exact Or.inr rfl))
  (sss_one (ss_asg (se_v (pv 3)) (sg_subK rfl rfl (en_of (G := GG K w A) hr).hu (se_v (pv 2)) (x_dix (x_ix (se_v (pv 0)) se_int (en_of (G := GG K w A) hr)) (se_v (pv 3)) (en_of (G := GG K w A) hr))))))
  (sss_cons (ss_set (i := 4) sc_law_parsed.nd rfl (by first | exact Or.inl rfl | exact Or.inr rfl) (se_cell (se_lst sa_nil)))
  (sss_cons (ss_set (i := 5) sc_law_parsed.nd rfl (by first | exact Or.inl rfl | exact Or.inr rfl) se_int)
  (sss_cons (ss_set (i := 6) sc_law_parsed.nd rfl (by first | exact Or.inl rfl | exact Or.inr rfl) (se_str (l := [])))
  (sss_cons (ss_for (passes_of rfl) rfl (si_R1 rfl T.b_range (sa_cons (f_len (en_of (G := GG K w A) hr) T.b_len rfl (sa_cons (se_v (pv 1)) sa_nil)) sa_nil)) (sg_name sc_law_parsed.nd rfl (by first | exact Or.inl rfl | exact Or.inr rfl))
  (sss_cons (ss_set (i := 6) sc_law_parsed.nd rfl (by first | exact Or.inl rfl | exact Or.inr rfl) (x_add (se_v (pv 6)) (x_ix (se_v (pv 1)) (se_v (pv 7)) (en_of (G := GG K w A) hr)) (en_of (G := GG K w A) hr)))
  (sss_cons (ss_if (st_not (st_tru rfl (se_callA (ok_law_could T) (hr.mono (by decide)) rfl T.g_law_could T.F_law_could.kp T.B_law_could (takes_of rfl rfl rfl rfl) (sa_cons (se_v (pv 0)) (sa_cons (se_v (pv 6)) (sa_cons (se_v (pv 5)) sa_nil))))))
  (sss_one (ss_ret (se_tup (sa_cons (se_str (l := [98, 97, 100])) (sa_cons (se_v (pv 7)) sa_nil)))))
  sss_nil)
  (sss_one (ss_if (y_inK (se_v (pv 6)) (se_v (pv 2)) (en_of (G := GG K w A) hr))
  (sss_cons (ss_set (i := 3) sc_law_parsed.nd rfl (by first | exact Or.inl rfl | exact Or.inr rfl) (x_dix (se_v (pv 2)) (se_v (pv 6)) (en_of (G := GG K w A) hr)))
  (sss_cons (ss_if (y_eq (se_v (pv 3)) (se_str (l := [101, 110, 100])) (en_of (G := GG K w A) hr))
  (sss_cons (ss_if (y_lt (x_add (se_v (pv 7)) se_int (en_of (G := GG K w A) hr)) (f_len (en_of (G := GG K w A) hr) T.b_len rfl (sa_cons (se_v (pv 1)) sa_nil)))
  (sss_one (ss_ret (se_tup (sa_cons (se_str (l := [108, 101, 102, 116])) (sa_cons (x_add (se_v (pv 7)) se_int (en_of (G := GG K w A) hr)) sa_nil)))))
  sss_nil)
  (sss_one (ss_ret (se_tup (sa_cons (se_str (l := [114, 101, 97, 100])) (sa_cons (se_frz (se_v (pv 4))) sa_nil))))))
  sss_nil)
  (sss_cons (ss_expr (se_meth rfl oAppend_serve PySem.F.plainAttrs_list PySem.F.slot_list_append PySem.F.type_list_append mt_append (se_v (pv 4)) (sa_cons (se_v (pv 3)) sa_nil)))
  (sss_cons (ss_set (i := 6) sc_law_parsed.nd rfl (by first | exact Or.inl rfl | exact Or.inr rfl) (se_str (l := [])))
  (sss_one (ss_if (st_tru rfl (se_isi rfl (by decide) rfl T.b_isinstance rfl T.b_tuple (by first | rfl | decide +kernel) (by decide) (by decide) (se_v (pv 3))))
  (sss_one (ss_set (i := 5) sc_law_parsed.nd rfl (by first | exact Or.inl rfl | exact Or.inr rfl) (x_add (se_v (pv 5)) (x_ix (se_v (pv 3)) se_int (en_of (G := GG K w A) hr)) (en_of (G := GG K w A) hr))))
  (sss_one (ss_set (i := 5) sc_law_parsed.nd rfl (by first | exact Or.inl rfl | exact Or.inr rfl) (x_add (se_v (pv 5)) se_int (en_of (G := GG K w A) hr))))))))))
  sss_nil)))))
  (sss_one (ss_ret (se_tup (sa_cons (se_str (l := [102, 101, 119])) (sa_cons (se_callA (ok_law_lack T) (hr.mono (by decide)) rfl T.g_law_lack T.F_law_lack.kp T.B_law_lack (takes_of rfl rfl rfl rfl) (sa_cons (se_v (pv 0)) (sa_cons (se_v (pv 6)) (sa_cons (se_v (pv 5)) sa_nil)))) sa_nil))))))))))))
end K13

/-! K13b50 -/
set_option Elab.async false
set_option linter.all false
set_option maxRecDepth 100000
set_option maxHeartbeats 4000000
namespace K13
open PySem PySem.Spec PyProof.Rows SeqAt L2 LV
variable {P : Program} {w : World} {K : PySem.W.Frag} {mg : Str → Option Value} {base : Heap} {A : Ad}
theorem ok_law_changed_holds (T : Tx K mg A) : FnOk P w K mg base (L2.CX P w) 9 A.f_law_changed_holds A.d_law_changed_holds ["_law_made", "_law_plain_here", "_law_row", "_law_at", "_law_items"] (spF (GG K w A) 5 F_law_changed_holds) :=
  fn_okN (k := 8) (m := m_law_changed_holds) T.F_law_changed_holds sc_law_changed_holds rfl rfl (by decide) (fun cdv A₁ outer s H E g hgx hr =>
  (sss_cons (ss_set (i := 5) sc_law_changed_holds.nd rfl (by first | exact Or.inl rfl | exact Or.inr rfl) (se_callA (ok_law_parsed T) (hr.mono (by decide)) rfl T.g_law_parsed T.F_law_parsed.kp T.B_law_parsed (takes_of rfl rfl rfl rfl) (sa_cons (se_v (pv 1)) (sa_cons (se_v (pv 2)) sa_nil))))
  (sss_cons (ss_if (sw_pt (sw_and (y_eq (x_ix (se_v (pv 5)) se_int (en_of (G := GG K w A) hr)) (se_str (l := [98, 97, 100])) (en_of (G := GG K w A) hr)) (sw_and1 (y_lt (x_ix (se_v (pv 5)) se_int (en_of (G := GG K w A) hr)) (se_v (pv 3))))))
  (sss_one (ss_ret se_bl))
  sss_nil)
  (sss_cons (ss_if (st_not (st_tru rfl (se_callA (ok_law_both T) (hr.mono (by decide)) rfl T.g_law_both T.F_law_both.kp T.B_law_both (takes_of rfl rfl rfl rfl) (sa_cons (se_v (pv 0)) (sa_cons (se_v (pv 2)) (sa_cons (se_v (pv 5)) sa_nil))))))
  (sss_one (ss_ret se_bl))
  sss_nil)
  (sss_cons (ss_if (y_ne (x_ix (se_v (pv 5)) se_int (en_of (G := GG K w A) hr)) (se_str (l := [114, 101, 97, 100])) (en_of (G := GG K w A) hr))
  (sss_one (ss_ret se_bl))
  sss_nil)
  (sss_cons (ss_set (i := 6) sc_law_changed_holds.nd rfl (by first | exact Or.inl rfl | exact Or.inr rfl) (se_callA (ok_read T) (hr.mono (by decide)) rfl T.g_read T.F_read.kp T.B_read (takes_of rfl rfl rfl rfl) (sa_cons (se_v (pv 0)) (sa_cons (se_v (pv 2)) sa_nil))))
  (sss_one (ss_ret (sv_and (x_ne (se_v (pv 6)) (se_v (pv 4)) (en_of (G := GG K w A) hr)) (sv_one (se_callA (ok_law_same T 6) (hr.mono (by decide)) rfl T.g_law_same T.F_law_same.kp T.B_law_same (takes_of rfl rfl rfl rfl) (sa_cons (se_callA (ok_written T) (hr.mono (by decide)) rfl T.g_written T.F_written.kp T.B_written (takes_of rfl rfl rfl rfl) (sa_cons (se_v (pv 0)) (sa_cons (se_v (pv 6)) sa_nil))) (sa_cons (se_v (pv 2)) sa_nil)))))))))))))
end K13

/-! K13b51 -/
set_option Elab.async false
set_option linter.all false
set_option maxRecDepth 100000
set_option maxHeartbeats 4000000
namespace K13
open PySem PySem.Spec PyProof.Rows SeqAt L2 LV
variable {P : Program} {w : World} {K : PySem.W.Frag} {mg : Str → Option Value} {base : Heap} {A : Ad}
theorem ok_law (T : Tx K mg A) : FnOk P w K mg base (L2.CX P w) 10 A.f_law A.d_law ["_law_script"] (spF (GG K w A) 1 F_law) :=
  fn_okN (k := 9) (m := m_law) T.F_law sc_law rfl rfl (by decide) (fun cdv A₁ outer s H E g hgx hr =>
  (sss_cons (ss_set (i := 1) sc_law.nd rfl (by first | exact Or.inl rfl | exact Or.inr rfl) (se_callA (ok_law_start T) (hr.mono (by decide)) rfl T.g_law_start T.F_law_start.kp T.B_law_start (takes_of rfl rfl rfl rfl) (sa_cons (se_v (pv 0)) sa_nil)))
  (sss_cons (ss_set (i := 2) sc_law.nd rfl (by first | exact Or.inl rfl | exact Or.inr rfl) (se_callA (ok_law_alphabet T) (hr.mono (by decide)) rfl T.g_law_alphabet T.F_law_alphabet.kp T.B_law_alphabet (takes_of rfl rfl rfl rfl) (sa_cons (se_v (pv 1)) (sa_cons (x_add se_int (se_callA (ok_law_pull T) (hr.mono (by decide)) rfl T.g_law_pull T.F_law_pull.kp T.B_law_pull (takes_of rfl rfl rfl rfl) (sa_cons (se_v (pv 1)) (sa_cons se_int sa_nil))) (en_of (G := GG K w A) hr)) sa_nil))))
  (sss_cons (ss_set (i := 3) sc_law.nd rfl (by first | exact Or.inl rfl | exact Or.inr rfl) (x_ix (se_fz (se_lst (sa_cons se_int (sa_cons se_int sa_nil)))) (se_callA (ok_law_pull T) (hr.mono (by decide)) rfl T.g_law_pull T.F_law_pull.kp T.B_law_pull (takes_of rfl rfl rfl rfl) (sa_cons (se_v (pv 1)) (sa_cons se_int sa_nil))) (en_of (G := GG K w A) hr)))
  (sss_cons (ss_set (i := 4) sc_law.nd rfl (by first | exact Or.inl rfl | exact Or.inr rfl) (se_callA (ok_law_plain T) (hr.mono (by decide)) rfl T.g_law_plain T.F_law_plain.kp T.B_law_plain (takes_of rfl rfl rfl rfl) (sa_cons (se_v (pv 1)) (sa_cons (se_v (pv 2)) (sa_cons (se_callA (ok_law_copies T) (hr.mono (by decide)) rfl T.g_law_copies T.F_law_copies.kp T.B_law_copies (takes_of rfl rfl rfl rfl) (sa_cons (se_v (pv 1)) (sa_cons (se_callA (ok_law_pull T) (hr.mono (by decide)) rfl T.g_law_pull T.F_law_pull.kp T.B_law_pull (takes_of rfl rfl rfl rfl) (sa_cons (se_v (pv 1)) (sa_cons se_int sa_nil))) (sa_cons (se_v (pv 3)) (sa_cons se_int sa_nil))))) sa_nil)))))
  (sss_cons (ss_set (i := 5) sc_law.nd rfl (by first | exact Or.inl rfl | exact Or.inr rfl) (se_frz (se_make (gC_Format ..) T.M_Format (ok_Format_init T) (hr.mono (by decide)) rfl T.g_Format T.B_Format_init (takes_of rfl rfl rfl rfl) (sa_cons (x_ix (se_v (pv 4)) se_int (en_of (G := GG K w A) hr)) (sa_cons (se_frz (se_callA (ok_law_copied T) (hr.mono (by decide)) rfl T.g_law_copied T.F_law_copied.kp T.B_law_copied (takes_of rfl rfl rfl rfl) (sa_cons (x_ix (se_v (pv 4)) se_int (en_of (G := GG K w A) hr)) sa_nil))) sa_nil)))))
  (sss_cons (ss_set (i := 6) sc_law.nd rfl (by first | exact Or.inl rfl | exact Or.inr rfl) (se_callA (ok_law_way T) (hr.mono (by decide)) rfl T.g_law_way T.F_law_way.kp T.B_law_way (takes_of rfl rfl rfl rfl) (sa_cons (se_v (pv 1)) (sa_cons (se_v (pv 4)) (sa_cons (se_callA (ok_law_pull T) (hr.mono (by decide)) rfl T.g_law_pull T.F_law_pull.kp T.B_law_pull (takes_of rfl rfl rfl rfl) (sa_cons (se_v (pv 1)) (sa_cons se_int sa_nil))) sa_nil)))))
  (sss_cons (ss_set (i := 7) sc_law.nd rfl (by first | exact Or.inl rfl | exact Or.inr rfl) (se_callA (ok_written T) (hr.mono (by decide)) rfl T.g_written T.F_written.kp T.B_written (takes_of rfl rfl rfl rfl) (sa_cons (se_v (pv 5)) (sa_cons (se_fz (f_list (en_of (G := GG K w A) hr) T.b_list rfl (sa_cons (se_v (pv 6)) sa_nil))) sa_nil))))
  (sss_cons (ss_for (passes_of rfl) rfl (si_R1 rfl T.b_range (sa_cons (f_len (en_of (G := GG K w A) hr) T.b_len rfl (sa_cons (se_v (pv 7)) sa_nil)) sa_nil)) (sg_name sc_law.nd rfl (by first | exact Or.inl rfl | exact Or.inr rfl))
  (sss_cons (ss_set (i := 9) sc_law.nd rfl (by first | exact Or.inl rfl | exact Or.inr rfl) (x_ix (se_str (l := [49, 48])) (f_int (en_of (G := GG K w A) hr) T.b_int rfl (sa_cons (x_eq (x_ix (se_v (pv 7)) (se_v (pv 8)) (en_of (G := GG K w A) hr)) (se_str (l := [49])) (en_of (G := GG K w A) hr)) sa_nil)) (en_of (G := GG K w A) hr)))
  (sss_cons (ss_if (st_not (st_tru rfl (se_callA (ok_law_changed_holds T) (hr.mono (by decide)) rfl T.g_law_changed_holds T.F_law_changed_holds.kp T.B_law_changed_holds (takes_of rfl rfl rfl rfl) (sa_cons (se_v (pv 5)) (sa_cons (se_v (pv 4)) (sa_cons (x_add (x_add (se_sl rfl (se_v (pv 7)) so_none (so_some (se_v (pv 8)))) (se_v (pv 9)) (en_of (G := GG K w A) hr)) (se_sl rfl (se_v (pv 7)) (so_some (x_add (se_v (pv 8)) se_int (en_of (G := GG K w A) hr))) so_none) (en_of (G := GG K w A) hr)) (sa_cons (se_v (pv 8)) (sa_cons (se_v (pv 6)) sa_nil))))))))
  (sss_one (ss_ret se_bl))
  sss_nil)
  (sss_cons (ss_if (st_not (st_tru rfl (se_callA (ok_law_changed_holds T) (hr.mono (by decide)) rfl T.g_law_changed_holds T.F_law_changed_holds.kp T.B_law_changed_holds (takes_of rfl rfl rfl rfl) (sa_cons (se_v (pv 5)) (sa_cons (se_v (pv 4)) (sa_cons (x_add (se_sl rfl (se_v (pv 7)) so_none (so_some (se_v (pv 8)))) (se_sl rfl (se_v (pv 7)) (so_some (x_add (se_v (pv 8)) se_int (en_of (G := GG K w A) hr))) so_none) (en_of (G := GG K w A) hr)) (sa_cons (se_v (pv 8)) (sa_cons (se_v (pv 6)) sa_nil))))))))
  (sss_one (ss_ret se_bl))
  sss_nil)
  (sss_one (ss_if (st_not (st_tru rfl (se_callA (ok_law_changed_holds T) (hr.mono (by decide)) rfl T.g_law_changed_holds T.F_law_changed_holds.kp T.B_law_changed_holds (takes_of rfl rfl rfl rfl) (sa_cons (se_v (pv 5)) (sa_cons (se_v (pv 4)) (sa_cons (x_add (x_add (se_sl rfl (se_v (pv 7)) so_none (so_some (se_v (pv 8)))) (se_v (pv 9)) (en_of (G := GG K w A) hr)) (se_sl rfl (se_v (pv 7)) (so_some (se_v (pv 8))) so_none) (en_of (G := GG K w A) hr)) (sa_cons (se_v (pv 8)) (sa_cons (se_v (pv 6)) sa_nil))))))))
  (sss_one (ss_ret se_bl))
  sss_nil))))))
  (sss_one (ss_ret (se_callA (ok_law_both T) (hr.mono (by decide)) rfl T.g_law_both T.F_law_both.kp T.B_law_both (takes_of rfl rfl rfl rfl) (sa_cons (se_v (pv 5)) (sa_cons (se_v (pv 7)) (sa_cons (se_tup (sa_cons (se_str (l := [114, 101, 97, 100])) (sa_cons (se_v (pv 6)) sa_nil))) sa_nil)))))))))))))))
end K13

/-! K13bz -/
set_option Elab.async false
set_option linter.all false
set_option maxRecDepth 100000
set_option maxHeartbeats 4000000
namespace K13
open PySem PySem.Spec PyProof.Rows SeqAt L2 LV
theorem all_mk {K : PySem.W.Frag} {h : Heap} {mg : Str → Option Value} {fa : Addr} {f_is_letters f_is_bits f_is_integer f_is_copy f_is_letter f_has_keys f_are_words f_in_order f_needed f_reach f_heads_of f_Format_init f_Format_has f_check_way f_written f_law_start f_law_pull f_law_alphabet f_law_copies f_law_leaves f_law_plain f_law_way f_law_copied f_law_is_int f_law_same f_law_put f_can_come f_least_due f_read f_put_by f_spread f_text_of f_law_read f_law_both f_law_lack f_law_could f_law_parsed f_law_changed_holds f_law f_BadBits_init f_BadFormat_init f_BadWay_init f_Left_init f_TooFew_init : Addr} {c_BadBits c_BadFormat c_BadWay c_Format c_Left c_NoBits c_TooFew : Addr} {od_is_letters an_is_letters od_is_bits an_is_bits od_is_integer an_is_integer od_is_copy an_is_copy od_is_letter an_is_letter od_has_keys an_has_keys od_are_words an_are_words od_in_order an_in_order od_needed an_needed od_reach an_reach od_heads_of an_heads_of od_Format_init an_Format_init od_Format_has an_Format_has od_check_way an_check_way od_written an_written od_law_start an_law_start od_law_pull an_law_pull od_law_alphabet an_law_alphabet od_law_copies an_law_copies od_law_leaves an_law_leaves od_law_plain an_law_plain od_law_way an_law_way od_law_copied an_law_copied od_law_is_int an_law_is_int od_law_same an_law_same od_law_put an_law_put od_can_come an_can_come od_least_due an_least_due od_read an_read od_put_by an_put_by od_spread an_spread od_text_of an_text_of od_law_read an_law_read od_law_both an_law_both od_law_lack an_law_lack od_law_could an_law_could od_law_parsed an_law_parsed od_law_changed_holds an_law_changed_holds od_law an_law od_BadBits_init an_BadBits_init od_BadFormat_init an_BadFormat_init od_BadWay_init an_BadWay_init od_Left_init an_Left_init od_TooFew_init an_TooFew_init : Option Addr} {sl_is_letters sl_is_bits sl_is_integer sl_is_copy sl_is_letter sl_has_keys sl_are_words sl_in_order sl_needed sl_reach sl_heads_of sl_Format_init sl_Format_has sl_check_way sl_written sl_law_start sl_law_pull sl_law_alphabet sl_law_copies sl_law_leaves sl_law_plain sl_law_way sl_law_copied sl_law_is_int sl_law_same sl_law_put sl_can_come sl_least_due sl_read sl_put_by sl_spread sl_text_of sl_law_read sl_law_both sl_law_lack sl_law_could sl_law_parsed sl_law_changed_holds sl_law sl_BadBits_init sl_BadFormat_init sl_BadWay_init sl_Left_init sl_TooFew_init : Array (Option Value)} {oc_is_letters kV_is_letters dc_is_letters pm_is_letters cd_is_letters ct_is_letters oc_is_bits kV_is_bits dc_is_bits pm_is_bits cd_is_bits ct_is_bits oc_is_integer kV_is_integer dc_is_integer pm_is_integer cd_is_integer ct_is_integer oc_is_copy kV_is_copy dc_is_copy pm_is_copy cd_is_copy ct_is_copy oc_is_letter kV_is_letter dc_is_letter pm_is_letter cd_is_letter ct_is_letter oc_has_keys kV_has_keys dc_has_keys pm_has_keys cd_has_keys ct_has_keys oc_are_words kV_are_words dc_are_words pm_are_words cd_are_words ct_are_words oc_in_order kV_in_order dc_in_order pm_in_order cd_in_order ct_in_order oc_needed kV_needed dc_needed pm_needed cd_needed ct_needed oc_reach kV_reach dc_reach pm_reach cd_reach ct_reach oc_heads_of kV_heads_of dc_heads_of pm_heads_of cd_heads_of ct_heads_of oc_Format_init kV_Format_init dc_Format_init pm_Format_init cd_Format_init ct_Format_init oc_Format_has kV_Format_has dc_Format_has pm_Format_has cd_Format_has ct_Format_has oc_check_way kV_check_way dc_check_way pm_check_way cd_check_way ct_check_way oc_written kV_written dc_written pm_written cd_written ct_written oc_law_start kV_law_start dc_law_start pm_law_start cd_law_start ct_law_start oc_law_pull kV_law_pull dc_law_pull pm_law_pull cd_law_pull ct_law_pull oc_law_alphabet kV_law_alphabet dc_law_alphabet pm_law_alphabet cd_law_alphabet ct_law_alphabet oc_law_copies kV_law_copies dc_law_copies pm_law_copies cd_law_copies ct_law_copies oc_law_leaves kV_law_leaves dc_law_leaves pm_law_leaves cd_law_leaves ct_law_leaves oc_law_plain kV_law_plain dc_law_plain pm_law_plain cd_law_plain ct_law_plain oc_law_way kV_law_way dc_law_way pm_law_way cd_law_way ct_law_way oc_law_copied kV_law_copied dc_law_copied pm_law_copied cd_law_copied ct_law_copied oc_law_is_int kV_law_is_int dc_law_is_int pm_law_is_int cd_law_is_int ct_law_is_int oc_law_same kV_law_same dc_law_same pm_law_same cd_law_same ct_law_same oc_law_put kV_law_put dc_law_put pm_law_put cd_law_put ct_law_put oc_can_come kV_can_come dc_can_come pm_can_come cd_can_come ct_can_come oc_least_due kV_least_due dc_least_due pm_least_due cd_least_due ct_least_due oc_read kV_read dc_read pm_read cd_read ct_read oc_put_by kV_put_by dc_put_by pm_put_by cd_put_by ct_put_by oc_spread kV_spread dc_spread pm_spread cd_spread ct_spread oc_text_of kV_text_of dc_text_of pm_text_of cd_text_of ct_text_of oc_law_read kV_law_read dc_law_read pm_law_read cd_law_read ct_law_read oc_law_both kV_law_both dc_law_both pm_law_both cd_law_both ct_law_both oc_law_lack kV_law_lack dc_law_lack pm_law_lack cd_law_lack ct_law_lack oc_law_could kV_law_could dc_law_could pm_law_could cd_law_could ct_law_could oc_law_parsed kV_law_parsed dc_law_parsed pm_law_parsed cd_law_parsed ct_law_parsed oc_law_changed_holds kV_law_changed_holds dc_law_changed_holds pm_law_changed_holds cd_law_changed_holds ct_law_changed_holds oc_law kV_law dc_law pm_law cd_law ct_law oc_BadBits_init kV_BadBits_init dc_BadBits_init pm_BadBits_init cd_BadBits_init ct_BadBits_init oc_BadFormat_init kV_BadFormat_init dc_BadFormat_init pm_BadFormat_init cd_BadFormat_init ct_BadFormat_init oc_BadWay_init kV_BadWay_init dc_BadWay_init pm_BadWay_init cd_BadWay_init ct_BadWay_init oc_Left_init kV_Left_init dc_Left_init pm_Left_init cd_Left_init ct_Left_init oc_TooFew_init kV_TooFew_init dc_TooFew_init pm_TooFew_init cd_TooFew_init ct_TooFew_init : Value} {t_LETTERS t_LONGEST_WORD t_MOST_COMMANDS : Tok} {nm_BadBits q_BadBits : Str} {N_BadBits e0_BadBits : Addr} {bs_BadBits sub_BadBits : List Value} {sn_BadBits : List Str} {ab_BadBits : Bool} {col_BadBits : Option Bool} {dd_BadBits : Option Addr} {m0_BadBits m1_BadBits m2_BadBits m3_BadBits m5_BadBits : Option Value} {nm_BadFormat q_BadFormat : Str} {N_BadFormat e0_BadFormat : Addr} {bs_BadFormat sub_BadFormat : List Value} {sn_BadFormat : List Str} {ab_BadFormat : Bool} {col_BadFormat : Option Bool} {dd_BadFormat : Option Addr} {m0_BadFormat m1_BadFormat m2_BadFormat m3_BadFormat m5_BadFormat : Option Value} {nm_BadWay q_BadWay : Str} {N_BadWay e0_BadWay : Addr} {bs_BadWay sub_BadWay : List Value} {sn_BadWay : List Str} {ab_BadWay : Bool} {col_BadWay : Option Bool} {dd_BadWay : Option Addr} {m0_BadWay m1_BadWay m2_BadWay m3_BadWay m5_BadWay : Option Value} {nm_Left q_Left : Str} {N_Left e0_Left : Addr} {bs_Left sub_Left : List Value} {sn_Left : List Str} {ab_Left : Bool} {col_Left : Option Bool} {dd_Left : Option Addr} {m0_Left m1_Left m2_Left m3_Left m5_Left : Option Value} {nm_TooFew q_TooFew : Str} {N_TooFew e0_TooFew : Addr} {bs_TooFew sub_TooFew : List Value} {sn_TooFew : List Str} {ab_TooFew : Bool} {col_TooFew : Option Bool} {dd_TooFew : Option Addr} {m0_TooFew m1_TooFew m2_TooFew m3_TooFew m5_TooFew : Option Value} (X : K.In h) (G : h.Ns mainGlobals mg) (hfa : mg "law" = some (.ref fa))
    (n_BadBits : PySem.W.nsIn K mainGlobals "BadBits" = some (some (.ref c_BadBits)))
    (n_BadFormat : PySem.W.nsIn K mainGlobals "BadFormat" = some (some (.ref c_BadFormat)))
    (n_BadWay : PySem.W.nsIn K mainGlobals "BadWay" = some (some (.ref c_BadWay)))
    (n_Format : PySem.W.nsIn K mainGlobals "Format" = some (some (.ref c_Format)))
    (n_Left : PySem.W.nsIn K mainGlobals "Left" = some (some (.ref c_Left)))
    (n_NoBits : PySem.W.nsIn K mainGlobals "NoBits" = some (some (.ref c_NoBits)))
    (n_TooFew : PySem.W.nsIn K mainGlobals "TooFew" = some (some (.ref c_TooFew)))
    (a_is_letters : PySem.W.nsIn K mainGlobals "is_letters" = some (some (.ref f_is_letters)))
    (l_is_letters : K.lookup f_is_letters = some ⟨oc_is_letters, od_is_letters, .func (PySem.W.fnOf "is_letters" "is_letters" (defArgs s_is_letters) (defBody s_is_letters) (defScope s_is_letters) .none kV_is_letters dc_is_letters pm_is_letters an_is_letters cd_is_letters ct_is_letters), sl_is_letters⟩)
    (c_is_letters : PySem.W.codeIn K cd_is_letters "is_letters" = true)
    (k_is_letters : PySem.W.keepIn K (.ref f_is_letters) = true)
    (a_is_bits : PySem.W.nsIn K mainGlobals "is_bits" = some (some (.ref f_is_bits)))
    (l_is_bits : K.lookup f_is_bits = some ⟨oc_is_bits, od_is_bits, .func (PySem.W.fnOf "is_bits" "is_bits" (defArgs s_is_bits) (defBody s_is_bits) (defScope s_is_bits) .none kV_is_bits dc_is_bits pm_is_bits an_is_bits cd_is_bits ct_is_bits), sl_is_bits⟩)
    (c_is_bits : PySem.W.codeIn K cd_is_bits "is_bits" = true)
    (k_is_bits : PySem.W.keepIn K (.ref f_is_bits) = true)
    (a_is_integer : PySem.W.nsIn K mainGlobals "is_integer" = some (some (.ref f_is_integer)))
    (l_is_integer : K.lookup f_is_integer = some ⟨oc_is_integer, od_is_integer, .func (PySem.W.fnOf "is_integer" "is_integer" (defArgs s_is_integer) (defBody s_is_integer) (defScope s_is_integer) .none kV_is_integer dc_is_integer pm_is_integer an_is_integer cd_is_integer ct_is_integer), sl_is_integer⟩)
    (c_is_integer : PySem.W.codeIn K cd_is_integer "is_integer" = true)
    (k_is_integer : PySem.W.keepIn K (.ref f_is_integer) = true)
    (a_is_copy : PySem.W.nsIn K mainGlobals "is_copy" = some (some (.ref f_is_copy)))
    (l_is_copy : K.lookup f_is_copy = some ⟨oc_is_copy, od_is_copy, .func (PySem.W.fnOf "is_copy" "is_copy" (defArgs s_is_copy) (defBody s_is_copy) (defScope s_is_copy) .none kV_is_copy dc_is_copy pm_is_copy an_is_copy cd_is_copy ct_is_copy), sl_is_copy⟩)
    (c_is_copy : PySem.W.codeIn K cd_is_copy "is_copy" = true)
    (k_is_copy : PySem.W.keepIn K (.ref f_is_copy) = true)
    (a_is_letter : PySem.W.nsIn K mainGlobals "is_letter" = some (some (.ref f_is_letter)))
    (l_is_letter : K.lookup f_is_letter = some ⟨oc_is_letter, od_is_letter, .func (PySem.W.fnOf "is_letter" "is_letter" (defArgs s_is_letter) (defBody s_is_letter) (defScope s_is_letter) .none kV_is_letter dc_is_letter pm_is_letter an_is_letter cd_is_letter ct_is_letter), sl_is_letter⟩)
    (c_is_letter : PySem.W.codeIn K cd_is_letter "is_letter" = true)
    (k_is_letter : PySem.W.keepIn K (.ref f_is_letter) = true)
    (a_has_keys : PySem.W.nsIn K mainGlobals "has_keys" = some (some (.ref f_has_keys)))
    (l_has_keys : K.lookup f_has_keys = some ⟨oc_has_keys, od_has_keys, .func (PySem.W.fnOf "has_keys" "has_keys" (defArgs s_has_keys) (defBody s_has_keys) (defScope s_has_keys) .none kV_has_keys dc_has_keys pm_has_keys an_has_keys cd_has_keys ct_has_keys), sl_has_keys⟩)
    (c_has_keys : PySem.W.codeIn K cd_has_keys "has_keys" = true)
    (k_has_keys : PySem.W.keepIn K (.ref f_has_keys) = true)
    (a_are_words : PySem.W.nsIn K mainGlobals "are_words" = some (some (.ref f_are_words)))
    (l_are_words : K.lookup f_are_words = some ⟨oc_are_words, od_are_words, .func (PySem.W.fnOf "are_words" "are_words" (defArgs s_are_words) (defBody s_are_words) (defScope s_are_words) .none kV_are_words dc_are_words pm_are_words an_are_words cd_are_words ct_are_words), sl_are_words⟩)
    (c_are_words : PySem.W.codeIn K cd_are_words "are_words" = true)
    (k_are_words : PySem.W.keepIn K (.ref f_are_words) = true)
    (a_in_order : PySem.W.nsIn K mainGlobals "in_order" = some (some (.ref f_in_order)))
    (l_in_order : K.lookup f_in_order = some ⟨oc_in_order, od_in_order, .func (PySem.W.fnOf "in_order" "in_order" (defArgs s_in_order) (defBody s_in_order) (defScope s_in_order) .none kV_in_order dc_in_order pm_in_order an_in_order cd_in_order ct_in_order), sl_in_order⟩)
    (c_in_order : PySem.W.codeIn K cd_in_order "in_order" = true)
    (k_in_order : PySem.W.keepIn K (.ref f_in_order) = true)
    (a_needed : PySem.W.nsIn K mainGlobals "needed" = some (some (.ref f_needed)))
    (l_needed : K.lookup f_needed = some ⟨oc_needed, od_needed, .func (PySem.W.fnOf "needed" "needed" (defArgs s_needed) (defBody s_needed) (defScope s_needed) .none kV_needed dc_needed pm_needed an_needed cd_needed ct_needed), sl_needed⟩)
    (c_needed : PySem.W.codeIn K cd_needed "needed" = true)
    (k_needed : PySem.W.keepIn K (.ref f_needed) = true)
    (a_reach : PySem.W.nsIn K mainGlobals "reach" = some (some (.ref f_reach)))
    (l_reach : K.lookup f_reach = some ⟨oc_reach, od_reach, .func (PySem.W.fnOf "reach" "reach" (defArgs s_reach) (defBody s_reach) (defScope s_reach) .none kV_reach dc_reach pm_reach an_reach cd_reach ct_reach), sl_reach⟩)
    (c_reach : PySem.W.codeIn K cd_reach "reach" = true)
    (k_reach : PySem.W.keepIn K (.ref f_reach) = true)
    (a_heads_of : PySem.W.nsIn K mainGlobals "heads_of" = some (some (.ref f_heads_of)))
    (l_heads_of : K.lookup f_heads_of = some ⟨oc_heads_of, od_heads_of, .func (PySem.W.fnOf "heads_of" "heads_of" (defArgs s_heads_of) (defBody s_heads_of) (defScope s_heads_of) .none kV_heads_of dc_heads_of pm_heads_of an_heads_of cd_heads_of ct_heads_of), sl_heads_of⟩)
    (c_heads_of : PySem.W.codeIn K cd_heads_of "heads_of" = true)
    (k_heads_of : PySem.W.keepIn K (.ref f_heads_of) = true)
    (a_Format_init : PySem.W.findIn K (.ref c_Format) "__init__" = some (some (.ref f_Format_init)))
    (l_Format_init : K.lookup f_Format_init = some ⟨oc_Format_init, od_Format_init, .func (PySem.W.fnOf "__init__" "Format.__init__" (defArgs s_Format_init) (defBody s_Format_init) (defScope s_Format_init) .none kV_Format_init dc_Format_init pm_Format_init an_Format_init cd_Format_init ct_Format_init), sl_Format_init⟩)
    (c_Format_init : PySem.W.codeIn K cd_Format_init "Format.__init__" = true)
    (k_Format_init : PySem.W.keepIn K (.ref f_Format_init) = true)
    (a_Format_has : PySem.W.findIn K (.ref c_Format) "has" = some (some (.ref f_Format_has)))
    (i_Format_has : PySem.W.isFn K (.ref f_Format_has) = true)
    (l_Format_has : K.lookup f_Format_has = some ⟨oc_Format_has, od_Format_has, .func (PySem.W.fnOf "has" "Format.has" (defArgs s_Format_has) (defBody s_Format_has) (defScope s_Format_has) .none kV_Format_has dc_Format_has pm_Format_has an_Format_has cd_Format_has ct_Format_has), sl_Format_has⟩)
    (c_Format_has : PySem.W.codeIn K cd_Format_has "Format.has" = true)
    (k_Format_has : PySem.W.keepIn K (.ref f_Format_has) = true)
    (a_check_way : PySem.W.nsIn K mainGlobals "check_way" = some (some (.ref f_check_way)))
    (l_check_way : K.lookup f_check_way = some ⟨oc_check_way, od_check_way, .func (PySem.W.fnOf "check_way" "check_way" (defArgs s_check_way) (defBody s_check_way) (defScope s_check_way) .none kV_check_way dc_check_way pm_check_way an_check_way cd_check_way ct_check_way), sl_check_way⟩)
    (c_check_way : PySem.W.codeIn K cd_check_way "check_way" = true)
    (k_check_way : PySem.W.keepIn K (.ref f_check_way) = true)
    (a_written : PySem.W.nsIn K mainGlobals "written" = some (some (.ref f_written)))
    (l_written : K.lookup f_written = some ⟨oc_written, od_written, .func (PySem.W.fnOf "written" "written" (defArgs s_written) (defBody s_written) (defScope s_written) .none kV_written dc_written pm_written an_written cd_written ct_written), sl_written⟩)
    (c_written : PySem.W.codeIn K cd_written "written" = true)
    (k_written : PySem.W.keepIn K (.ref f_written) = true)
    (a_law_start : PySem.W.nsIn K mainGlobals "_law_start" = some (some (.ref f_law_start)))
    (l_law_start : K.lookup f_law_start = some ⟨oc_law_start, od_law_start, .func (PySem.W.fnOf "_law_start" "_law_start" (defArgs s_law_start) (defBody s_law_start) (defScope s_law_start) .none kV_law_start dc_law_start pm_law_start an_law_start cd_law_start ct_law_start), sl_law_start⟩)
    (c_law_start : PySem.W.codeIn K cd_law_start "_law_start" = true)
    (k_law_start : PySem.W.keepIn K (.ref f_law_start) = true)
    (a_law_pull : PySem.W.nsIn K mainGlobals "_law_pull" = some (some (.ref f_law_pull)))
    (l_law_pull : K.lookup f_law_pull = some ⟨oc_law_pull, od_law_pull, .func (PySem.W.fnOf "_law_pull" "_law_pull" (defArgs s_law_pull) (defBody s_law_pull) (defScope s_law_pull) .none kV_law_pull dc_law_pull pm_law_pull an_law_pull cd_law_pull ct_law_pull), sl_law_pull⟩)
    (c_law_pull : PySem.W.codeIn K cd_law_pull "_law_pull" = true)
    (k_law_pull : PySem.W.keepIn K (.ref f_law_pull) = true)
    (a_law_alphabet : PySem.W.nsIn K mainGlobals "_law_alphabet" = some (some (.ref f_law_alphabet)))
    (l_law_alphabet : K.lookup f_law_alphabet = some ⟨oc_law_alphabet, od_law_alphabet, .func (PySem.W.fnOf "_law_alphabet" "_law_alphabet" (defArgs s_law_alphabet) (defBody s_law_alphabet) (defScope s_law_alphabet) .none kV_law_alphabet dc_law_alphabet pm_law_alphabet an_law_alphabet cd_law_alphabet ct_law_alphabet), sl_law_alphabet⟩)
    (c_law_alphabet : PySem.W.codeIn K cd_law_alphabet "_law_alphabet" = true)
    (k_law_alphabet : PySem.W.keepIn K (.ref f_law_alphabet) = true)
    (a_law_copies : PySem.W.nsIn K mainGlobals "_law_copies" = some (some (.ref f_law_copies)))
    (l_law_copies : K.lookup f_law_copies = some ⟨oc_law_copies, od_law_copies, .func (PySem.W.fnOf "_law_copies" "_law_copies" (defArgs s_law_copies) (defBody s_law_copies) (defScope s_law_copies) .none kV_law_copies dc_law_copies pm_law_copies an_law_copies cd_law_copies ct_law_copies), sl_law_copies⟩)
    (c_law_copies : PySem.W.codeIn K cd_law_copies "_law_copies" = true)
    (k_law_copies : PySem.W.keepIn K (.ref f_law_copies) = true)
    (a_law_leaves : PySem.W.nsIn K mainGlobals "_law_leaves" = some (some (.ref f_law_leaves)))
    (l_law_leaves : K.lookup f_law_leaves = some ⟨oc_law_leaves, od_law_leaves, .func (PySem.W.fnOf "_law_leaves" "_law_leaves" (defArgs s_law_leaves) (defBody s_law_leaves) (defScope s_law_leaves) .none kV_law_leaves dc_law_leaves pm_law_leaves an_law_leaves cd_law_leaves ct_law_leaves), sl_law_leaves⟩)
    (c_law_leaves : PySem.W.codeIn K cd_law_leaves "_law_leaves" = true)
    (k_law_leaves : PySem.W.keepIn K (.ref f_law_leaves) = true)
    (a_law_plain : PySem.W.nsIn K mainGlobals "_law_plain" = some (some (.ref f_law_plain)))
    (l_law_plain : K.lookup f_law_plain = some ⟨oc_law_plain, od_law_plain, .func (PySem.W.fnOf "_law_plain" "_law_plain" (defArgs s_law_plain) (defBody s_law_plain) (defScope s_law_plain) .none kV_law_plain dc_law_plain pm_law_plain an_law_plain cd_law_plain ct_law_plain), sl_law_plain⟩)
    (c_law_plain : PySem.W.codeIn K cd_law_plain "_law_plain" = true)
    (k_law_plain : PySem.W.keepIn K (.ref f_law_plain) = true)
    (a_law_way : PySem.W.nsIn K mainGlobals "_law_way" = some (some (.ref f_law_way)))
    (l_law_way : K.lookup f_law_way = some ⟨oc_law_way, od_law_way, .func (PySem.W.fnOf "_law_way" "_law_way" (defArgs s_law_way) (defBody s_law_way) (defScope s_law_way) .none kV_law_way dc_law_way pm_law_way an_law_way cd_law_way ct_law_way), sl_law_way⟩)
    (c_law_way : PySem.W.codeIn K cd_law_way "_law_way" = true)
    (k_law_way : PySem.W.keepIn K (.ref f_law_way) = true)
    (a_law_copied : PySem.W.nsIn K mainGlobals "_law_copied" = some (some (.ref f_law_copied)))
    (l_law_copied : K.lookup f_law_copied = some ⟨oc_law_copied, od_law_copied, .func (PySem.W.fnOf "_law_copied" "_law_copied" (defArgs s_law_copied) (defBody s_law_copied) (defScope s_law_copied) .none kV_law_copied dc_law_copied pm_law_copied an_law_copied cd_law_copied ct_law_copied), sl_law_copied⟩)
    (c_law_copied : PySem.W.codeIn K cd_law_copied "_law_copied" = true)
    (k_law_copied : PySem.W.keepIn K (.ref f_law_copied) = true)
    (a_law_is_int : PySem.W.nsIn K mainGlobals "_law_is_int" = some (some (.ref f_law_is_int)))
    (l_law_is_int : K.lookup f_law_is_int = some ⟨oc_law_is_int, od_law_is_int, .func (PySem.W.fnOf "_law_is_int" "_law_is_int" (defArgs s_law_is_int) (defBody s_law_is_int) (defScope s_law_is_int) .none kV_law_is_int dc_law_is_int pm_law_is_int an_law_is_int cd_law_is_int ct_law_is_int), sl_law_is_int⟩)
    (c_law_is_int : PySem.W.codeIn K cd_law_is_int "_law_is_int" = true)
    (k_law_is_int : PySem.W.keepIn K (.ref f_law_is_int) = true)
    (a_law_same : PySem.W.nsIn K mainGlobals "_law_same" = some (some (.ref f_law_same)))
    (l_law_same : K.lookup f_law_same = some ⟨oc_law_same, od_law_same, .func (PySem.W.fnOf "_law_same" "_law_same" (defArgs s_law_same) (defBody s_law_same) (defScope s_law_same) .none kV_law_same dc_law_same pm_law_same an_law_same cd_law_same ct_law_same), sl_law_same⟩)
    (c_law_same : PySem.W.codeIn K cd_law_same "_law_same" = true)
    (k_law_same : PySem.W.keepIn K (.ref f_law_same) = true)
    (a_law_put : PySem.W.nsIn K mainGlobals "_law_put" = some (some (.ref f_law_put)))
    (l_law_put : K.lookup f_law_put = some ⟨oc_law_put, od_law_put, .func (PySem.W.fnOf "_law_put" "_law_put" (defArgs s_law_put) (defBody s_law_put) (defScope s_law_put) .none kV_law_put dc_law_put pm_law_put an_law_put cd_law_put ct_law_put), sl_law_put⟩)
    (c_law_put : PySem.W.codeIn K cd_law_put "_law_put" = true)
    (k_law_put : PySem.W.keepIn K (.ref f_law_put) = true)
    (a_can_come : PySem.W.nsIn K mainGlobals "can_come" = some (some (.ref f_can_come)))
    (l_can_come : K.lookup f_can_come = some ⟨oc_can_come, od_can_come, .func (PySem.W.fnOf "can_come" "can_come" (defArgs s_can_come) (defBody s_can_come) (defScope s_can_come) .none kV_can_come dc_can_come pm_can_come an_can_come cd_can_come ct_can_come), sl_can_come⟩)
    (c_can_come : PySem.W.codeIn K cd_can_come "can_come" = true)
    (k_can_come : PySem.W.keepIn K (.ref f_can_come) = true)
    (a_least_due : PySem.W.nsIn K mainGlobals "least_due" = some (some (.ref f_least_due)))
    (l_least_due : K.lookup f_least_due = some ⟨oc_least_due, od_least_due, .func (PySem.W.fnOf "least_due" "least_due" (defArgs s_least_due) (defBody s_least_due) (defScope s_least_due) .none kV_least_due dc_least_due pm_least_due an_least_due cd_least_due ct_least_due), sl_least_due⟩)
    (c_least_due : PySem.W.codeIn K cd_least_due "least_due" = true)
    (k_least_due : PySem.W.keepIn K (.ref f_least_due) = true)
    (a_read : PySem.W.nsIn K mainGlobals "read" = some (some (.ref f_read)))
    (l_read : K.lookup f_read = some ⟨oc_read, od_read, .func (PySem.W.fnOf "read" "read" (defArgs s_read) (defBody s_read) (defScope s_read) .none kV_read dc_read pm_read an_read cd_read ct_read), sl_read⟩)
    (c_read : PySem.W.codeIn K cd_read "read" = true)
    (k_read : PySem.W.keepIn K (.ref f_read) = true)
    (a_put_by : PySem.W.nsIn K mainGlobals "put_by" = some (some (.ref f_put_by)))
    (l_put_by : K.lookup f_put_by = some ⟨oc_put_by, od_put_by, .func (PySem.W.fnOf "put_by" "put_by" (defArgs s_put_by) (defBody s_put_by) (defScope s_put_by) .none kV_put_by dc_put_by pm_put_by an_put_by cd_put_by ct_put_by), sl_put_by⟩)
    (c_put_by : PySem.W.codeIn K cd_put_by "put_by" = true)
    (k_put_by : PySem.W.keepIn K (.ref f_put_by) = true)
    (a_spread : PySem.W.nsIn K mainGlobals "spread" = some (some (.ref f_spread)))
    (l_spread : K.lookup f_spread = some ⟨oc_spread, od_spread, .func (PySem.W.fnOf "spread" "spread" (defArgs s_spread) (defBody s_spread) (defScope s_spread) .none kV_spread dc_spread pm_spread an_spread cd_spread ct_spread), sl_spread⟩)
    (c_spread : PySem.W.codeIn K cd_spread "spread" = true)
    (k_spread : PySem.W.keepIn K (.ref f_spread) = true)
    (a_text_of : PySem.W.nsIn K mainGlobals "text_of" = some (some (.ref f_text_of)))
    (l_text_of : K.lookup f_text_of = some ⟨oc_text_of, od_text_of, .func (PySem.W.fnOf "text_of" "text_of" (defArgs s_text_of) (defBody s_text_of) (defScope s_text_of) .none kV_text_of dc_text_of pm_text_of an_text_of cd_text_of ct_text_of), sl_text_of⟩)
    (c_text_of : PySem.W.codeIn K cd_text_of "text_of" = true)
    (k_text_of : PySem.W.keepIn K (.ref f_text_of) = true)
    (a_law_read : PySem.W.nsIn K mainGlobals "_law_read" = some (some (.ref f_law_read)))
    (l_law_read : K.lookup f_law_read = some ⟨oc_law_read, od_law_read, .func (PySem.W.fnOf "_law_read" "_law_read" (defArgs s_law_read) (defBody s_law_read) (defScope s_law_read) .none kV_law_read dc_law_read pm_law_read an_law_read cd_law_read ct_law_read), sl_law_read⟩)
    (c_law_read : PySem.W.codeIn K cd_law_read "_law_read" = true)
    (k_law_read : PySem.W.keepIn K (.ref f_law_read) = true)
    (a_law_both : PySem.W.nsIn K mainGlobals "_law_both" = some (some (.ref f_law_both)))
    (l_law_both : K.lookup f_law_both = some ⟨oc_law_both, od_law_both, .func (PySem.W.fnOf "_law_both" "_law_both" (defArgs s_law_both) (defBody s_law_both) (defScope s_law_both) .none kV_law_both dc_law_both pm_law_both an_law_both cd_law_both ct_law_both), sl_law_both⟩)
    (c_law_both : PySem.W.codeIn K cd_law_both "_law_both" = true)
    (k_law_both : PySem.W.keepIn K (.ref f_law_both) = true)
    (a_law_lack : PySem.W.nsIn K mainGlobals "_law_lack" = some (some (.ref f_law_lack)))
    (l_law_lack : K.lookup f_law_lack = some ⟨oc_law_lack, od_law_lack, .func (PySem.W.fnOf "_law_lack" "_law_lack" (defArgs s_law_lack) (defBody s_law_lack) (defScope s_law_lack) .none kV_law_lack dc_law_lack pm_law_lack an_law_lack cd_law_lack ct_law_lack), sl_law_lack⟩)
    (c_law_lack : PySem.W.codeIn K cd_law_lack "_law_lack" = true)
    (k_law_lack : PySem.W.keepIn K (.ref f_law_lack) = true)
    (a_law_could : PySem.W.nsIn K mainGlobals "_law_could" = some (some (.ref f_law_could)))
    (l_law_could : K.lookup f_law_could = some ⟨oc_law_could, od_law_could, .func (PySem.W.fnOf "_law_could" "_law_could" (defArgs s_law_could) (defBody s_law_could) (defScope s_law_could) .none kV_law_could dc_law_could pm_law_could an_law_could cd_law_could ct_law_could), sl_law_could⟩)
    (c_law_could : PySem.W.codeIn K cd_law_could "_law_could" = true)
    (k_law_could : PySem.W.keepIn K (.ref f_law_could) = true)
    (a_law_parsed : PySem.W.nsIn K mainGlobals "_law_parsed" = some (some (.ref f_law_parsed)))
    (l_law_parsed : K.lookup f_law_parsed = some ⟨oc_law_parsed, od_law_parsed, .func (PySem.W.fnOf "_law_parsed" "_law_parsed" (defArgs s_law_parsed) (defBody s_law_parsed) (defScope s_law_parsed) .none kV_law_parsed dc_law_parsed pm_law_parsed an_law_parsed cd_law_parsed ct_law_parsed), sl_law_parsed⟩)
    (c_law_parsed : PySem.W.codeIn K cd_law_parsed "_law_parsed" = true)
    (k_law_parsed : PySem.W.keepIn K (.ref f_law_parsed) = true)
    (a_law_changed_holds : PySem.W.nsIn K mainGlobals "_law_changed_holds" = some (some (.ref f_law_changed_holds)))
    (l_law_changed_holds : K.lookup f_law_changed_holds = some ⟨oc_law_changed_holds, od_law_changed_holds, .func (PySem.W.fnOf "_law_changed_holds" "_law_changed_holds" (defArgs s_law_changed_holds) (defBody s_law_changed_holds) (defScope s_law_changed_holds) .none kV_law_changed_holds dc_law_changed_holds pm_law_changed_holds an_law_changed_holds cd_law_changed_holds ct_law_changed_holds), sl_law_changed_holds⟩)
    (c_law_changed_holds : PySem.W.codeIn K cd_law_changed_holds "_law_changed_holds" = true)
    (k_law_changed_holds : PySem.W.keepIn K (.ref f_law_changed_holds) = true)
    (a_law : PySem.W.nsIn K mainGlobals "law" = some (some (.ref f_law)))
    (l_law : K.lookup f_law = some ⟨oc_law, od_law, .func (PySem.W.fnOf "law" "law" (defArgs s_law) (defBody s_law) (defScope s_law) .none kV_law dc_law pm_law an_law cd_law ct_law), sl_law⟩)
    (c_law : PySem.W.codeIn K cd_law "law" = true)
    (k_law : PySem.W.keepIn K (.ref f_law) = true)
    (a_BadBits_init : PySem.W.findIn K (.ref c_BadBits) "__init__" = some (some (.ref f_BadBits_init)))
    (l_BadBits_init : K.lookup f_BadBits_init = some ⟨oc_BadBits_init, od_BadBits_init, .func (PySem.W.fnOf "__init__" "BadBits.__init__" (defArgs s_BadBits_init) (defBody s_BadBits_init) (defScope s_BadBits_init) .none kV_BadBits_init dc_BadBits_init pm_BadBits_init an_BadBits_init cd_BadBits_init ct_BadBits_init), sl_BadBits_init⟩)
    (c_BadBits_init : PySem.W.codeIn K cd_BadBits_init "BadBits.__init__" = true)
    (k_BadBits_init : PySem.W.keepIn K (.ref f_BadBits_init) = true)
    (a_BadFormat_init : PySem.W.findIn K (.ref c_BadFormat) "__init__" = some (some (.ref f_BadFormat_init)))
    (l_BadFormat_init : K.lookup f_BadFormat_init = some ⟨oc_BadFormat_init, od_BadFormat_init, .func (PySem.W.fnOf "__init__" "BadFormat.__init__" (defArgs s_BadFormat_init) (defBody s_BadFormat_init) (defScope s_BadFormat_init) .none kV_BadFormat_init dc_BadFormat_init pm_BadFormat_init an_BadFormat_init cd_BadFormat_init ct_BadFormat_init), sl_BadFormat_init⟩)
    (c_BadFormat_init : PySem.W.codeIn K cd_BadFormat_init "BadFormat.__init__" = true)
    (k_BadFormat_init : PySem.W.keepIn K (.ref f_BadFormat_init) = true)
    (a_BadWay_init : PySem.W.findIn K (.ref c_BadWay) "__init__" = some (some (.ref f_BadWay_init)))
    (l_BadWay_init : K.lookup f_BadWay_init = some ⟨oc_BadWay_init, od_BadWay_init, .func (PySem.W.fnOf "__init__" "BadWay.__init__" (defArgs s_BadWay_init) (defBody s_BadWay_init) (defScope s_BadWay_init) .none kV_BadWay_init dc_BadWay_init pm_BadWay_init an_BadWay_init cd_BadWay_init ct_BadWay_init), sl_BadWay_init⟩)
    (c_BadWay_init : PySem.W.codeIn K cd_BadWay_init "BadWay.__init__" = true)
    (k_BadWay_init : PySem.W.keepIn K (.ref f_BadWay_init) = true)
    (a_Left_init : PySem.W.findIn K (.ref c_Left) "__init__" = some (some (.ref f_Left_init)))
    (l_Left_init : K.lookup f_Left_init = some ⟨oc_Left_init, od_Left_init, .func (PySem.W.fnOf "__init__" "Left.__init__" (defArgs s_Left_init) (defBody s_Left_init) (defScope s_Left_init) .none kV_Left_init dc_Left_init pm_Left_init an_Left_init cd_Left_init ct_Left_init), sl_Left_init⟩)
    (c_Left_init : PySem.W.codeIn K cd_Left_init "Left.__init__" = true)
    (k_Left_init : PySem.W.keepIn K (.ref f_Left_init) = true)
    (a_TooFew_init : PySem.W.findIn K (.ref c_TooFew) "__init__" = some (some (.ref f_TooFew_init)))
    (l_TooFew_init : K.lookup f_TooFew_init = some ⟨oc_TooFew_init, od_TooFew_init, .func (PySem.W.fnOf "__init__" "TooFew.__init__" (defArgs s_TooFew_init) (defBody s_TooFew_init) (defScope s_TooFew_init) .none kV_TooFew_init dc_TooFew_init pm_TooFew_init an_TooFew_init cd_TooFew_init ct_TooFew_init), sl_TooFew_init⟩)
    (c_TooFew_init : PySem.W.codeIn K cd_TooFew_init "TooFew.__init__" = true)
    (k_TooFew_init : PySem.W.keepIn K (.ref f_TooFew_init) = true)
    (i_Format : PySem.W.isFn K (.ref f_Format_init) = true)
    (pg_Format : PySem.W.plainGet K c_Format Str.empty = true)
    (hd_Format : PySem.W.hasDictIn K c_Format = true)
    (po_Format : PySem.W.plainOver K c_Format = true)
    (sa_Format : PySem.W.findIn K (.ref c_Format) "__setattr__" = some (some (.builtin "object.__setattr__")))
    (mk_Format : PySem.W.makesIn K c_Format = true)
    (kc_Format : PySem.W.keepIn K (.ref c_Format) = true)
    (ha_Format : PySem.W.findIn K (.ref c_Format) "__class__" = some (some (.builtin "object.__class__")))
    (hn_Format : PySem.W.specialIn K (.builtin "object.__class__") "__get__" = some (some (.builtin "getset_descriptor.__get__")))
    (ht_Format : PySem.W.takesIn K (.builtin "object.__class__") = some true)
    (hm_Format : PySem.W.mroIn K c_Format (.type "object") = some true)
    (na_by_word : PySem.W.findIn K (.ref c_Format) "by_word" = some none)
    (na_coded_words : PySem.W.findIn K (.ref c_Format) "coded_words" = some none)
    (na_copy_list : PySem.W.findIn K (.ref c_Format) "copy_list" = some none)
    (na_heads : PySem.W.findIn K (.ref c_Format) "heads" = some none)
    (na_letters : PySem.W.findIn K (.ref c_Format) "letters" = some none)
    (na_longest : PySem.W.findIn K (.ref c_Format) "longest" = some none)
    (na_order : PySem.W.findIn K (.ref c_Format) "order" = some none)
    (na_prices : PySem.W.findIn K (.ref c_Format) "prices" = some none)
    (na_window : PySem.W.findIn K (.ref c_Format) "window" = some none)
    (xL_BadBits : K.lookup c_BadBits = some (excClassObj nm_BadBits q_BadBits c_BadBits N_BadBits bs_BadBits [.ref e0_BadBits, .type "ValueError", .type "Exception", .type "BaseException", .type "object"] true sn_BadBits sub_BadBits ab_BadBits col_BadBits dd_BadBits m0_BadBits m1_BadBits m2_BadBits m3_BadBits m5_BadBits "ValueError.__new__"))
    (sa_BadBits : PySem.W.findIn K (.ref c_BadBits) "__setattr__" = some (some (.builtin "object.__setattr__")))
    (ga_BadBits : PySem.W.findIn K (.ref c_BadBits) "__getattribute__" = some (some (.builtin "BaseException.__getattribute__")))
    (gg_BadBits : PySem.W.findIn K (.ref c_BadBits) "__getattr__" = some none)
    (nf_BadBits : PySem.W.findIn K (.ref c_BadBits) "at" = some none)
    (ti_BadBits : PySem.W.typeIn K (.ref f_BadBits_init) = some (.type "function"))
    (kc_BadBits : PySem.W.keepIn K (.ref c_BadBits) = true)
    (eC_BadBits : PySem.W.subIn K (.ref c_BadBits) (.type "BaseException") = some true)
    (tC_BadBits : PySem.W.typeIn K (.ref c_BadBits) = some (.type "type"))
    (hC_BadBits : PySem.W.hasDictIn K c_BadBits = true)
    (iC_BadBits : PySem.W.isClsIn K c_BadBits = true)
    (xL_BadFormat : K.lookup c_BadFormat = some (excClassObj nm_BadFormat q_BadFormat c_BadFormat N_BadFormat bs_BadFormat [.ref e0_BadFormat, .type "ValueError", .type "Exception", .type "BaseException", .type "object"] true sn_BadFormat sub_BadFormat ab_BadFormat col_BadFormat dd_BadFormat m0_BadFormat m1_BadFormat m2_BadFormat m3_BadFormat m5_BadFormat "ValueError.__new__"))
    (sa_BadFormat : PySem.W.findIn K (.ref c_BadFormat) "__setattr__" = some (some (.builtin "object.__setattr__")))
    (ga_BadFormat : PySem.W.findIn K (.ref c_BadFormat) "__getattribute__" = some (some (.builtin "BaseException.__getattribute__")))
    (gg_BadFormat : PySem.W.findIn K (.ref c_BadFormat) "__getattr__" = some none)
    (nf_BadFormat : PySem.W.findIn K (.ref c_BadFormat) "part" = some none)
    (ti_BadFormat : PySem.W.typeIn K (.ref f_BadFormat_init) = some (.type "function"))
    (kc_BadFormat : PySem.W.keepIn K (.ref c_BadFormat) = true)
    (eC_BadFormat : PySem.W.subIn K (.ref c_BadFormat) (.type "BaseException") = some true)
    (tC_BadFormat : PySem.W.typeIn K (.ref c_BadFormat) = some (.type "type"))
    (hC_BadFormat : PySem.W.hasDictIn K c_BadFormat = true)
    (iC_BadFormat : PySem.W.isClsIn K c_BadFormat = true)
    (xL_BadWay : K.lookup c_BadWay = some (excClassObj nm_BadWay q_BadWay c_BadWay N_BadWay bs_BadWay [.ref e0_BadWay, .type "ValueError", .type "Exception", .type "BaseException", .type "object"] true sn_BadWay sub_BadWay ab_BadWay col_BadWay dd_BadWay m0_BadWay m1_BadWay m2_BadWay m3_BadWay m5_BadWay "ValueError.__new__"))
    (sa_BadWay : PySem.W.findIn K (.ref c_BadWay) "__setattr__" = some (some (.builtin "object.__setattr__")))
    (ga_BadWay : PySem.W.findIn K (.ref c_BadWay) "__getattribute__" = some (some (.builtin "BaseException.__getattribute__")))
    (gg_BadWay : PySem.W.findIn K (.ref c_BadWay) "__getattr__" = some none)
    (nf_BadWay : PySem.W.findIn K (.ref c_BadWay) "at" = some none)
    (ti_BadWay : PySem.W.typeIn K (.ref f_BadWay_init) = some (.type "function"))
    (kc_BadWay : PySem.W.keepIn K (.ref c_BadWay) = true)
    (eC_BadWay : PySem.W.subIn K (.ref c_BadWay) (.type "BaseException") = some true)
    (tC_BadWay : PySem.W.typeIn K (.ref c_BadWay) = some (.type "type"))
    (hC_BadWay : PySem.W.hasDictIn K c_BadWay = true)
    (iC_BadWay : PySem.W.isClsIn K c_BadWay = true)
    (xL_Left : K.lookup c_Left = some (excClassObj nm_Left q_Left c_Left N_Left bs_Left [.ref e0_Left, .type "ValueError", .type "Exception", .type "BaseException", .type "object"] true sn_Left sub_Left ab_Left col_Left dd_Left m0_Left m1_Left m2_Left m3_Left m5_Left "ValueError.__new__"))
    (sa_Left : PySem.W.findIn K (.ref c_Left) "__setattr__" = some (some (.builtin "object.__setattr__")))
    (ga_Left : PySem.W.findIn K (.ref c_Left) "__getattribute__" = some (some (.builtin "BaseException.__getattribute__")))
    (gg_Left : PySem.W.findIn K (.ref c_Left) "__getattr__" = some none)
    (nf_Left : PySem.W.findIn K (.ref c_Left) "at" = some none)
    (ti_Left : PySem.W.typeIn K (.ref f_Left_init) = some (.type "function"))
    (kc_Left : PySem.W.keepIn K (.ref c_Left) = true)
    (eC_Left : PySem.W.subIn K (.ref c_Left) (.type "BaseException") = some true)
    (tC_Left : PySem.W.typeIn K (.ref c_Left) = some (.type "type"))
    (hC_Left : PySem.W.hasDictIn K c_Left = true)
    (iC_Left : PySem.W.isClsIn K c_Left = true)
    (xL_TooFew : K.lookup c_TooFew = some (excClassObj nm_TooFew q_TooFew c_TooFew N_TooFew bs_TooFew [.ref e0_TooFew, .type "ValueError", .type "Exception", .type "BaseException", .type "object"] true sn_TooFew sub_TooFew ab_TooFew col_TooFew dd_TooFew m0_TooFew m1_TooFew m2_TooFew m3_TooFew m5_TooFew "ValueError.__new__"))
    (sa_TooFew : PySem.W.findIn K (.ref c_TooFew) "__setattr__" = some (some (.builtin "object.__setattr__")))
    (ga_TooFew : PySem.W.findIn K (.ref c_TooFew) "__getattribute__" = some (some (.builtin "BaseException.__getattribute__")))
    (gg_TooFew : PySem.W.findIn K (.ref c_TooFew) "__getattr__" = some none)
    (nf_TooFew : PySem.W.findIn K (.ref c_TooFew) "due" = some none)
    (ti_TooFew : PySem.W.typeIn K (.ref f_TooFew_init) = some (.type "function"))
    (kc_TooFew : PySem.W.keepIn K (.ref c_TooFew) = true)
    (eC_TooFew : PySem.W.subIn K (.ref c_TooFew) (.type "BaseException") = some true)
    (tC_TooFew : PySem.W.typeIn K (.ref c_TooFew) = some (.type "type"))
    (hC_TooFew : PySem.W.hasDictIn K c_TooFew = true)
    (iC_TooFew : PySem.W.isClsIn K c_TooFew = true)
    (xP_NoBits : PySem.W.excIn K c_NoBits [.type "ValueError", .type "Exception", .type "BaseException", .type "object"] "ValueError.__new__" = true)
    (kc_NoBits : PySem.W.keepIn K (.ref c_NoBits) = true)
    (eC_NoBits : PySem.W.subIn K (.ref c_NoBits) (.type "BaseException") = some true)
    (tC_NoBits : PySem.W.typeIn K (.ref c_NoBits) = some (.type "type"))
    (iC_NoBits : PySem.W.isClsIn K c_NoBits = true)
    (sC_BadBits_BadBits : PySem.W.subIn K (.ref c_BadBits) (.ref c_BadBits) = some true)
    (sC_BadFormat_BadBits : PySem.W.subIn K (.ref c_BadFormat) (.ref c_BadBits) = some false)
    (sC_BadWay_BadBits : PySem.W.subIn K (.ref c_BadWay) (.ref c_BadBits) = some false)
    (sC_Left_BadBits : PySem.W.subIn K (.ref c_Left) (.ref c_BadBits) = some false)
    (sC_NoBits_BadBits : PySem.W.subIn K (.ref c_NoBits) (.ref c_BadBits) = some false)
    (sC_TooFew_BadBits : PySem.W.subIn K (.ref c_TooFew) (.ref c_BadBits) = some false)
    (sC_BadBits_Left : PySem.W.subIn K (.ref c_BadBits) (.ref c_Left) = some false)
    (sC_BadFormat_Left : PySem.W.subIn K (.ref c_BadFormat) (.ref c_Left) = some false)
    (sC_BadWay_Left : PySem.W.subIn K (.ref c_BadWay) (.ref c_Left) = some false)
    (sC_Left_Left : PySem.W.subIn K (.ref c_Left) (.ref c_Left) = some true)
    (sC_NoBits_Left : PySem.W.subIn K (.ref c_NoBits) (.ref c_Left) = some false)
    (sC_TooFew_Left : PySem.W.subIn K (.ref c_TooFew) (.ref c_Left) = some false)
    (sC_BadBits_NoBits : PySem.W.subIn K (.ref c_BadBits) (.ref c_NoBits) = some false)
    (sC_BadFormat_NoBits : PySem.W.subIn K (.ref c_BadFormat) (.ref c_NoBits) = some false)
    (sC_BadWay_NoBits : PySem.W.subIn K (.ref c_BadWay) (.ref c_NoBits) = some false)
    (sC_Left_NoBits : PySem.W.subIn K (.ref c_Left) (.ref c_NoBits) = some false)
    (sC_NoBits_NoBits : PySem.W.subIn K (.ref c_NoBits) (.ref c_NoBits) = some true)
    (sC_TooFew_NoBits : PySem.W.subIn K (.ref c_TooFew) (.ref c_NoBits) = some false)
    (sC_BadBits_TooFew : PySem.W.subIn K (.ref c_BadBits) (.ref c_TooFew) = some false)
    (sC_BadFormat_TooFew : PySem.W.subIn K (.ref c_BadFormat) (.ref c_TooFew) = some false)
    (sC_BadWay_TooFew : PySem.W.subIn K (.ref c_BadWay) (.ref c_TooFew) = some false)
    (sC_Left_TooFew : PySem.W.subIn K (.ref c_Left) (.ref c_TooFew) = some false)
    (sC_NoBits_TooFew : PySem.W.subIn K (.ref c_NoBits) (.ref c_TooFew) = some false)
    (sC_TooFew_TooFew : PySem.W.subIn K (.ref c_TooFew) (.ref c_TooFew) = some true)
    (v_LETTERS : PySem.W.nsIn K mainGlobals "LETTERS" = some (some (.str "abcdefghijklmnopqrstuvwxyz" t_LETTERS)))
    (v_LONGEST_WORD : PySem.W.nsIn K mainGlobals "LONGEST_WORD" = some (some (.int 12 t_LONGEST_WORD)))
    (v_MOST_COMMANDS : PySem.W.nsIn K mainGlobals "MOST_COMMANDS" = some (some (.int 40 t_MOST_COMMANDS)))
    (z_bool : PySem.W.nsIn K mainGlobals "bool" = some none)
    (z_dict : PySem.W.nsIn K mainGlobals "dict" = some none)
    (z_enumerate : PySem.W.nsIn K mainGlobals "enumerate" = some none)
    (z_int : PySem.W.nsIn K mainGlobals "int" = some none)
    (z_isinstance : PySem.W.nsIn K mainGlobals "isinstance" = some none)
    (z_len : PySem.W.nsIn K mainGlobals "len" = some none)
    (z_list : PySem.W.nsIn K mainGlobals "list" = some none)
    (z_max : PySem.W.nsIn K mainGlobals "max" = some none)
    (z_min : PySem.W.nsIn K mainGlobals "min" = some none)
    (z_range : PySem.W.nsIn K mainGlobals "range" = some none)
    (z_sorted : PySem.W.nsIn K mainGlobals "sorted" = some none)
    (z_str : PySem.W.nsIn K mainGlobals "str" = some none)
    (z_tuple : PySem.W.nsIn K mainGlobals "tuple" = some none)
    : ∃ A : Ad, fa = A.f_law ∧ Tx K mg A ∧ ∀ (s : Shared) (v : Value), BindsTo s A.d_law ⟨[v], []⟩ [("_law_script", v)] := by
  have e : fa = f_law := by
    have e := hfa.symm.trans (PySem.W.mg_of X G a_law)
    cases e
    rfl
  have F_is_letters := fun_mk (st := s_is_letters) l_is_letters c_is_letters k_is_letters
  have F_is_bits := fun_mk (st := s_is_bits) l_is_bits c_is_bits k_is_bits
  have F_is_integer := fun_mk (st := s_is_integer) l_is_integer c_is_integer k_is_integer
  have F_is_copy := fun_mk (st := s_is_copy) l_is_copy c_is_copy k_is_copy
  have F_is_letter := fun_mk (st := s_is_letter) l_is_letter c_is_letter k_is_letter
  have F_has_keys := fun_mk (st := s_has_keys) l_has_keys c_has_keys k_has_keys
  have F_are_words := fun_mk (st := s_are_words) l_are_words c_are_words k_are_words
  have F_in_order := fun_mk (st := s_in_order) l_in_order c_in_order k_in_order
  have F_needed := fun_mk (st := s_needed) l_needed c_needed k_needed
  have F_reach := fun_mk (st := s_reach) l_reach c_reach k_reach
  have F_heads_of := fun_mk (st := s_heads_of) l_heads_of c_heads_of k_heads_of
  have F_Format_init := fun_mk (st := s_Format_init) l_Format_init c_Format_init k_Format_init
  have F_Format_has := fun_mk (st := s_Format_has) l_Format_has c_Format_has k_Format_has
  have F_check_way := fun_mk (st := s_check_way) l_check_way c_check_way k_check_way
  have F_written := fun_mk (st := s_written) l_written c_written k_written
  have F_law_start := fun_mk (st := s_law_start) l_law_start c_law_start k_law_start
  have F_law_pull := fun_mk (st := s_law_pull) l_law_pull c_law_pull k_law_pull
  have F_law_alphabet := fun_mk (st := s_law_alphabet) l_law_alphabet c_law_alphabet k_law_alphabet
  have F_law_copies := fun_mk (st := s_law_copies) l_law_copies c_law_copies k_law_copies
  have F_law_leaves := fun_mk (st := s_law_leaves) l_law_leaves c_law_leaves k_law_leaves
  have F_law_plain := fun_mk (st := s_law_plain) l_law_plain c_law_plain k_law_plain
  have F_law_way := fun_mk (st := s_law_way) l_law_way c_law_way k_law_way
  have F_law_copied := fun_mk (st := s_law_copied) l_law_copied c_law_copied k_law_copied
  have F_law_is_int := fun_mk (st := s_law_is_int) l_law_is_int c_law_is_int k_law_is_int
  have F_law_same := fun_mk (st := s_law_same) l_law_same c_law_same k_law_same
  have F_law_put := fun_mk (st := s_law_put) l_law_put c_law_put k_law_put
  have F_can_come := fun_mk (st := s_can_come) l_can_come c_can_come k_can_come
  have F_least_due := fun_mk (st := s_least_due) l_least_due c_least_due k_least_due
  have F_read := fun_mk (st := s_read) l_read c_read k_read
  have F_put_by := fun_mk (st := s_put_by) l_put_by c_put_by k_put_by
  have F_spread := fun_mk (st := s_spread) l_spread c_spread k_spread
  have F_text_of := fun_mk (st := s_text_of) l_text_of c_text_of k_text_of
  have F_law_read := fun_mk (st := s_law_read) l_law_read c_law_read k_law_read
  have F_law_both := fun_mk (st := s_law_both) l_law_both c_law_both k_law_both
  have F_law_lack := fun_mk (st := s_law_lack) l_law_lack c_law_lack k_law_lack
  have F_law_could := fun_mk (st := s_law_could) l_law_could c_law_could k_law_could
  have F_law_parsed := fun_mk (st := s_law_parsed) l_law_parsed c_law_parsed k_law_parsed
  have F_law_changed_holds := fun_mk (st := s_law_changed_holds) l_law_changed_holds c_law_changed_holds k_law_changed_holds
  have F_law := fun_mk (st := s_law) l_law c_law k_law
  have F_BadBits_init := fun_mk (st := s_BadBits_init) l_BadBits_init c_BadBits_init k_BadBits_init
  have F_BadFormat_init := fun_mk (st := s_BadFormat_init) l_BadFormat_init c_BadFormat_init k_BadFormat_init
  have F_BadWay_init := fun_mk (st := s_BadWay_init) l_BadWay_init c_BadWay_init k_BadWay_init
  have F_Left_init := fun_mk (st := s_Left_init) l_Left_init c_Left_init k_Left_init
  have F_TooFew_init := fun_mk (st := s_TooFew_init) l_TooFew_init c_TooFew_init k_TooFew_init
  refine ⟨⟨f_is_letters, PySem.W.fnOf "is_letters" "is_letters" (defArgs s_is_letters) (defBody s_is_letters) (defScope s_is_letters) .none kV_is_letters dc_is_letters pm_is_letters an_is_letters cd_is_letters ct_is_letters, f_is_bits, PySem.W.fnOf "is_bits" "is_bits" (defArgs s_is_bits) (defBody s_is_bits) (defScope s_is_bits) .none kV_is_bits dc_is_bits pm_is_bits an_is_bits cd_is_bits ct_is_bits, f_is_integer, PySem.W.fnOf "is_integer" "is_integer" (defArgs s_is_integer) (defBody s_is_integer) (defScope s_is_integer) .none kV_is_integer dc_is_integer pm_is_integer an_is_integer cd_is_integer ct_is_integer, f_is_copy, PySem.W.fnOf "is_copy" "is_copy" (defArgs s_is_copy) (defBody s_is_copy) (defScope s_is_copy) .none kV_is_copy dc_is_copy pm_is_copy an_is_copy cd_is_copy ct_is_copy, f_is_letter, PySem.W.fnOf "is_letter" "is_letter" (defArgs s_is_letter) (defBody s_is_letter) (defScope s_is_letter) .none kV_is_letter dc_is_letter pm_is_letter an_is_letter cd_is_letter ct_is_letter, f_has_keys, PySem.W.fnOf "has_keys" "has_keys" (defArgs s_has_keys) (defBody s_has_keys) (defScope s_has_keys) .none kV_has_keys dc_has_keys pm_has_keys an_has_keys cd_has_keys ct_has_keys, f_are_words, PySem.W.fnOf "are_words" "are_words" (defArgs s_are_words) (defBody s_are_words) (defScope s_are_words) .none kV_are_words dc_are_words pm_are_words an_are_words cd_are_words ct_are_words, f_in_order, PySem.W.fnOf "in_order" "in_order" (defArgs s_in_order) (defBody s_in_order) (defScope s_in_order) .none kV_in_order dc_in_order pm_in_order an_in_order cd_in_order ct_in_order, f_needed, PySem.W.fnOf "needed" "needed" (defArgs s_needed) (defBody s_needed) (defScope s_needed) .none kV_needed dc_needed pm_needed an_needed cd_needed ct_needed, f_reach, PySem.W.fnOf "reach" "reach" (defArgs s_reach) (defBody s_reach) (defScope s_reach) .none kV_reach dc_reach pm_reach an_reach cd_reach ct_reach, f_heads_of, PySem.W.fnOf "heads_of" "heads_of" (defArgs s_heads_of) (defBody s_heads_of) (defScope s_heads_of) .none kV_heads_of dc_heads_of pm_heads_of an_heads_of cd_heads_of ct_heads_of, f_Format_init, PySem.W.fnOf "__init__" "Format.__init__" (defArgs s_Format_init) (defBody s_Format_init) (defScope s_Format_init) .none kV_Format_init dc_Format_init pm_Format_init an_Format_init cd_Format_init ct_Format_init, f_Format_has, PySem.W.fnOf "has" "Format.has" (defArgs s_Format_has) (defBody s_Format_has) (defScope s_Format_has) .none kV_Format_has dc_Format_has pm_Format_has an_Format_has cd_Format_has ct_Format_has, f_check_way, PySem.W.fnOf "check_way" "check_way" (defArgs s_check_way) (defBody s_check_way) (defScope s_check_way) .none kV_check_way dc_check_way pm_check_way an_check_way cd_check_way ct_check_way, f_written, PySem.W.fnOf "written" "written" (defArgs s_written) (defBody s_written) (defScope s_written) .none kV_written dc_written pm_written an_written cd_written ct_written, f_law_start, PySem.W.fnOf "_law_start" "_law_start" (defArgs s_law_start) (defBody s_law_start) (defScope s_law_start) .none kV_law_start dc_law_start pm_law_start an_law_start cd_law_start ct_law_start, f_law_pull, PySem.W.fnOf "_law_pull" "_law_pull" (defArgs s_law_pull) (defBody s_law_pull) (defScope s_law_pull) .none kV_law_pull dc_law_pull pm_law_pull an_law_pull cd_law_pull ct_law_pull, f_law_alphabet, PySem.W.fnOf "_law_alphabet" "_law_alphabet" (defArgs s_law_alphabet) (defBody s_law_alphabet) (defScope s_law_alphabet) .none kV_law_alphabet dc_law_alphabet pm_law_alphabet an_law_alphabet cd_law_alphabet ct_law_alphabet, f_law_copies, PySem.W.fnOf "_law_copies" "_law_copies" (defArgs s_law_copies) (defBody s_law_copies) (defScope s_law_copies) .none kV_law_copies dc_law_copies pm_law_copies an_law_copies cd_law_copies ct_law_copies, f_law_leaves, PySem.W.fnOf "_law_leaves" "_law_leaves" (defArgs s_law_leaves) (defBody s_law_leaves) (defScope s_law_leaves) .none kV_law_leaves dc_law_leaves pm_law_leaves an_law_leaves cd_law_leaves ct_law_leaves, f_law_plain, PySem.W.fnOf "_law_plain" "_law_plain" (defArgs s_law_plain) (defBody s_law_plain) (defScope s_law_plain) .none kV_law_plain dc_law_plain pm_law_plain an_law_plain cd_law_plain ct_law_plain, f_law_way, PySem.W.fnOf "_law_way" "_law_way" (defArgs s_law_way) (defBody s_law_way) (defScope s_law_way) .none kV_law_way dc_law_way pm_law_way an_law_way cd_law_way ct_law_way, f_law_copied, PySem.W.fnOf "_law_copied" "_law_copied" (defArgs s_law_copied) (defBody s_law_copied) (defScope s_law_copied) .none kV_law_copied dc_law_copied pm_law_copied an_law_copied cd_law_copied ct_law_copied, f_law_is_int, PySem.W.fnOf "_law_is_int" "_law_is_int" (defArgs s_law_is_int) (defBody s_law_is_int) (defScope s_law_is_int) .none kV_law_is_int dc_law_is_int pm_law_is_int an_law_is_int cd_law_is_int ct_law_is_int, f_law_same, PySem.W.fnOf "_law_same" "_law_same" (defArgs s_law_same) (defBody s_law_same) (defScope s_law_same) .none kV_law_same dc_law_same pm_law_same an_law_same cd_law_same ct_law_same, f_law_put, PySem.W.fnOf "_law_put" "_law_put" (defArgs s_law_put) (defBody s_law_put) (defScope s_law_put) .none kV_law_put dc_law_put pm_law_put an_law_put cd_law_put ct_law_put, f_can_come, PySem.W.fnOf "can_come" "can_come" (defArgs s_can_come) (defBody s_can_come) (defScope s_can_come) .none kV_can_come dc_can_come pm_can_come an_can_come cd_can_come ct_can_come, f_least_due, PySem.W.fnOf "least_due" "least_due" (defArgs s_least_due) (defBody s_least_due) (defScope s_least_due) .none kV_least_due dc_least_due pm_least_due an_least_due cd_least_due ct_least_due, f_read, PySem.W.fnOf "read" "read" (defArgs s_read) (defBody s_read) (defScope s_read) .none kV_read dc_read pm_read an_read cd_read ct_read, f_put_by, PySem.W.fnOf "put_by" "put_by" (defArgs s_put_by) (defBody s_put_by) (defScope s_put_by) .none kV_put_by dc_put_by pm_put_by an_put_by cd_put_by ct_put_by, f_spread, PySem.W.fnOf "spread" "spread" (defArgs s_spread) (defBody s_spread) (defScope s_spread) .none kV_spread dc_spread pm_spread an_spread cd_spread ct_spread, f_text_of, PySem.W.fnOf "text_of" "text_of" (defArgs s_text_of) (defBody s_text_of) (defScope s_text_of) .none kV_text_of dc_text_of pm_text_of an_text_of cd_text_of ct_text_of, f_law_read, PySem.W.fnOf "_law_read" "_law_read" (defArgs s_law_read) (defBody s_law_read) (defScope s_law_read) .none kV_law_read dc_law_read pm_law_read an_law_read cd_law_read ct_law_read, f_law_both, PySem.W.fnOf "_law_both" "_law_both" (defArgs s_law_both) (defBody s_law_both) (defScope s_law_both) .none kV_law_both dc_law_both pm_law_both an_law_both cd_law_both ct_law_both, f_law_lack, PySem.W.fnOf "_law_lack" "_law_lack" (defArgs s_law_lack) (defBody s_law_lack) (defScope s_law_lack) .none kV_law_lack dc_law_lack pm_law_lack an_law_lack cd_law_lack ct_law_lack, f_law_could, PySem.W.fnOf "_law_could" "_law_could" (defArgs s_law_could) (defBody s_law_could) (defScope s_law_could) .none kV_law_could dc_law_could pm_law_could an_law_could cd_law_could ct_law_could, f_law_parsed, PySem.W.fnOf "_law_parsed" "_law_parsed" (defArgs s_law_parsed) (defBody s_law_parsed) (defScope s_law_parsed) .none kV_law_parsed dc_law_parsed pm_law_parsed an_law_parsed cd_law_parsed ct_law_parsed, f_law_changed_holds, PySem.W.fnOf "_law_changed_holds" "_law_changed_holds" (defArgs s_law_changed_holds) (defBody s_law_changed_holds) (defScope s_law_changed_holds) .none kV_law_changed_holds dc_law_changed_holds pm_law_changed_holds an_law_changed_holds cd_law_changed_holds ct_law_changed_holds, f_law, PySem.W.fnOf "law" "law" (defArgs s_law) (defBody s_law) (defScope s_law) .none kV_law dc_law pm_law an_law cd_law ct_law, f_BadBits_init, PySem.W.fnOf "__init__" "BadBits.__init__" (defArgs s_BadBits_init) (defBody s_BadBits_init) (defScope s_BadBits_init) .none kV_BadBits_init dc_BadBits_init pm_BadBits_init an_BadBits_init cd_BadBits_init ct_BadBits_init, f_BadFormat_init, PySem.W.fnOf "__init__" "BadFormat.__init__" (defArgs s_BadFormat_init) (defBody s_BadFormat_init) (defScope s_BadFormat_init) .none kV_BadFormat_init dc_BadFormat_init pm_BadFormat_init an_BadFormat_init cd_BadFormat_init ct_BadFormat_init, f_BadWay_init, PySem.W.fnOf "__init__" "BadWay.__init__" (defArgs s_BadWay_init) (defBody s_BadWay_init) (defScope s_BadWay_init) .none kV_BadWay_init dc_BadWay_init pm_BadWay_init an_BadWay_init cd_BadWay_init ct_BadWay_init, f_Left_init, PySem.W.fnOf "__init__" "Left.__init__" (defArgs s_Left_init) (defBody s_Left_init) (defScope s_Left_init) .none kV_Left_init dc_Left_init pm_Left_init an_Left_init cd_Left_init ct_Left_init, f_TooFew_init, PySem.W.fnOf "__init__" "TooFew.__init__" (defArgs s_TooFew_init) (defBody s_TooFew_init) (defScope s_TooFew_init) .none kV_TooFew_init dc_TooFew_init pm_TooFew_init an_TooFew_init cd_TooFew_init ct_TooFew_init, c_BadBits, c_BadFormat, c_BadWay, c_Format, c_Left, c_NoBits, c_TooFew, t_LETTERS, t_LONGEST_WORD, t_MOST_COMMANDS⟩, e, ?_, fun s v => .of_eq rfl⟩
  exact ⟨F_is_letters,
    PySem.W.mg_of X G a_is_letters,
    F_is_letters.binds (ps := ["thing"]) (fun _ _ _ _ _ _ us hl => match us, hl with | [_], _ => rfl),
    F_is_bits,
    PySem.W.mg_of X G a_is_bits,
    F_is_bits.binds (ps := ["thing"]) (fun _ _ _ _ _ _ us hl => match us, hl with | [_], _ => rfl),
    F_is_integer,
    PySem.W.mg_of X G a_is_integer,
    F_is_integer.binds (ps := ["thing"]) (fun _ _ _ _ _ _ us hl => match us, hl with | [_], _ => rfl),
    F_is_copy,
    PySem.W.mg_of X G a_is_copy,
    F_is_copy.binds (ps := ["thing"]) (fun _ _ _ _ _ _ us hl => match us, hl with | [_], _ => rfl),
    F_is_letter,
    PySem.W.mg_of X G a_is_letter,
    F_is_letter.binds (ps := ["thing"]) (fun _ _ _ _ _ _ us hl => match us, hl with | [_], _ => rfl),
    F_has_keys,
    PySem.W.mg_of X G a_has_keys,
    F_has_keys.binds (ps := ["letters", "thing"]) (fun _ _ _ _ _ _ us hl => match us, hl with | [_, _], _ => rfl),
    F_are_words,
    PySem.W.mg_of X G a_are_words,
    F_are_words.binds (ps := ["letters", "thing"]) (fun _ _ _ _ _ _ us hl => match us, hl with | [_, _], _ => rfl),
    F_in_order,
    PySem.W.mg_of X G a_in_order,
    F_in_order.binds (ps := ["letters", "table"]) (fun _ _ _ _ _ _ us hl => match us, hl with | [_, _], _ => rfl),
    F_needed,
    PySem.W.mg_of X G a_needed,
    F_needed.binds (ps := ["command"]) (fun _ _ _ _ _ _ us hl => match us, hl with | [_], _ => rfl),
    F_reach,
    PySem.W.mg_of X G a_reach,
    F_reach.binds (ps := ["command"]) (fun _ _ _ _ _ _ us hl => match us, hl with | [_], _ => rfl),
    F_heads_of,
    PySem.W.mg_of X G a_heads_of,
    F_heads_of.binds (ps := ["words"]) (fun _ _ _ _ _ _ us hl => match us, hl with | [_], _ => rfl),
    F_Format_init,
    F_Format_init.binds (ps := ["self", "letters", "words"]) (fun _ _ _ _ _ _ us hl => match us, hl with | [_, _, _], _ => rfl),
    F_Format_has,
    F_Format_has.binds (ps := ["self", "thing"]) (fun _ _ _ _ _ _ us hl => match us, hl with | [_, _], _ => rfl),
    F_check_way,
    PySem.W.mg_of X G a_check_way,
    F_check_way.binds (ps := ["coding", "way"]) (fun _ _ _ _ _ _ us hl => match us, hl with | [_, _], _ => rfl),
    F_written,
    PySem.W.mg_of X G a_written,
    F_written.binds (ps := ["coding", "way"]) (fun _ _ _ _ _ _ us hl => match us, hl with | [_, _], _ => rfl),
    F_law_start,
    PySem.W.mg_of X G a_law_start,
    F_law_start.binds (ps := ["_law_script"]) (fun _ _ _ _ _ _ us hl => match us, hl with | [_], _ => rfl),
    F_law_pull,
    PySem.W.mg_of X G a_law_pull,
    F_law_pull.binds (ps := ["_law_state", "_law_many"]) (fun _ _ _ _ _ _ us hl => match us, hl with | [_, _], _ => rfl),
    F_law_alphabet,
    PySem.W.mg_of X G a_law_alphabet,
    F_law_alphabet.binds (ps := ["_law_state", "_law_many"]) (fun _ _ _ _ _ _ us hl => match us, hl with | [_, _], _ => rfl),
    F_law_copies,
    PySem.W.mg_of X G a_law_copies,
    F_law_copies.binds (ps := ["_law_state", "_law_many", "_law_length", "_law_distance"]) (fun _ _ _ _ _ _ us hl => match us, hl with | [_, _, _, _], _ => rfl),
    F_law_leaves,
    PySem.W.mg_of X G a_law_leaves,
    F_law_leaves.binds (ps := ["_law_state", "_law_many"]) (fun _ _ _ _ _ _ us hl => match us, hl with | [_, _], _ => rfl),
    F_law_plain,
    PySem.W.mg_of X G a_law_plain,
    F_law_plain.binds (ps := ["_law_state", "_law_letters", "_law_copy_keys"]) (fun _ _ _ _ _ _ us hl => match us, hl with | [_, _, _], _ => rfl),
    F_law_way,
    PySem.W.mg_of X G a_law_way,
    F_law_way.binds (ps := ["_law_state", "_law_plain_here", "_law_size"]) (fun _ _ _ _ _ _ us hl => match us, hl with | [_, _, _], _ => rfl),
    F_law_copied,
    PySem.W.mg_of X G a_law_copied,
    F_law_copied.binds (ps := ["_law_table"]) (fun _ _ _ _ _ _ us hl => match us, hl with | [_], _ => rfl),
    F_law_is_int,
    PySem.W.mg_of X G a_law_is_int,
    F_law_is_int.binds (ps := ["_law_told"]) (fun _ _ _ _ _ _ us hl => match us, hl with | [_], _ => rfl),
    F_law_same,
    PySem.W.mg_of X G a_law_same,
    F_law_same.binds (ps := ["_law_told", "_law_due"]) (fun _ _ _ _ _ _ us hl => match us, hl with | [_, _], _ => rfl),
    F_law_put,
    PySem.W.mg_of X G a_law_put,
    F_law_put.binds (ps := ["_law_keys"]) (fun _ _ _ _ _ _ us hl => match us, hl with | [_], _ => rfl),
    F_can_come,
    PySem.W.mg_of X G a_can_come,
    F_can_come.binds (ps := ["coding", "head", "many"]) (fun _ _ _ _ _ _ us hl => match us, hl with | [_, _, _], _ => rfl),
    F_least_due,
    PySem.W.mg_of X G a_least_due,
    F_least_due.binds (ps := ["coding", "head", "many"]) (fun _ _ _ _ _ _ us hl => match us, hl with | [_, _, _], _ => rfl),
    F_read,
    PySem.W.mg_of X G a_read,
    F_read.binds (ps := ["coding", "bits"]) (fun _ _ _ _ _ _ us hl => match us, hl with | [_, _], _ => rfl),
    F_put_by,
    PySem.W.mg_of X G a_put_by,
    F_put_by.binds (ps := ["command", "text"]) (fun _ _ _ _ _ _ us hl => match us, hl with | [_, _], _ => rfl),
    F_spread,
    PySem.W.mg_of X G a_spread,
    F_spread.binds (ps := ["coding", "way"]) (fun _ _ _ _ _ _ us hl => match us, hl with | [_, _], _ => rfl),
    F_text_of,
    PySem.W.mg_of X G a_text_of,
    F_text_of.binds (ps := ["coding", "bits"]) (fun _ _ _ _ _ _ us hl => match us, hl with | [_, _], _ => rfl),
    F_law_read,
    PySem.W.mg_of X G a_law_read,
    F_law_read.binds (ps := ["_law_made", "_law_row", "_law_puts"]) (fun _ _ _ _ _ _ us hl => match us, hl with | [_, _, _], _ => rfl),
    F_law_both,
    PySem.W.mg_of X G a_law_both,
    F_law_both.binds (ps := ["_law_made", "_law_row", "_law_due"]) (fun _ _ _ _ _ _ us hl => match us, hl with | [_, _, _], _ => rfl),
    F_law_lack,
    PySem.W.mg_of X G a_law_lack,
    F_law_lack.binds (ps := ["_law_plain_here", "_law_head", "_law_many"]) (fun _ _ _ _ _ _ us hl => match us, hl with | [_, _, _], _ => rfl),
    F_law_could,
    PySem.W.mg_of X G a_law_could,
    F_law_could.binds (ps := ["_law_plain_here", "_law_head", "_law_many"]) (fun _ _ _ _ _ _ us hl => match us, hl with | [_, _, _], _ => rfl),
    F_law_parsed,
    PySem.W.mg_of X G a_law_parsed,
    F_law_parsed.binds (ps := ["_law_plain_here", "_law_row"]) (fun _ _ _ _ _ _ us hl => match us, hl with | [_, _], _ => rfl),
    F_law_changed_holds,
    PySem.W.mg_of X G a_law_changed_holds,
    F_law_changed_holds.binds (ps := ["_law_made", "_law_plain_here", "_law_row", "_law_at", "_law_items"]) (fun _ _ _ _ _ _ us hl => match us, hl with | [_, _, _, _, _], _ => rfl),
    F_law,
    PySem.W.mg_of X G a_law,
    F_law.binds (ps := ["_law_script"]) (fun _ _ _ _ _ _ us hl => match us, hl with | [_], _ => rfl),
    ⟨fun s us ws _ h1 h2 => match us, ws, h1, h2 with | [], [_, _], _, _ => .of_eq rfl, fun r1 r2 => by
      unfold ord_read_bits_coding
      rcases r2 with _ | ⟨p0, r2⟩
      · exact .nil
      rcases r2 with _ | ⟨p1, r2⟩
      · exact .cons p0 (.nil)
      rcases r2 with _ | ⟨p2, r2⟩
      · exact .cons p1 (.cons p0 (.nil))
      · exact .cons p0 (.cons p1 (.cons p2 (r2)))⟩,
    ⟨fun s us ws _ h1 h2 => match us, ws, h1, h2 with | [], [_, _], _, _ => .of_eq rfl, fun r1 r2 => by
      unfold ord_text_of_bits_coding
      rcases r2 with _ | ⟨p0, r2⟩
      · exact .nil
      rcases r2 with _ | ⟨p1, r2⟩
      · exact .cons p0 (.nil)
      rcases r2 with _ | ⟨p2, r2⟩
      · exact .cons p1 (.cons p0 (.nil))
      · exact .cons p0 (.cons p1 (.cons p2 (r2)))⟩,
    ⟨⟨pg_Format, hd_Format, po_Format, sa_Format⟩, ha_Format, hn_Format, ht_Format, hm_Format⟩,
    ⟨mk_Format, a_Format_init, i_Format, kc_Format⟩,
    PySem.W.mg_of X G n_Format,
    na_by_word,
    na_coded_words,
    na_copy_list,
    na_heads,
    na_letters,
    na_longest,
    na_order,
    na_prices,
    na_window,
    ⟨a_Format_has, i_Format_has, k_Format_has⟩,
    ⟨⟨nm_BadBits, q_BadBits, N_BadBits, bs_BadBits, _, sn_BadBits, sub_BadBits, ab_BadBits, col_BadBits, dd_BadBits, m0_BadBits, m1_BadBits, m2_BadBits, m3_BadBits, m5_BadBits, xL_BadBits, by first | rfl | decide +kernel⟩, sa_BadBits, eC_BadBits, tC_BadBits, kc_BadBits⟩,
    ⟨ga_BadBits, gg_BadBits, eC_BadBits, hC_BadBits⟩,
    nf_BadBits,
    a_BadBits_init,
    ti_BadBits,
    F_BadBits_init,
    F_BadBits_init.binds (ps := ["self", "at"]) (fun _ _ _ _ _ _ us hl => match us, hl with | [_, _], _ => rfl),
    PySem.W.mg_of X G n_BadBits,
    ⟨⟨nm_BadFormat, q_BadFormat, N_BadFormat, bs_BadFormat, _, sn_BadFormat, sub_BadFormat, ab_BadFormat, col_BadFormat, dd_BadFormat, m0_BadFormat, m1_BadFormat, m2_BadFormat, m3_BadFormat, m5_BadFormat, xL_BadFormat, by first | rfl | decide +kernel⟩, sa_BadFormat, eC_BadFormat, tC_BadFormat, kc_BadFormat⟩,
    ⟨ga_BadFormat, gg_BadFormat, eC_BadFormat, hC_BadFormat⟩,
    nf_BadFormat,
    a_BadFormat_init,
    ti_BadFormat,
    F_BadFormat_init,
    F_BadFormat_init.binds (ps := ["self", "part"]) (fun _ _ _ _ _ _ us hl => match us, hl with | [_, _], _ => rfl),
    PySem.W.mg_of X G n_BadFormat,
    ⟨⟨nm_BadWay, q_BadWay, N_BadWay, bs_BadWay, _, sn_BadWay, sub_BadWay, ab_BadWay, col_BadWay, dd_BadWay, m0_BadWay, m1_BadWay, m2_BadWay, m3_BadWay, m5_BadWay, xL_BadWay, by first | rfl | decide +kernel⟩, sa_BadWay, eC_BadWay, tC_BadWay, kc_BadWay⟩,
    ⟨ga_BadWay, gg_BadWay, eC_BadWay, hC_BadWay⟩,
    nf_BadWay,
    a_BadWay_init,
    ti_BadWay,
    F_BadWay_init,
    F_BadWay_init.binds (ps := ["self", "at"]) (fun _ _ _ _ _ _ us hl => match us, hl with | [_, _], _ => rfl),
    PySem.W.mg_of X G n_BadWay,
    ⟨⟨nm_Left, q_Left, N_Left, bs_Left, _, sn_Left, sub_Left, ab_Left, col_Left, dd_Left, m0_Left, m1_Left, m2_Left, m3_Left, m5_Left, xL_Left, by first | rfl | decide +kernel⟩, sa_Left, eC_Left, tC_Left, kc_Left⟩,
    ⟨ga_Left, gg_Left, eC_Left, hC_Left⟩,
    nf_Left,
    a_Left_init,
    ti_Left,
    F_Left_init,
    F_Left_init.binds (ps := ["self", "at"]) (fun _ _ _ _ _ _ us hl => match us, hl with | [_, _], _ => rfl),
    PySem.W.mg_of X G n_Left,
    ⟨⟨nm_TooFew, q_TooFew, N_TooFew, bs_TooFew, _, sn_TooFew, sub_TooFew, ab_TooFew, col_TooFew, dd_TooFew, m0_TooFew, m1_TooFew, m2_TooFew, m3_TooFew, m5_TooFew, xL_TooFew, by first | rfl | decide +kernel⟩, sa_TooFew, eC_TooFew, tC_TooFew, kc_TooFew⟩,
    ⟨ga_TooFew, gg_TooFew, eC_TooFew, hC_TooFew⟩,
    nf_TooFew,
    a_TooFew_init,
    ti_TooFew,
    F_TooFew_init,
    F_TooFew_init.binds (ps := ["self", "due"]) (fun _ _ _ _ _ _ us hl => match us, hl with | [_, _], _ => rfl),
    PySem.W.mg_of X G n_TooFew,
    xP_NoBits,
    kc_NoBits,
    eC_NoBits,
    tC_NoBits,
    PySem.W.mg_of X G n_NoBits,
    exm_two eC_BadBits iC_BadBits tC_BadBits sC_BadBits_BadBits,
    exm_two eC_BadBits iC_BadBits tC_BadBits sC_BadFormat_BadBits,
    exm_two eC_BadBits iC_BadBits tC_BadBits sC_BadWay_BadBits,
    exm_two eC_BadBits iC_BadBits tC_BadBits sC_Left_BadBits,
    exm_two eC_BadBits iC_BadBits tC_BadBits sC_NoBits_BadBits,
    exm_two eC_BadBits iC_BadBits tC_BadBits sC_TooFew_BadBits,
    exm_two eC_Left iC_Left tC_Left sC_BadBits_Left,
    exm_two eC_Left iC_Left tC_Left sC_BadFormat_Left,
    exm_two eC_Left iC_Left tC_Left sC_BadWay_Left,
    exm_two eC_Left iC_Left tC_Left sC_Left_Left,
    exm_two eC_Left iC_Left tC_Left sC_NoBits_Left,
    exm_two eC_Left iC_Left tC_Left sC_TooFew_Left,
    exm_two eC_NoBits iC_NoBits tC_NoBits sC_BadBits_NoBits,
    exm_two eC_NoBits iC_NoBits tC_NoBits sC_BadFormat_NoBits,
    exm_two eC_NoBits iC_NoBits tC_NoBits sC_BadWay_NoBits,
    exm_two eC_NoBits iC_NoBits tC_NoBits sC_Left_NoBits,
    exm_two eC_NoBits iC_NoBits tC_NoBits sC_NoBits_NoBits,
    exm_two eC_NoBits iC_NoBits tC_NoBits sC_TooFew_NoBits,
    exm_two eC_TooFew iC_TooFew tC_TooFew sC_BadBits_TooFew,
    exm_two eC_TooFew iC_TooFew tC_TooFew sC_BadFormat_TooFew,
    exm_two eC_TooFew iC_TooFew tC_TooFew sC_BadWay_TooFew,
    exm_two eC_TooFew iC_TooFew tC_TooFew sC_Left_TooFew,
    exm_two eC_TooFew iC_TooFew tC_TooFew sC_NoBits_TooFew,
    exm_two eC_TooFew iC_TooFew tC_TooFew sC_TooFew_TooFew,
    PySem.W.mg_of X G v_LETTERS,
    PySem.W.mg_of X G v_LONGEST_WORD,
    PySem.W.mg_of X G v_MOST_COMMANDS,
    PySem.W.mg_none_of X G z_bool,
    PySem.W.mg_none_of X G z_dict,
    PySem.W.mg_none_of X G z_enumerate,
    PySem.W.mg_none_of X G z_int,
    PySem.W.mg_none_of X G z_isinstance,
    PySem.W.mg_none_of X G z_len,
    PySem.W.mg_none_of X G z_list,
    PySem.W.mg_none_of X G z_max,
    PySem.W.mg_none_of X G z_min,
    PySem.W.mg_none_of X G z_range,
    PySem.W.mg_none_of X G z_sorted,
    PySem.W.mg_none_of X G z_str,
    PySem.W.mg_none_of X G z_tuple⟩
theorem walk {l : PySem.W.OpenLaw} {q : Program} {loose : List Str} {XP : (Str → Option Value) → Heap → Prop} {YP : World → Heap → Prop} {d : DefRec} {K : Params → PySem.W.Frag} (hlaw : ∀ ns : List Int, ns.length ≤ 63 → ∃ st, F_law [.d (.lsx (ns.map D.int))] [] = .ok (.d (.bl true)) st) (hn : l.most = some 63) (hdf : d.params.defaults = [])
    (hY : ∀ (w : World) (h : Heap), YP w h → (K w.params).In h)
    (F : ∀ (w : World) (mg : Str → Option Value) (fa : Addr) (h : Heap), (K w.params).In h → h.Ns mainGlobals mg → mg d.name = some (.ref fa) →
      ∃ A : Ad, fa = A.f_law ∧ Tx (K w.params) mg A ∧ ∀ (s : Shared) (v : Value), BindsTo s A.d_law ⟨[v], []⟩ [("_law_script", v)]) :
    PySem.W.WalkO q loose XP YP l.row.toRowW d [] (fun f vs => PySem.call f vs) :=
  walk_law (k := 10) (x := "_law_script") hn hdf ⟨rfl, by decide, by decide⟩ hY fun w mg fa h KX G hmg => by
    obtain ⟨A, rfl, T, hb⟩ := F w mg fa h KX G hmg
    exact ⟨A.d_law, hb, fun base _ _ => (ok_law T).imp fun vs H Q E z => law_sp (G := GG (K w.params) w A) hlaw vs H Q E z⟩
end K13

/-! LE -/
set_option Elab.async false
set_option linter.all false
set_option maxRecDepth 100000
set_option maxHeartbeats 2000000
/-! LE: how the by-value functions are reckoned (rules for simp). -/
namespace LV
open PySem L2
section
variable {α β : Type}
def bd (r : R α) (f : α → Sto → R β) : R β := r.bind f
def bs (r : R α) (env : EnvU) (f : α → Sto → RS) : RS := r.thenS env f
def bn (r : RS) (f : EnvU → Sto → RS) : RS := r.bind f
/-- an answer or none -/
def oR (o : Option α) (st : Sto) : R α := match o with
  | some d => .ok d st
  | none => .bad
def oS' (o : Option α) (f : α → RS) : RS := match o with
  | some d => f d
  | none => .bad
variable (a : α) (st : Sto) (env : EnvU)
@[simp] theorem bd_ok (f : α → Sto → R β) : bd (.ok a st) f = f a st := rfl
@[simp] theorem bd_exc (x : Xc) (f : α → Sto → R β) : bd (.exc x st) f = .exc x st := rfl
@[simp] theorem bd_ite {c : Prop} [Decidable c] (r s : R α) (f : α → Sto → R β) : bd (if c then r else s) f = if c then bd r f else bd s f := by split <;> rfl
@[simp] theorem bs_ok (f : α → Sto → RS) : bs (.ok a st) env f = f a st := rfl
@[simp] theorem bs_exc (x : Xc) (f : α → Sto → RS) : bs (.exc x st) env f = .exc x env st := rfl
@[simp] theorem bs_ite {c : Prop} [Decidable c] (r s : R α) (f : α → Sto → RS) : bs (if c then r else s) env f = if c then bs r env f else bs s env f := by split <;> rfl
@[simp] theorem bn_nx (f : EnvU → Sto → RS) : bn (.nx env st) f = f env st := rfl
@[simp] theorem bn_rt (u : U) (f : EnvU → Sto → RS) : bn (.rt u st) f = .rt u st := rfl
@[simp] theorem bn_exc (x : Xc) (f : EnvU → Sto → RS) : bn (.exc x env st) f = .exc x env st := rfl
@[simp] theorem bn_ite {c : Prop} [Decidable c] (r s : RS) (f : EnvU → Sto → RS) : bn (if c then r else s) f = if c then bn r f else bn s f := by split <;> rfl
@[simp] theorem oR_some : oR (some a) st = .ok a st := rfl
@[simp] theorem oR_ite {c : Prop} [Decidable c] (r s : Option α) : oR (if c then r else s) st = if c then oR r st else oR s st := by split <;> rfl
end
section
variable (env : EnvU) (st : Sto) (i j k : Nat) (a b d : D) (x y : Int) (u v : U) (ma mb mc : ME) (ta tb : MT) (r : MA) (m n : MS)
@[simp] theorem e_mC : mC d env st = .ok (.d d) st := rfl
@[simp] theorem e_mV : mV i env st = oR ((env[i]?).join) st := by unfold mV oR; rcases env[i]? with _ | _ | _ <;> rfl
@[simp] theorem e_mB (o : O2) : mB o ma mb env st = bd (ma env st) fun x st1 => bd (mb env st1) fun y st2 => o x y st2 := rfl
@[simp] theorem e_get_d : get st (.d d) = some d := rfl
@[simp] theorem e_get_c : get st (.c k) = (st[k]?).join.map unl := by
  show (match st[k]? with
    | some (some d) => some (unl d)
    | _ => none) = _
  rcases st[k]? with _ | _ | _ <;> rfl
@[simp] theorem e_unl_lst (xs : List D) : unl (.lst xs) = .lst xs := rfl
@[simp] theorem e_unl_dic (xs : List (D × D)) : unl (.dic xs) = .dic xs := rfl
@[simp] theorem e_unl_dlk (xs : List (D × D)) : unl (.dlk xs) = .dic xs := rfl
@[simp] theorem e_unl_obj (c : Str) (xs : List (Str × D)) : unl (.obj c xs) = .obj c xs := rfl
def o2 (f : OD) (x y : Option D) : Option D := match x, y with
  | some a, some b => f a b
  | _, _ => none
@[simp] theorem o2_some (f : OD) : o2 f (some a) (some b) = f a b := rfl
@[simp] theorem e_lift2 (f : OD) : lift2 f u v st = oR ((o2 f (get st u) (get st v)).map U.d) st := by
  unfold lift2 oR o2
  cases get st u with
  | none => rfl
  | some a => cases get st v with
    | none => rfl
    | some b =>
      simp only
      cases f a b <;> rfl
def oB : U → Option Bool
  | .d (.bl b) => some b
  | _ => none
@[simp] theorem oB_bl (b : Bool) : oB (.d (.bl b)) = some b := rfl
@[simp] theorem e_mF : mF ma env st = bd (ma env st) fun x st1 => oR (oB x) st1 := by
  unfold mF bd oR oB
  rcases ma env st with ⟨u, s⟩ | _ | _ <;> try rfl
  rcases u with d | _ | _ <;> try rfl
  cases d <;> rfl
@[simp] theorem e_tTr : tTr ma env st = bd (ma env st) fun u st1 => oR ((get st1 u).bind tru) st1 := by
  unfold tTr bd oR
  cases ma env st with
  | bad => rfl
  | exc _ _ => rfl
  | ok u s =>
    simp only [R.bind]
    cases get s u with
    | none => rfl
    | some d =>
      simp only [Option.bind]
      cases tru d <;> rfl
@[simp] theorem e_tAn : tAn ta tb env st = bd (ta env st) fun x st1 => if x = true then tb env st1 else .ok false st1 := rfl
@[simp] theorem e_tOr : tOr' ta tb env st = bd (ta env st) fun x st1 => if x = true then .ok true st1 else tb env st1 := rfl
@[simp] theorem e_tNo : tNo ta env st = bd (ta env st) fun x st1 => .ok (!x) st1 := rfl
@[simp] theorem e_vAn : vAn ma mb env st = bd (ma env st) fun x st1 => bd (oR (oB x) st1) fun c st2 => if c = true then mb env st2 else .ok (.d (.bl false)) st2 := by
  unfold vAn bd
  rcases ma env st with ⟨u, s⟩ | _ | _ <;> try rfl
  rcases u with d | _ | _ <;> try rfl
  cases d <;> try rfl
  rename_i c
  cases c <;> rfl
@[simp] theorem e_vOr : vOr ma mb env st = bd (ma env st) fun x st1 => bd (oR (oB x) st1) fun c st2 => if c = true then .ok (.d (.bl true)) st2 else mb env st2 := by
  unfold vOr bd
  rcases ma env st with ⟨u, s⟩ | _ | _ <;> try rfl
  rcases u with d | _ | _ <;> try rfl
  cases d <;> try rfl
  rename_i c
  cases c <;> rfl
@[simp] theorem e_vNo : vNo ma env st = bd (ma env st) fun x st1 => bd (oR (oB x) st1) fun c st2 => .ok (.d (.bl (!c))) st2 := by
  unfold vNo bd
  rcases ma env st with ⟨u, s⟩ | _ | _ <;> try rfl
  rcases u with d | _ | _ <;> try rfl
  cases d <;> rfl
@[simp] theorem e_aN : aN env st = .ok [] st := rfl
@[simp] theorem e_aC : aC ma r env st = bd (ma env st) fun x st1 => bd (r env st1) fun xs st2 => .ok (x :: xs) st2 := rfl
@[simp] theorem e_mTup : mTup r env st = bd (r env st) fun us st1 => oR ((datas us).bind fun ds => if ds.length ≤ sizeL then some (.d (.tup ds)) else none) st1 := by
  unfold mTup bd oR
  cases r env st with
  | bad => rfl
  | exc _ _ => rfl
  | ok us s =>
    simp only [R.bind]
    cases datas us with
    | none => rfl
    | some ds =>
      simp only [Option.bind]
      by_cases h : ds.length ≤ sizeL <;> simp only [h, if_true, if_false]
@[simp] theorem e_nLst : nLst r env st = bd (r env st) fun us st1 => oR ((datas us).bind fun ds => if ds.length ≤ sizeL then some (.lst ds) else none) st1 := by
  unfold nLst bd oR
  cases r env st with
  | bad => rfl
  | exc _ _ => rfl
  | ok us s =>
    simp only [R.bind]
    cases datas us with
    | none => rfl
    | some ds =>
      simp only [Option.bind]
      by_cases h : ds.length ≤ sizeL <;> simp only [h, if_true, if_false]
@[simp] theorem e_mCl (q : MN) : mCl q env st = bd (q env st) fun d st1 => .ok (.c st1.length) (st1 ++ [some d]) := rfl
@[simp] theorem e_mFz (q : MN) : mFz q env st = bd (q env st) fun d st1 => if noDic d = true then .ok (.d d) st1 else .bad := rfl
@[simp] theorem e_noDic_lst (xs : List D) : noDic (.lst xs) = true := rfl
@[simp] theorem e_mFrz : mFrz ma env st = bd (ma env st) fun u st1 => bd (oR (fzU u st1) st1) fun p _ => .ok (.d p.1) p.2 := by
  unfold mFrz bd oR
  cases ma env st with
  | bad => rfl
  | exc _ _ => rfl
  | ok u s =>
    simp only [R.bind]
    cases fzU u s <;> rfl
@[simp] theorem e_fzU_d : fzU (.d d) st = some (d, st) := rfl
@[simp] theorem e_mFn (f : List D → Option D) : mFn f r env st = bd (r env st) fun us st1 => oR (((gets st1 us).bind f).map U.d) st1 := by
  unfold mFn bd oR
  cases r env st with
  | bad => rfl
  | exc _ _ => rfl
  | ok us s =>
    simp only [R.bind, liftN]
    cases gets s us with
    | none => rfl
    | some ds =>
      simp only [Option.bind]
      cases f ds <;> rfl
@[simp] theorem e_nFn (f : List D → Option (List D)) : nFn f r env st = bd (r env st) fun us st1 => oR (((gets st1 us).bind f).map D.lst) st1 := by
  unfold nFn bd oR
  cases r env st with
  | bad => rfl
  | exc _ _ => rfl
  | ok us s =>
    simp only [R.bind, liftL]
    cases gets s us with
    | none => rfl
    | some ds =>
      simp only [Option.bind]
      cases f ds <;> rfl
@[simp] theorem e_gets_nil : gets st [] = some [] := rfl
def cons2 (x : Option D) (xs : Option (List D)) : Option (List D) := match x, xs with
  | some x, some xs => some (x :: xs)
  | _, _ => none
@[simp] theorem cons2_some (x : D) (xs : List D) : cons2 (some x) (some xs) = some (x :: xs) := rfl
@[simp] theorem e_gets_cons (us : List U) : gets st (u :: us) = cons2 (get st u) (gets st us) := rfl
@[simp] theorem e_datas_nil : datas [] = some [] := rfl
@[simp] theorem e_datas_cons (us : List U) : datas (.d d :: us) = (datas us).map (d :: ·) := rfl
@[simp] theorem e_mIsi (T : String) : mIsi T ma env st = bd (ma env st) fun u st1 => oR (((get st1 u).bind tyD).map fun t => U.d (.bl (isB t T))) st1 := by
  unfold mIsi bd oR
  cases ma env st with
  | bad => rfl
  | exc _ _ => rfl
  | ok u s =>
    simp only [R.bind]
    cases get s u with
    | none => rfl
    | some d =>
      simp only [Option.bind]
      cases tyD d <;> rfl
/-! statements -/
@[simp] theorem e_sNx : sNx env st = .nx env st := rfl
@[simp] theorem e_sSeq : sSeq m n env st = bn (m env st) fun e s => n e s := rfl
@[simp] theorem e_sIf : sIf ta m n env st = bs (ta env st) env fun b st1 => if b = true then m env st1 else n env st1 := rfl
@[simp] theorem e_sRet : sRet ma env st = bs (ma env st) env fun u st1 => .rt u st1 := rfl
@[simp] theorem e_sExpr : sExpr ma env st = bs (ma env st) env fun _ st1 => .nx env st1 := rfl
@[simp] theorem e_sAsg (t : MG) : sAsg ma t env st = bs (ma env st) env fun u st1 => t u env st1 := rfl
@[simp] theorem e_sSet : sSet i ma env st = bs (ma env st) env fun u st1 => .nx (env.set i (some u)) st1 := rfl
@[simp] theorem e_gN : gN i u env st = .nx (env.set i (some u)) st := rfl
@[simp] theorem e_sFor (it : MI) (t : MG) : sFor it t m env st = bs (it env st) env fun ds st1 => forGo t m (ds.map U.d) env st1 := rfl
@[simp] theorem e_fin_d (k : Nat) : fin k (.rt (.d d) st) = .ok (.d d) (st.take k) := rfl
@[simp] theorem e_fin_exc (k : Nat) (x : Xc) : fin k (.exc x env st) = .exc x (st.take k) := rfl
@[simp] theorem e_fin_ite (k : Nat) {c : Prop} [Decidable c] (p q : RS) : fin k (if c then p else q) = if c then fin k p else fin k q := by split <;> rfl
/-! numbers and texts -/
@[simp] theorem v_add_i : dAdd (.int x) (.int y) = some (.int (x + y)) := rfl
@[simp] theorem v_sub_i : dSub (.int x) (.int y) = some (.int (x - y)) := rfl
@[simp] theorem v_lt_i : dLt (.int x) (.int y) = some (.bl (decide (x < y))) := rfl
@[simp] theorem v_le_i : dLe (.int x) (.int y) = some (.bl (decide (x ≤ y))) := rfl
@[simp] theorem v_gt_i : dGt (.int x) (.int y) = some (.bl (decide (y < x))) := rfl
@[simp] theorem v_ge_i : dGe (.int x) (.int y) = some (.bl (decide (y ≤ x))) := rfl
@[simp] theorem v_div_i : dDiv (.int x) (.int y) = if divOk y = true then some (.int (x / y)) else none := rfl
@[simp] theorem v_mod_i : dMod (.int x) (.int y) = if 0 < y then some (.int (x % y)) else none := by unfold dMod dI; by_cases h : 0 < y <;> simp [h]
@[simp] theorem v_mul_i : dMul (.int x) (.int y) = if mulOk x y = true then some (.int (x * y)) else none := rfl
@[simp] theorem v_pow_i : dPow (.int x) (.int y) = if powOk x y = true then some (.int (x ^ y.toNat)) else none := rfl
@[simp] theorem v_shl_i : dShl (.int x) (.int y) = if powOk x y = true then some (.int (x * 2 ^ y.toNat)) else none := rfl
@[simp] theorem v_shr_i : dShr (.int x) (.int y) = if 0 ≤ y then some (.int (x / 2 ^ y.toNat)) else none := by unfold dShr dI; by_cases h : 0 ≤ y <;> simp [h]
@[simp] theorem v_eq_i : dEq (.int x) (.int y) = some (.bl (decide (x = y))) := by
  have h1 : shp (.int x) = true := rfl
  have h2 : shp (.int y) = true := rfl
  have h3 : deq (.int x) (.int y) = decide (x = y) := by
    unfold deq pd PyData.eqv
    first | rfl | (by_cases h : x = y <;> simp [h])
  unfold dEq
  simp [h1, h2, h3]
@[simp] theorem v_eq_s (p q : List Nat) : dEq (.str p) (.str q) = some (.bl (decide (p = q))) := rfl
@[simp] theorem v_ne_s (p q : List Nat) : dNe (.str p) (.str q) = some (.bl (!decide (p = q))) := rfl
@[simp] theorem v_ix_lst (ds : List D) : dIx (.lst ds) (.int x) = L2.atI ds x := rfl
@[simp] theorem v_ix_tup (ds : List D) : dIx (.tup ds) (.int x) = L2.atI ds x := rfl
@[simp] theorem v_fInt : fInt [.int x] = some (.int x) := rfl
@[simp] theorem v_fLn_lst (ds : List D) : fLn [.lst ds] = some (.int ds.length) := rfl
@[simp] theorem v_fLn_lsx (ds : List D) : fLn [.lsx ds] = some (.int ds.length) := rfl
@[simp] theorem v_fLn_tup (ds : List D) : fLn [.tup ds] = some (.int ds.length) := rfl
end
/-! by place -/
section
variable {α : Type} (xs : List α)
theorem atI_nat (n : Nat) : L2.atI xs (n : Int) = xs[n]? := by
  unfold L2.atI L2.ixN
  rw [if_pos (Int.natCast_nonneg n)]
  by_cases h : n < xs.length
  · rw [if_pos (by omega)]; rfl
  · rw [if_neg (by omega), List.getElem?_eq_none (by omega)]; rfl
@[simp] theorem atI_2 : L2.atI xs 2 = xs[2]? := atI_nat xs 2
@[simp] theorem atI_3 : L2.atI xs 3 = xs[3]? := atI_nat xs 3
@[simp] theorem atI_0 : L2.atI xs 0 = xs[0]? := atI_nat xs 0
@[simp] theorem atI_1 : L2.atI xs 1 = xs[1]? := atI_nat xs 1
theorem ixN_nat {m n : Nat} (h : n < m) : L2.ixN m (n : Int) = some n := by
  unfold L2.ixN
  rw [if_pos (Int.natCast_nonneg n), if_pos (by omega)]; rfl
end
def subC (u o i : U) (env : EnvU) (st : Sto) : RS := match u, o, i with
  | .d d, .c k, .d (.int i) => (match st[k]? with
    | some (some (.lst xs)) => (match L2.ixN xs.length i with
      | some j => .nx env (st.set k (some (.lst (xs.set j d))))
      | none => .bad)
    | _ => .bad)
  | _, _, _ => .bad
@[simp] theorem e_gSubC (mo mi : ME) (u : U) (env : EnvU) (st : Sto) : gSubC mo mi u env st = bs (mo env st) env fun o st1 => bs (mi env st1) env fun i st2 => subC u o i env st2 := rfl
theorem subC_at {st : Sto} {k j : Nat} {xs : List D} {i : Int} (h : st[k]? = some (some (.lst xs))) (hj : L2.ixN xs.length i = some j) (d : D) (env : EnvU) : subC (.d d) (.c k) (.d (.int i)) env st = .nx env (st.set k (some (.lst (xs.set j d)))) := by
  unfold subC
  simp only [h, hj]
@[simp] theorem subC_4 (a0 a1 a2 a3 d : D) (env : EnvU) (st : Sto) : subC (.d d) (.c 0) (.d (.int 1)) env (some (.lst [a0, a1, a2, a3]) :: st) = .nx env (some (.lst [a0, d, a2, a3]) :: st) := rfl
@[simp] theorem subC_42 (a0 a1 a2 a3 d : D) (env : EnvU) (st : Sto) : subC (.d d) (.c 0) (.d (.int 2)) env (some (.lst [a0, a1, a2, a3]) :: st) = .nx env (some (.lst [a0, a1, d, a3]) :: st) := rfl
@[simp] theorem subC_43 (a0 a1 a2 a3 d : D) (env : EnvU) (st : Sto) : subC (.d d) (.c 0) (.d (.int 3)) env (some (.lst [a0, a1, a2, a3]) :: st) = .nx env (some (.lst [a0, a1, a2, d]) :: st) := rfl
@[simp] theorem pow_10_18 : powOk 10 18 = true := by decide
theorem natAbs_log {x : Int} {n : Nat} (h : x.natAbs < 2 ^ n) : x.natAbs.log2 ≤ n := by
  by_cases h0 : x.natAbs = 0
  · rw [h0, show Nat.log2 0 = 0 from by decide +kernel]; exact Nat.zero_le _
  · have := (Nat.log2_lt h0).mpr h
    omega
theorem mulOk_of {x y : Int} {a b : Nat} (hx : x.natAbs < 2 ^ a) (hy : y.natAbs < 2 ^ b) (h : a + b < 1000000) : mulOk x y = true := by
  unfold mulOk
  have := natAbs_log hx
  have := natAbs_log hy
  exact decide_eq_true (by omega)
theorem divOk_of {y : Int} {b : Nat} (h0 : 0 < y) (hy : y.natAbs < 2 ^ b) (h : b < 9000) : divOk y = true := by
  unfold divOk
  have := natAbs_log hy
  rw [Bool.and_eq_true]
  exact ⟨decide_eq_true h0, decide_eq_true (by omega)⟩
end LV

/-! LF -/
set_option Elab.async false
set_option linter.all false
set_option maxRecDepth 100000
set_option maxHeartbeats 2000000
/-! LF: calls and loops reckoned. -/
namespace LV
open PySem L2
theorem selOf_ds : ∀ ds : List D, selOf (ds.map U.d) = []
  | [] => rfl
  | _ :: r => selOf_ds r
theorem rens_ds (sel : List Nat) : ∀ ds : List D, rens sel (ds.map U.d) = some (ds.map U.d)
  | [] => rfl
  | d :: r => by
    show (match ren sel (U.d d), rens sel (r.map U.d) with | some x, some xs => some (x :: xs) | _, _ => none) = _
    rw [rens_ds sel r]; rfl
theorem call_d {F : Fm} {n : Nat} {v : D} {ds : List D} {st : Sto} {more : Sto} (h : F (ds.map U.d) [] = .ok (.d v) more) (hn : ds.length = n) : callA F n (ds.map U.d) st = .ok (.d v) (st ++ more) := by
  unfold callA
  rw [if_pos (by simpa using hn), selOf_ds, callU_nil]
  simp only [rens_ds, h]
  rfl
theorem call_dc {F : Fm} {n : Nat} {ds : List D} {st : Sto} {more : Sto} {j : Nat} (h : F (ds.map U.d) [] = .ok (.c j) more) (hn : ds.length = n) : callA F n (ds.map U.d) st = .ok (.c (st.length + j)) (st ++ more) := by
  unfold callA
  rw [if_pos (by simpa using hn), selOf_ds, callU_nil]
  simp only [rens_ds, h]
  rfl
theorem call_dx {F : Fm} {n : Nat} {x : Xc} {ds : List D} {st : Sto} {more : Sto} (h : F (ds.map U.d) [] = .exc x more) (hn : ds.length = n) : callA F n (ds.map U.d) st = .exc x (st ++ more) := by
  unfold callA
  rw [if_pos (by simpa using hn), selOf_ds, callU_nil]
  simp only [rens_ds, h]
/-- the first cell and data handed in -/
theorem call_c0 {F : Fm} {n : Nat} {v : D} {ds : List D} {x : D} {x' : Option D} {rest more : Sto} (h : F (U.c 0 :: ds.map U.d) [some x] = .ok (.d v) (x' :: more)) (hn : ds.length + 1 = n) : callA F n (U.c 0 :: ds.map U.d) (some x :: rest) = .ok (.d v) (x' :: rest ++ more) := by
  unfold callA
  have e1 : selOf (U.c 0 :: ds.map U.d) = [0] := by
    show (if 0 ∈ selOf (ds.map U.d) then selOf (ds.map U.d) else 0 :: selOf (ds.map U.d)) = [0]
    rw [selOf_ds]; rfl
  have e2 : rens [0] (U.c 0 :: ds.map U.d) = some (U.c 0 :: ds.map U.d) := by
    show (match ren [0] (U.c 0), rens [0] (ds.map U.d) with | some x, some xs => some (x :: xs) | _, _ => none) = _
    rw [rens_ds]; rfl
  have e3 : live (some x :: rest) [0] = some [some x] := rfl
  rw [if_pos (by simpa using hn), e1]
  unfold callU
  rw [if_pos (by simp), e2, e3]
  simp only [h]
  rw [if_neg (by simp)]
  simp [unren, putC]
theorem call_c0c {F : Fm} {n : Nat} {ds : List D} {x : D} {x' : Option D} {rest more : Sto} (h : F (U.c 0 :: ds.map U.d) [some x] = .ok (.c 1) (x' :: more)) (hn : ds.length + 1 = n) : callA F n (U.c 0 :: ds.map U.d) (some x :: rest) = .ok (.c (rest.length + 1)) (x' :: rest ++ more) := by
  unfold callA
  have e1 : selOf (U.c 0 :: ds.map U.d) = [0] := by
    show (if 0 ∈ selOf (ds.map U.d) then selOf (ds.map U.d) else 0 :: selOf (ds.map U.d)) = [0]
    rw [selOf_ds]; rfl
  have e2 : rens [0] (U.c 0 :: ds.map U.d) = some (U.c 0 :: ds.map U.d) := by
    show (match ren [0] (U.c 0), rens [0] (ds.map U.d) with | some x, some xs => some (x :: xs) | _, _ => none) = _
    rw [rens_ds]; rfl
  have e3 : live (some x :: rest) [0] = some [some x] := rfl
  rw [if_pos (by simpa using hn), e1]
  unfold callU
  rw [if_pos (by simp), e2, e3]
  simp only [h]
  rw [if_neg (by simp)]
  simp [unren, putC]
section
variable {F : Fm} {n : Nat} {v a b c e : D} {x : D} {x' : Option D} {rest more st : Sto}
theorem call_d1 (h : F [.d a] [] = .ok (.d v) more) : callA F 1 [.d a] st = .ok (.d v) (st ++ more) := call_d (ds := [a]) h rfl
theorem call_d2 (h : F [.d a, .d b] [] = .ok (.d v) more) : callA F 2 [.d a, .d b] st = .ok (.d v) (st ++ more) := call_d (ds := [a, b]) h rfl
theorem call_s2 (h : F [.c 0, .d a] [some x] = .ok (.d v) (x' :: more)) : callA F 2 [.c 0, .d a] (some x :: rest) = .ok (.d v) (x' :: rest ++ more) := call_c0 (ds := [a]) h rfl
theorem call_s1 (h : F [.c 0] [some x] = .ok (.d v) (x' :: more)) : callA F 1 [.c 0] (some x :: rest) = .ok (.d v) (x' :: rest ++ more) := call_c0 (ds := []) h rfl
theorem call_s3 (h : F [.c 0, .d a, .d b] [some x] = .ok (.d v) (x' :: more)) : callA F 3 [.c 0, .d a, .d b] (some x :: rest) = .ok (.d v) (x' :: rest ++ more) := call_c0 (ds := [a, b]) h rfl
theorem call_s4 (h : F [.c 0, .d a, .d b, .d c] [some x] = .ok (.d v) (x' :: more)) : callA F 4 [.c 0, .d a, .d b, .d c] (some x :: rest) = .ok (.d v) (x' :: rest ++ more) := call_c0 (ds := [a, b, c]) h rfl
end
@[simp] theorem e_mCallA (F : Fm) (n : Nat) (r : MA) (env : EnvU) (st : Sto) : mCallA F n r env st = bd (r env st) fun us st1 => callA F n us st1 := rfl
/-- a loop by its invariant -/
theorem forGo_inv {t : MG} {body : MS} {I : Nat → EnvU → Sto → Prop} : ∀ {ds : List D} {i : Nat} {env : EnvU} {st : Sto},
    (∀ j d env st, ds[j]? = some d → I (i + j) env st → ∃ e1 s1 e2 s2, t (.d d) env st = .nx e1 s1 ∧ body e1 s1 = .nx e2 s2 ∧ I (i + j + 1) e2 s2) → I i env st → ∃ e s, forGo t body (ds.map U.d) env st = .nx e s ∧ I (i + ds.length) e s
  | [], i, env, st, _, h => ⟨env, st, rfl, h⟩
  | d :: r, i, env, st, hs, h => by
    obtain ⟨e1, s1, e2, s2, h1, h2, h3⟩ := hs 0 d env st rfl h
    obtain ⟨e, s, h4, h5⟩ := forGo_inv (t := t) (body := body) (I := I) (ds := r) (i := i + 1) (fun j d env st hj hI => by
      obtain ⟨a1, a2, a3, a4, a5, a6, a7⟩ := hs (j + 1) d env st (by simpa using hj) (by rw [show i + (j + 1) = i + 1 + j by omega]; exact hI)
      exact ⟨a1, a2, a3, a4, a5, a6, by rw [show i + 1 + j + 1 = i + (j + 1) + 1 by omega]; exact a7⟩) h3
    refine ⟨e, s, ?_, by rw [show i + (d :: r).length = i + 1 + r.length by simp; omega]; exact h5⟩
    rw [List.map_cons]
    unfold forGo
    simp only [h1, h2, h4]
theorem e_iR1 (r : MA) (env : EnvU) (st : Sto) : iR1 r env st = bd (r env st) fun us st1 => match us with
  | [.d (.int j)] => if rgOk j = true then .ok (rng 0 j.toNat) st1 else .bad
  | _ => .bad := Eq.trans rfl rfl
theorem e_iR2 (r : MA) (env : EnvU) (st : Sto) : iR2 r env st = bd (r env st) fun us st1 => match us with
  | [.d (.int i), .d (.int j)] => if (rgOk i && rgOk j) = true then .ok (rng i (j - i).toNat) st1 else .bad
  | _ => .bad := Eq.trans rfl rfl
theorem rgOk_of {i : Int} (h : -4000000 ≤ i) (h2 : i ≤ 4000000) : rgOk i = true := Nat.ble_eq_true_of_le (by omega)
section
variable (env : EnvU) (st : Sto) (x : Int) (p q : List Nat)
@[simp] theorem v_add_s : dAdd (.str p) (.str q) = if p.length + q.length ≤ sizeL then some (.str (p ++ q)) else none := rfl
@[simp] theorem v_ix_str : dIx (.str p) (.int x) = if p.length ≤ sizeL then (L2.atI p x).map fun c => D.str [c] else none := rfl
@[simp] theorem v_len_str : fLn [.str p] = if p.length ≤ sizeL then some (.int p.length) else none := by
  unfold fLn fLen
  by_cases h : p.length ≤ sizeL
  · simp [h]
  · simp [h, fLenD, fLen]
end
theorem iR1_n {r : MA} {env : EnvU} {st st1 : Sto} {n : Nat} (h : r env st = .ok [.d (.int (n : Int))] st1) (hn : n < 4000000) : iR1 r env st = .ok (rng 0 n) st1 := by
  have hr : rgOk (n : Int) = true := rgOk_of (by omega) (by omega)
  rw [e_iR1, h, bd_ok]
  simp only [hr, if_true, Int.toNat_natCast]
theorem iR2_n {r : MA} {env : EnvU} {st st1 : Sto} {i n : Nat} (h : r env st = .ok [.d (.int (i : Int)), .d (.int ((i + n : Nat) : Int))] st1) (hn : i + n < 4000000) : iR2 r env st = .ok (rng i n) st1 := by
  have hr : rgOk (i : Int) = true := rgOk_of (by omega) (by omega)
  have hr2 : rgOk ((i + n : Nat) : Int) = true := rgOk_of (by omega) (by omega)
  have e : (((i + n : Nat) : Int) - (i : Int)).toNat = n := by omega
  rw [e_iR2, h, bd_ok]
  simp only [hr, hr2, Bool.and_self, if_true, e]
end LV

/-! K13q -/
set_option Elab.async false
set_option linter.all false
set_option maxRecDepth 100000
set_option maxHeartbeats 1000000
namespace K13
open LV
def stD (ns : List Int) (i r s : Int) : D := .lst [.lst (ns.map D.int), .int i, .int r, .int s]
def StA (x : D) : Prop := ∃ (ns : List Int) (i : Nat) (r s : Int), x = stD ns i r s ∧ 0 ≤ r ∧ 0 ≤ s ∧ s < 2147483647
def sNew (s : Int) : Int := (s * 69621 + 11) % 2147483647
def vNew (s m : Int) : Int := (sNew s * 40692 + sNew s / 1009) % 2147483399 / 16 % m
def sMix (s c : Int) : Int := (s * 48271 + c % 2147483629 + 1) % 2147483647
theorem mul_ok (s : Int) (h : 0 ≤ s) (h2 : s < 2147483647) (k : Int) (hk : k.natAbs < 2 ^ 20) : mulOk s k = true := mulOk_of (a := 31) (b := 20) (by omega) hk (by decide)
section
variable (ns : List Int) (i : Nat) (r s m c : Int) (hm : divOk m = true) (hm0 : 0 < m)
include hm hm0
theorem t1 (i : Int) (h : r > 0) : F_law_pull [.c 0, .d (.int m)] [some (stD ns i r s)] = .ok (.d (.int (r % m))) [some (stD ns i (r / m) s)] := by
  unfold F_law_pull fnM m_law_pull stD
  have h1 : ¬ r = 0 := by omega
  simp [h1, h, hm, hm0]
theorem t2 (i : Int) (hi : ¬ i < ns.length) (hs : 0 ≤ s) (hs2 : s < 2147483647) : F_law_pull [.c 0, .d (.int m)] [some (stD ns i 0 s)] = .ok (.d (.int (vNew s m))) [some (stD ns i 0 (sNew s))] := by
  unfold F_law_pull fnM m_law_pull stD
  have h1 := mul_ok s hs hs2 69621 (by decide)
  have h2 := mul_ok ((s * 69621 + 11) % 2147483647) (by omega) (by omega) 40692 (by decide)
  have h3 : divOk 1009 = true := by decide +kernel
  have h4 : divOk 16 = true := by decide +kernel
  simp [hi, hm, hm0, h1, h2, h3, h4, vNew, sNew]
theorem t3 (hc : ns[i]? = some c) (hbig : 1000000000000000000 ≤ c) : F_law_pull [.c 0, .d (.int m)] [some (stD ns i 0 s)] = .ok (.d (.int (c % m))) [some (stD ns ((i + 1 : Nat) : Int) (c / m) s)] := by
  unfold F_law_pull fnM m_law_pull stD
  have hi : (i : Int) < ns.length := by have := (List.getElem?_eq_some_iff.mp hc).1; omega
  have hat : L2.atI (ns.map D.int) (i : Int) = some (.int c) := by rw [atI_nat, List.getElem?_map, hc]; rfl
  have hpos : 0 < c := by omega
  simp [hi, hat, hbig, hm, hm0, hpos]
theorem t4 (hc : ns[i]? = some c) (hbig : ¬ 1000000000000000000 ≤ c) (hs : 0 ≤ s) (hs2 : s < 2147483647) : F_law_pull [.c 0, .d (.int m)] [some (stD ns i 0 s)] = .ok (.d (.int (vNew (sMix s c) m))) [some (stD ns ((i + 1 : Nat) : Int) 0 (sNew (sMix s c)))] := by
  unfold F_law_pull fnM m_law_pull stD
  have hi : (i : Int) < ns.length := by have := (List.getElem?_eq_some_iff.mp hc).1; omega
  have hat : L2.atI (ns.map D.int) (i : Int) = some (.int c) := by rw [atI_nat, List.getElem?_map, hc]; rfl
  have h0 := mul_ok s hs hs2 48271 (by decide)
  have h1 := mul_ok ((s * 48271 + c % 2147483629 + 1) % 2147483647) (by omega) (by omega) 69621 (by decide)
  have h2 := mul_ok (((s * 48271 + c % 2147483629 + 1) % 2147483647 * 69621 + 11) % 2147483647) (by omega) (by omega) 40692 (by decide)
  have h3 : divOk 1009 = true := by decide +kernel
  have h4 : divOk 16 = true := by decide +kernel
  simp [hi, hat, hbig, hm, hm0, h0, h1, h2, h3, h4, vNew, sNew, sMix]
end
theorem sNew_ok (z : Int) : 0 ≤ sNew z ∧ sNew z < 2147483647 := ⟨Int.emod_nonneg _ (by decide), Int.emod_lt_of_pos _ (by decide)⟩
/-- THE DRAW: a number below m -/
theorem pull {x : D} (hx : StA x) {m : Int} (hm0 : 0 < m) (hm1 : m < 1000000) : ∃ v x', StA x' ∧ 0 ≤ v ∧ v < m ∧ F_law_pull [.c 0, .d (.int m)] [some x] = .ok (.d (.int v)) [some x'] := by
  obtain ⟨ns, i, r, s, rfl, hr, hs, hs2⟩ := hx
  have hm : divOk m = true := divOk_of (b := 20) hm0 (by omega) (by decide)
  have hz : ∀ z : Int, 0 ≤ z % m ∧ z % m < m := fun z => ⟨Int.emod_nonneg _ (by omega), Int.emod_lt_of_pos _ hm0⟩
  by_cases h : 0 < r
  · exact ⟨r % m, stD ns i (r / m) s, ⟨ns, i, r / m, s, rfl, Int.ediv_nonneg hr (Int.le_of_lt hm0), hs, hs2⟩, (hz _).1, (hz _).2, t1 ns r s m hm hm0 i h⟩
  · obtain rfl : r = 0 := by omega
    by_cases hi : i < ns.length
    · have hc : ns[i]? = some ns[i] := List.getElem?_eq_getElem hi
      generalize ns[i] = c at hc
      by_cases hb : 1000000000000000000 ≤ c
      · have hc0 : 0 ≤ c := by omega
        exact ⟨c % m, stD ns ((i + 1 : Nat) : Int) (c / m) s, ⟨ns, i + 1, c / m, s, rfl, Int.ediv_nonneg hc0 (Int.le_of_lt hm0), hs, hs2⟩, (hz _).1, (hz _).2, t3 ns i s m c hm hm0 hc hb⟩
      · exact ⟨vNew (sMix s c) m, stD ns ((i + 1 : Nat) : Int) 0 (sNew (sMix s c)), ⟨ns, i + 1, 0, _, rfl, Int.le_refl _, (sNew_ok _).1, (sNew_ok _).2⟩, (hz _).1, (hz _).2, t4 ns i s m c hm hm0 hc hb hs hs2⟩
    · have hi' : ¬ (i : Int) < ns.length := by omega
      exact ⟨vNew s m, stD ns i 0 (sNew s), ⟨ns, i, 0, _, rfl, Int.le_refl _, (sNew_ok _).1, (sNew_ok _).2⟩, (hz _).1, (hz _).2, t2 ns s m hm hm0 i hi' hs hs2⟩
theorem pullA {x : D} (hx : StA x) {m : Int} (hm0 : 0 < m) (hm1 : m < 1000000) : ∃ v x', StA x' ∧ 0 ≤ v ∧ v < m ∧ ∀ rest, callA F_law_pull 2 [.c 0, .d (.int m)] (some x :: rest) = .ok (.d (.int v)) (some x' :: rest) := by
  obtain ⟨v, x', h1, h2, h3, h4⟩ := pull hx hm0 hm1
  exact ⟨v, x', h1, h2, h3, fun rest => by rw [call_s2 h4, List.append_nil]⟩
/-! ### letters -/
def alph : List Nat := [97, 98, 99, 100, 101, 102, 103, 104, 105, 106, 107, 108, 109, 110, 111, 112, 113, 114, 115, 116, 117, 118, 119, 120, 121, 122]
theorem alph_at : ∀ n, n < 26 → alph[n]? = some (97 + n) := by decide
structure Letters (l : List Nat) : Prop where
  asc : l.Pairwise (· < ·)
  az : ∀ c ∈ l, 97 ≤ c ∧ c < 123
theorem alphabet {x : D} (hx : StA x) {n : Nat} (hn : n ≤ 26) : ∃ l x', StA x' ∧ l.length = n ∧ Letters l ∧ F_law_alphabet [.c 0, .d (.int n)] [some x] = .ok (.d (.str l)) [some x'] := by
  have loop := forGo_inv (t := gN 4) (body := b_law_alphabet_0)
    (I := fun k env st => ∃ y l low o4 o5, env = [some (.c 0), some (.d (.int n)), some (.d (.str l)), some (.d (.int low)), o4, o5] ∧ st = [some y] ∧ StA y ∧ l.length = k ∧ l.Pairwise (· < ·) ∧ 0 ≤ low ∧ low ≤ 26 - n + k ∧ ∀ c ∈ l, 97 ≤ c ∧ (c : Int) < 97 + low)
    (ds := rng 0 n) (i := 0) (env := [some (.c 0), some (.d (.int n)), some (.d (.str [])), some (.d (.int 0)), none, none]) (st := [some x]) ?_ ?_
  · obtain ⟨e, s, h1, y, l, low, o4, o5, rfl, rfl, hy, hl, hp, h0, h2, h3⟩ := loop
    rw [rng_length] at hl h2
    refine ⟨l, y, hy, by omega, ⟨hp, fun c hc => ⟨(h3 c hc).1, by have := (h3 c hc).2; omega⟩⟩, ?_⟩
    unfold F_law_alphabet fnM m_law_alphabet
    have hit := iR1_n (r := aC (mV 1) aN) (env := [some (.c 0), some (.d (.int n)), some (.d (.str [])), some (.d (.int 0)), none, none]) (st := [some x]) (n := n) rfl (by omega)
    simp [hit, h1]
  · rintro j d env st hj ⟨y, l, low, o4, o5, rfl, rfl, hy, hl, hp, h0, h2, h3⟩
    obtain ⟨hj1, rfl⟩ := rng_get hj
    obtain ⟨v, y', hy', v0, v1, hcall⟩ := pullA hy (m := 27 - n + j - low) (by omega) (by omega)
    have hat : L2.atI alph (low + v) = some (97 + (low + v).toNat) := by
      have := alph_at (low + v).toNat (by omega)
      rw [← this, ← atI_nat, Int.toNat_of_nonneg (by omega)]
    have hl2 : l.length + 1 ≤ sizeL := by unfold sizeL; omega
    have hal : ¬ sizeL < 26 := by unfold sizeL; omega
    refine ⟨_, _, [some (.c 0), some (.d (.int n)), some (.d (.str (l ++ [97 + (low + v).toNat]))), some (.d (.int (low + v + 1))), some (.d (.int j)), some (.d (.int (low + v)))], [some y'], rfl, ?_, ?_⟩
    · have hat2 := hat
      unfold alph at hat2
      unfold b_law_alphabet_0
      simp [hcall, hat2, hl2, hal]
    · refine ⟨y', _, _, _, _, rfl, rfl, hy', by simp; omega, ?_, by omega, by omega, ?_⟩
      · rw [List.pairwise_append]
        refine ⟨hp, by simp, fun a ha b hb => ?_⟩
        rw [List.mem_singleton] at hb
        subst hb
        have := (h3 a ha).2
        omega
      · intro c hc
        rcases List.mem_append.mp hc with hc | hc
        · have := h3 c hc; omega
        · rw [List.mem_singleton] at hc; subst hc; omega
  · exact ⟨x, [], 0, none, none, rfl, rfl, hx, rfl, .nil, by omega, by omega, by simp⟩
end K13

namespace LV
open PySem
theorem pd_pr (p : Int × Int) : pd (prD p) = .tuple [.int p.1, .int p.2] := rfl
theorem eq_pr (p q : Int × Int) : deq (prD p) (prD q) = decide (p = q) := by
  unfold deq
  rw [pd_pr, pd_pr]
  obtain ⟨a, b⟩ := p
  obtain ⟨c, d⟩ := q
  simp [PyData.eqv, PyData.eqvAll, Bool.decide_and, Bool.beq_eq_decide_eq]
theorem in_pr (p : Int × Int) (cs : List (Int × Int)) : isIn (prD p) (cs.map prD) = decide (p ∈ cs) := by
  unfold isIn
  rw [List.any_map]
  induction cs with
  | nil => simp
  | cons c r ih => simp [eq_pr, ih, eq_comm]
theorem shp_pr (p : Int × Int) : shp (prD p) = true := rfl
theorem plain_prs : ∀ cs : List (Int × Int), plains (cs.map prD) = true
  | [] => rfl
  | c :: r => by
    show (plain (prD c) && plains (r.map prD)) = true
    rw [plain_prs r]; rfl
theorem lay_prs : ∀ cs : List (Int × Int), PyData.canLayAll0 (pds (cs.map prD)) = true
  | [] => rfl
  | c :: r => by
    show (PyData.canLay0 (pd (prD c)) && PyData.canLayAll0 (pds (r.map prD))) = true
    rw [lay_prs r]; rfl
theorem dep_prs : ∀ cs : List (Int × Int), PyData.depthAll (pds (cs.map prD)) ≤ 1
  | [] => Nat.zero_le _
  | c :: r => by
    show max (PyData.depth (pd (prD c))) (PyData.depthAll (pds (r.map prD))) ≤ 1
    exact Nat.max_le.mpr ⟨Nat.le_refl 1, dep_prs r⟩
theorem shp_prs (cs : List (Int × Int)) : shp (.lst (cs.map prD)) = true := by
  show (plains (cs.map prD) && (PyData.canLayAll0 (pds (cs.map prD)) && decide (PyData.depthAll (pds (cs.map prD)) + 1 ≤ 64))) = true
  rw [plain_prs, lay_prs, Bool.true_and, Bool.true_and]
  have := dep_prs cs
  exact decide_eq_true (by omega)
theorem notin_pr (p : Int × Int) (cs : List (Int × Int)) : dNotIn (.tup [.int p.1, .int p.2]) (.lst (cs.map prD)) = some (.bl (!decide (p ∈ cs))) := by
  show (if (shp (prD p) && shp (.lst (cs.map prD))) = true then some (isIn (prD p) (cs.map prD)) else none).map (fun x => D.bl (!x)) = _
  rw [shp_pr, shp_prs, in_pr]
  rfl
@[simp] theorem e_mMeth (T : String) (o : OM) (m : ME) (r : MA) (env : EnvU) (st : Sto) : mMeth T o m r env st = bd (m env st) fun u st1 => if (get st1 u).map (isTy T) = some true then bd (r env st1) fun us st2 => o u us st2 else .bad := by
  unfold mMeth bd
  cases m env st with
  | bad => rfl
  | exc _ _ => rfl
  | ok u s =>
    simp only [R.bind]
    cases get s u with
    | none => rfl
    | some d =>
      by_cases h : isTy T d = true <;> simp [h]
@[simp] theorem isTy_lst (xs : List D) : isTy "list" (.lst xs) = true := rfl
@[simp] theorem isTy_str (x : List Nat) : isTy "str" (.str x) = true := rfl
theorem append_at {st : Sto} {k : Nat} {xs : List D} {d : D} (h : st[k]? = some (some (.lst xs))) (hl : xs.length < sizeL) : oAppend (.c k) [.d d] st = .ok (.d .non) (st.set k (some (.lst (xs ++ [d])))) := by
  unfold oAppend oCell
  simp [h, hl]
end LV

namespace K13
open LV
structure Copies (cs : List (Int × Int)) (m : Nat) : Prop where
  nd : cs.Nodup
  len : cs.length ≤ m
  ok : ∀ p ∈ cs, 2 ≤ p.1 ∧ p.1 ≤ 8 ∧ 1 ≤ p.2 ∧ p.2 ≤ 8
theorem copies {x : D} (hx : StA x) {n a b : Nat} (hn : n ≤ 40) (ha : 2 ≤ a) (ha2 : a ≤ 8) (hb : 1 ≤ b) (hb2 : b ≤ 8) : ∃ cs x', StA x' ∧ Copies cs n ∧ F_law_copies [.c 0, .d (.int n), .d (.int a), .d (.int b)] [some x] = .ok (.d (.lst (cs.map prD))) [some x'] := by
  have loop := forGo_inv (t := gN 5) (body := b_law_copies_0)
    (I := fun k env st => ∃ y cs o5 o6, env = [some (.c 0), some (.d (.int n)), some (.d (.int a)), some (.d (.int b)), some (.c 1), o5, o6] ∧ st = [some y, some (.lst (cs.map prD))] ∧ StA y ∧ Copies cs k)
    (ds := rng 0 n) (i := 0) (env := [some (.c 0), some (.d (.int n)), some (.d (.int a)), some (.d (.int b)), some (.c 1), none, none]) (st := [some x, some (.lst [])]) ?_ ?_
  · obtain ⟨e, s, h1, y, cs, o5, o6, rfl, rfl, hy, hc⟩ := loop
    rw [rng_length, Nat.zero_add] at hc
    refine ⟨cs, y, hy, hc, ?_⟩
    unfold F_law_copies fnM m_law_copies
    have hit := iR1_n (r := aC (mV 1) aN) (env := [some (.c 0), some (.d (.int n)), some (.d (.int a)), some (.d (.int b)), some (.c 1), none, none]) (st := [some x, some (.lst [])]) (n := n) rfl (by omega)
    simp [hit, h1, fzU, isLk]
  · rintro j d env st hj ⟨y, cs, o5, o6, rfl, rfl, hy, hc⟩
    obtain ⟨hj1, rfl⟩ := rng_get hj
    obtain ⟨v, y1, hy1, v0, v1, c1⟩ := pullA hy (m := (a : Int) - 1) (by omega) (by omega)
    obtain ⟨u, y2, hy2, u0, u1, c2⟩ := pullA hy1 (m := (b : Int)) (by omega) (by omega)
    have hs2 : ¬ sizeL < 2 := by unfold sizeL; omega
    have hl : (cs.map prD).length < sizeL := by have := hc.len; rw [List.length_map]; unfold sizeL; omega
    by_cases hm : (2 + v, 1 + u) ∈ cs
    · refine ⟨_, _, [some (.c 0), some (.d (.int n)), some (.d (.int a)), some (.d (.int b)), some (.c 1), some (.d (.int j)), some (.d (.tup [.int (2 + v), .int (1 + u)]))], [some y2, some (.lst (cs.map prD))], rfl, ?_, ⟨y2, cs, _, _, rfl, rfl, hy2, hc.nd, by have := hc.len; omega, hc.ok⟩⟩
      have hni := notin_pr (2 + v, 1 + u) cs
      unfold b_law_copies_0
      simp [c1, c2, hs2, hni, hm]
    · refine ⟨_, _, [some (.c 0), some (.d (.int n)), some (.d (.int a)), some (.d (.int b)), some (.c 1), some (.d (.int j)), some (.d (.tup [.int (2 + v), .int (1 + u)]))], [some y2, some (.lst ((cs ++ [(2 + v, 1 + u)]).map prD))], rfl, ?_, ⟨y2, _, _, _, rfl, rfl, hy2, ?_, by have := hc.len; simp; omega, ?_⟩⟩
      · have hni := notin_pr (2 + v, 1 + u) cs
        have hap := append_at (st := [some y2, some (.lst (cs.map prD))]) (k := 1) (d := .tup [.int (2 + v), .int (1 + u)]) rfl hl
        unfold b_law_copies_0
        simp [c1, c2, hs2, hni, hm, hap, prD]
      · rw [List.nodup_append]
        exact ⟨hc.nd, by simp, fun p hp q hq e => by rw [List.mem_singleton] at hq; subst hq; exact hm (e ▸ hp)⟩
      · intro p hp
        rcases List.mem_append.mp hp with hp | hp
        · exact hc.ok p hp
        · rw [List.mem_singleton] at hp; subst hp; simp only; omega
  · exact ⟨x, [], none, none, rfl, rfl, hx, List.nodup_nil, Nat.zero_le _, by simp⟩
end K13

namespace LV
/-- neither begins the other -/
def Apart (a b : List Nat) : Prop := ¬ a <+: b ∧ ¬ b <+: a
theorem Apart.symm {a b : List Nat} (h : Apart a b) : Apart b a := ⟨h.2, h.1⟩
def kr (w : List Nat) : Nat := 2 ^ (12 - w.length)
def krs (L : List (List Nat)) : Nat := (L.map kr).sum
structure PFree (L : List (List Nat)) : Prop where
  pf : L.Pairwise Apart
  bits : ∀ w ∈ L, ∀ c ∈ w, c = 48 ∨ c = 49
  lo : ∀ w ∈ L, 1 ≤ w.length
  hi : ∀ w ∈ L, w.length ≤ 12
theorem PFree.perm {L M : List (List Nat)} (h : PFree L) (p : L.Perm M) : PFree M :=
  ⟨(p.pairwise_iff fun h => h.symm).mp h.pf, fun w hw => h.bits w (p.mem_iff.mpr hw), fun w hw => h.lo w (p.mem_iff.mpr hw), fun w hw => h.hi w (p.mem_iff.mpr hw)⟩
theorem krs_perm {L M : List (List Nat)} (p : L.Perm M) : krs L = krs M := (p.map kr).sum_nat
theorem apart_app {u w : List Nat} {c : Nat} (h : Apart u w) : Apart u (w ++ [c]) := by
  refine ⟨fun z => ?_, fun z => h.2 ((List.prefix_append w [c]).trans z)⟩
  rcases List.prefix_concat_iff.mp z with e | e
  · exact h.2 (e ▸ List.prefix_append w [c])
  · exact h.1 e
theorem PFree.split {w : List Nat} {L : List (List Nat)} (h : PFree (w :: L)) (hw : w.length ≤ 11) : PFree (L ++ [w ++ [48], w ++ [49]]) := by
  have h1 := List.pairwise_cons.mp h.pf
  refine ⟨?_, ?_, ?_, ?_⟩
  · rw [List.pairwise_append]
    refine ⟨h1.2, ?_, fun a ha b hb => ?_⟩
    · rw [List.pairwise_cons]
      refine ⟨fun b hb => ?_, by simp⟩
      rw [List.mem_singleton] at hb
      subst hb
      refine ⟨fun z => ?_, fun z => ?_⟩ <;> have := z.eq_of_length (by simp) <;> simp at this
    · have := h1.1 a ha
      simp only [List.mem_cons, List.not_mem_nil, or_false] at hb
      rcases hb with rfl | rfl <;> exact apart_app this.symm
  · intro u hu c hc
    rcases List.mem_append.mp hu with hu | hu
    · exact h.bits u (List.mem_cons_of_mem _ hu) c hc
    · simp only [List.mem_cons, List.not_mem_nil, or_false] at hu
      have hb := h.bits w List.mem_cons_self
      rcases hu with rfl | rfl <;> rcases List.mem_append.mp hc with hc | hc
      · exact hb c hc
      · exact .inl (List.mem_singleton.mp hc)
      · exact hb c hc
      · exact .inr (List.mem_singleton.mp hc)
  · intro u hu
    rcases List.mem_append.mp hu with hu | hu
    · exact h.lo u (List.mem_cons_of_mem _ hu)
    · simp only [List.mem_cons, List.not_mem_nil, or_false] at hu
      rcases hu with rfl | rfl <;> simp
  · intro u hu
    rcases List.mem_append.mp hu with hu | hu
    · exact h.hi u (List.mem_cons_of_mem _ hu)
    · simp only [List.mem_cons, List.not_mem_nil, or_false] at hu
      rcases hu with rfl | rfl <;> simp <;> omega
theorem krs_split {w : List Nat} {L : List (List Nat)} (hw : w.length ≤ 11) : krs (L ++ [w ++ [48], w ++ [49]]) = krs (w :: L) := by
  have e : kr w = kr (w ++ [48]) + kr (w ++ [49]) := by
    unfold kr
    simp only [List.length_append, List.length_singleton]
    rw [show 12 - w.length = (12 - (w.length + 1)) + 1 by omega, Nat.pow_succ]
    omega
  unfold krs
  simp [e]
  omega
end LV

namespace LV
/-! ### words and rows of bits: plain laws -/
theorem PFree.sub {L M : List (List Nat)} (h : PFree L) (p : M.Sublist L) : PFree M :=
  ⟨h.pf.sublist p, fun w hw => h.bits w (p.subset hw), fun w hw => h.lo w (p.subset hw), fun w hw => h.hi w (p.subset hw)⟩
theorem krs_cons (a : List Nat) (r : List (List Nat)) : krs (a :: r) = kr a + krs r := by unfold krs; simp
theorem krs_nil : krs [] = 0 := rfl
/-- a word of the row itself is the head -/
theorem krs_self {head : List Nat} : ∀ {row : List (List Nat)}, row.Pairwise Apart → head ∈ row → krs (row.filter (head.isPrefixOf ·)) = kr head
  | [], _, h => by simp at h
  | a :: r, hp, h => by
    have h1 := List.pairwise_cons.mp hp
    by_cases e : a = head
    · subst e
      have h2 : r.filter (a.isPrefixOf ·) = [] := by
        rw [List.filter_eq_nil_iff]
        exact fun b hb hc => (h1.1 b hb).1 (List.isPrefixOf_iff_prefix.mp hc)
      rw [List.filter_cons_of_pos (by simp), h2, krs_cons, krs_nil, Nat.add_zero]
    · have h3 : head ∈ r := by
        rcases List.mem_cons.mp h with h | h
        · exact absurd h.symm e
        · exact h
      have h4 : ¬ head.isPrefixOf a = true := fun hc => (h1.1 head h3).2 (List.isPrefixOf_iff_prefix.mp hc)
      rw [List.filter_cons_of_neg h4]
      exact krs_self h1.2 h3
/-- a word that the head begins goes on with one of two bits -/
theorem head_on {head w : List Nat} (h : head <+: w) (hb : ∀ c ∈ w, c = 48 ∨ c = 49) (hn : head ≠ w) : head ++ [48] <+: w ∧ ¬ head ++ [49] <+: w ∨ head ++ [49] <+: w ∧ ¬ head ++ [48] <+: w := by
  obtain ⟨r, rfl⟩ := h
  cases r with
  | nil => simp at hn
  | cons c r =>
    have hc := hb c (by simp)
    rcases hc with rfl | rfl
    · exact .inl ⟨⟨r, by simp⟩, by rw [List.prefix_append_right_inj]; rintro ⟨s, hs⟩; simp at hs⟩
    · exact .inr ⟨⟨r, by simp⟩, by rw [List.prefix_append_right_inj]; rintro ⟨s, hs⟩; simp at hs⟩
theorem krs_halves {head : List Nat} : ∀ {row : List (List Nat)}, (∀ w ∈ row, ∀ c ∈ w, c = 48 ∨ c = 49) → head ∉ row →
    krs (row.filter (head.isPrefixOf ·)) = krs ((row.filter (head.isPrefixOf ·)).filter ((head ++ [48]).isPrefixOf ·)) + krs ((row.filter (head.isPrefixOf ·)).filter ((head ++ [49]).isPrefixOf ·))
  | [], _, _ => rfl
  | a :: r, hb, hn => by
    have ih := krs_halves (head := head) (row := r) (fun w hw => hb w (List.mem_cons_of_mem _ hw)) (fun h => hn (List.mem_cons_of_mem _ h))
    by_cases hp : head <+: a
    · have e0 : head.isPrefixOf a = true := List.isPrefixOf_iff_prefix.mpr hp
      rw [List.filter_cons_of_pos (p := (head.isPrefixOf ·)) e0]
      rcases head_on hp (hb a List.mem_cons_self) (fun e => hn (e ▸ List.mem_cons_self)) with ⟨h1, h2⟩ | ⟨h1, h2⟩
      · have q1 : (head ++ [48]).isPrefixOf a = true := List.isPrefixOf_iff_prefix.mpr h1
        have q2 : (head ++ [49]).isPrefixOf a = false := Bool.eq_false_iff.mpr fun h => h2 (List.isPrefixOf_iff_prefix.mp h)
        simp only [List.filter_cons, q1, q2, if_true, Bool.false_eq_true, if_false, krs_cons]
        omega
      · have q1 : (head ++ [49]).isPrefixOf a = true := List.isPrefixOf_iff_prefix.mpr h1
        have q2 : (head ++ [48]).isPrefixOf a = false := Bool.eq_false_iff.mpr fun h => h2 (List.isPrefixOf_iff_prefix.mp h)
        simp only [List.filter_cons, q1, q2, if_true, Bool.false_eq_true, if_false, krs_cons]
        omega
    · rw [List.filter_cons_of_neg (p := (head.isPrefixOf ·)) (fun h => hp (List.isPrefixOf_iff_prefix.mp h)), ih]
theorem filter_nil_pre (row : List (List Nat)) : row.filter (([] : List Nat).isPrefixOf ·) = row := by
  rw [List.filter_eq_self]; intro a _; rfl
/-! halves -/
def halve (p : Nat × Nat) : Nat × Nat := if p.1 % 2 = 0 then (p.1 / 2, p.2 / 2) else p
def halves : Nat → Nat × Nat → Nat × Nat
  | 0, p => p
  | n + 1, p => halves n (halve p)
theorem halves_succ : ∀ (n : Nat) (p : Nat × Nat), halves (n + 1) p = halve (halves n p)
  | 0, p => rfl
  | n + 1, p => by rw [halves, halves_succ n (halve p)]; rfl
theorem halves_odd {p : Nat × Nat} (h : p.1 % 2 = 1) : ∀ n, halves n p = p
  | 0 => rfl
  | n + 1 => by
    have : halve p = p := by unfold halve; rw [if_neg (by omega)]
    rw [halves, this, halves_odd h n]
theorem halves_gcd : ∀ (n a : Nat), halves n (a, 2 ^ n) = (a / Nat.gcd a (2 ^ n), 2 ^ n / Nat.gcd a (2 ^ n))
  | 0, a => by simp [halves]
  | n + 1, a => by
    by_cases h : a % 2 = 0
    · obtain ⟨b, rfl⟩ : ∃ b, a = 2 * b := ⟨a / 2, by omega⟩
      have e : halve (2 * b, 2 ^ (n + 1)) = (b, 2 ^ n) := by
        unfold halve
        rw [if_pos h, Nat.pow_succ]
        simp only [Prod.mk.injEq]
        exact ⟨by omega, by omega⟩
      have g : Nat.gcd (2 * b) (2 ^ (n + 1)) = 2 * Nat.gcd b (2 ^ n) := by rw [Nat.pow_succ, Nat.mul_comm (2 ^ n) 2, Nat.gcd_mul_left]
      rw [halves, e, halves_gcd n b, g, Nat.pow_succ, Nat.mul_comm (2 ^ n) 2, Nat.mul_div_mul_left _ _ (by decide), Nat.mul_div_mul_left _ _ (by decide)]
    · have h1 : a % 2 = 1 := by omega
      have g : Nat.gcd a (2 ^ (n + 1)) = 1 := by
        have c2 : Nat.Coprime a 2 := by
          have h4 := Nat.le_of_dvd (by decide) (Nat.gcd_dvd_right a 2)
          have h5 := Nat.gcd_pos_of_pos_right a (show 0 < 2 by decide)
          have h3 := Nat.gcd_dvd_left a 2
          have : Nat.gcd a 2 = 1 ∨ Nat.gcd a 2 = 2 := by omega
          rcases this with e | e
          · exact e
          · rw [e] at h3; omega
        exact Nat.Coprime.pow_right _ c2
      rw [halves_odd (by exact h1), g]; simp
end LV

namespace LV
/-! ### words by their prices -/
/-- the last n bits of a number -/
def bitsOf (c : Nat) : Nat → List Nat
  | 0 => []
  | n + 1 => (48 + c / 2 ^ n % 2) :: bitsOf c n
theorem bitsOf_len (c : Nat) : ∀ n, (bitsOf c n).length = n
  | 0 => rfl
  | n + 1 => by rw [bitsOf, List.length_cons, bitsOf_len c n]
theorem bitsOf_bits (c : Nat) : ∀ n, ∀ b ∈ bitsOf c n, b = 48 ∨ b = 49
  | 0, b, h => by simp [bitsOf] at h
  | n + 1, b, h => by
    rcases List.mem_cons.mp h with rfl | h
    · omega
    · exact bitsOf_bits c n b h
theorem bitsOf_app (d k : Nat) : ∀ m, bitsOf d (m + k) = bitsOf (d / 2 ^ k) m ++ bitsOf d k
  | 0 => by rw [Nat.zero_add]; rfl
  | m + 1 => by
    rw [show m + 1 + k = (m + k) + 1 by omega, bitsOf, bitsOf, List.cons_append, bitsOf_app d k m, Nat.div_div_eq_div_mul, ← Nat.pow_add, Nat.add_comm k m]
def valFrom (a : Nat) (w : List Nat) : Nat := w.foldl (fun a b => 2 * a + (b - 48)) a
theorem valFrom_bits (c : Nat) : ∀ n a, valFrom a (bitsOf c n) = a * 2 ^ n + c % 2 ^ n
  | 0, a => by simp [bitsOf, valFrom, Nat.mod_one]
  | n + 1, a => by
    have h : valFrom a (bitsOf c (n + 1)) = valFrom (2 * a + (48 + c / 2 ^ n % 2 - 48)) (bitsOf c n) := rfl
    rw [h, valFrom_bits c n, Nat.mod_pow_succ, show 48 + c / 2 ^ n % 2 - 48 = c / 2 ^ n % 2 by omega, Nat.add_mul, Nat.pow_succ, Nat.mul_comm 2 a, Nat.mul_assoc, Nat.mul_comm 2 (2 ^ n), Nat.mul_comm (c / 2 ^ n % 2)]
    omega
theorem bitsOf_inj {c d n : Nat} (hc : c < 2 ^ n) (hd : d < 2 ^ n) (h : bitsOf c n = bitsOf d n) : c = d := by
  have h1 := valFrom_bits c n 0
  have h2 := valFrom_bits d n 0
  rw [h, h2, Nat.mod_eq_of_lt hc, Nat.mod_eq_of_lt hd] at h1
  omega
theorem bitsOf_pre {c d m n : Nat} (hc : c < 2 ^ m) (hd : d < 2 ^ n) (h : bitsOf c m <+: bitsOf d n) : m ≤ n ∧ d / 2 ^ (n - m) = c := by
  have hl := h.length_le
  rw [bitsOf_len, bitsOf_len] at hl
  refine ⟨hl, ?_⟩
  have e := bitsOf_app d (n - m) m
  rw [show m + (n - m) = n by omega] at e
  rw [e] at h
  have h2 : bitsOf c m <+: bitsOf (d / 2 ^ (n - m)) m := List.prefix_of_prefix_length_le h (List.prefix_append _ _) (by rw [bitsOf_len, bitsOf_len]; exact Nat.le_refl _)
  have h3 := h2.eq_of_length (by rw [bitsOf_len, bitsOf_len])
  refine (bitsOf_inj hc ?_ h3).symm
  rw [Nat.div_lt_iff_lt_mul (Nat.two_pow_pos _), ← Nat.pow_add, show m + (n - m) = n by omega]
  exact hd
/-- the words of rising prices from a start -/
def canon (S : Nat) : List Nat → List (List Nat)
  | [] => []
  | p :: r => bitsOf (S / 2 ^ (12 - p)) p :: canon (S + 2 ^ (12 - p)) r
def prs (ps : List Nat) : Nat := (ps.map fun p => 2 ^ (12 - p)).sum
theorem prs_cons (p : Nat) (r : List Nat) : prs (p :: r) = 2 ^ (12 - p) + prs r := by unfold prs; simp
theorem prs_perm {L M : List Nat} (p : L.Perm M) : prs L = prs M := (p.map _).sum_nat
theorem krs_prs : ∀ L : List (List Nat), krs L = prs (L.map List.length)
  | [] => rfl
  | a :: r => by rw [List.map_cons, prs_cons, ← krs_prs r]; unfold krs kr; simp
theorem canon_len : ∀ (S : Nat) (ps : List Nat), (canon S ps).map List.length = ps
  | _, [] => rfl
  | S, p :: r => by rw [canon, List.map_cons, canon_len _ r, bitsOf_len]
theorem canon_mem : ∀ {ps : List Nat} {S : Nat}, ps.Pairwise (· ≤ ·) → (∀ p ∈ ps, p ≤ 12) → (∀ p ∈ ps, 2 ^ (12 - p) ∣ S) → S + prs ps ≤ 4096 →
    ∀ w ∈ canon S ps, ∃ q ∈ ps, ∃ T, S ≤ T ∧ 2 ^ (12 - q) ∣ T ∧ T + 2 ^ (12 - q) ≤ 4096 ∧ w = bitsOf (T / 2 ^ (12 - q)) q
  | [], _, _, _, _, _, w, h => by simp [canon] at h
  | p :: r, S, hs, h12, hd, hl, w, h => by
    have hs' := List.pairwise_cons.mp hs
    rw [prs_cons] at hl
    rcases List.mem_cons.mp h with rfl | h
    · exact ⟨p, List.mem_cons_self, S, Nat.le_refl _, hd p List.mem_cons_self, by omega, rfl⟩
    · obtain ⟨q, hq, T, h1, h2, h3, h4⟩ := canon_mem (ps := r) (S := S + 2 ^ (12 - p)) hs'.2 (fun q hq => h12 q (List.mem_cons_of_mem _ hq)) (fun q hq => by
        refine Nat.dvd_add (hd q (List.mem_cons_of_mem _ hq)) (Nat.pow_dvd_pow 2 ?_)
        have := hs'.1 q hq
        omega) (by omega) w h
      exact ⟨q, List.mem_cons_of_mem _ hq, T, Nat.le_trans (Nat.le_add_right _ _) h1, h2, h3, h4⟩
theorem lt_pow {a p : Nat} (hp : p ≤ 12) (h : a * 2 ^ (12 - p) + 2 ^ (12 - p) ≤ 4096) : a < 2 ^ p := by
  have e : 2 ^ p * 2 ^ (12 - p) = 4096 := by rw [← Nat.pow_add, show p + (12 - p) = 12 by omega]
  have : (a + 1) * 2 ^ (12 - p) ≤ 2 ^ p * 2 ^ (12 - p) := by rw [e, Nat.add_mul, Nat.one_mul]; exact h
  exact Nat.le_of_mul_le_mul_right this (Nat.two_pow_pos _)
theorem canon_apart {S T p q : Nat} (hpq : p ≤ q) (hq : q ≤ 12) (hS : 2 ^ (12 - p) ∣ S) (hT : 2 ^ (12 - q) ∣ T) (hST : S + 2 ^ (12 - p) ≤ T) (hl : T + 2 ^ (12 - q) ≤ 4096) : Apart (bitsOf (S / 2 ^ (12 - p)) p) (bitsOf (T / 2 ^ (12 - q)) q) := by
  obtain ⟨a, rfl⟩ := hS
  obtain ⟨b, rfl⟩ := hT
  rw [Nat.mul_div_cancel_left _ (Nat.two_pow_pos _), Nat.mul_div_cancel_left _ (Nat.two_pow_pos _)]
  rw [Nat.mul_comm _ b] at hl hST
  rw [Nat.mul_comm _ a] at hST
  have ha : a < 2 ^ p := lt_pow (by omega) (Nat.le_trans hST (Nat.le_trans (Nat.le_add_right _ _) hl))
  have hb : b < 2 ^ q := lt_pow hq hl
  have main : ¬ bitsOf a p <+: bitsOf b q := fun h => by
    obtain ⟨_, h2⟩ := bitsOf_pre ha hb h
    have e : 2 ^ (12 - p) = 2 ^ (q - p) * 2 ^ (12 - q) := by rw [← Nat.pow_add]; congr 1; omega
    have h3 : (a + 1) * 2 ^ (q - p) ≤ b := by
      refine Nat.le_of_mul_le_mul_right (c := 2 ^ (12 - q)) ?_ (Nat.two_pow_pos _)
      rw [Nat.mul_assoc, ← e, Nat.add_mul, Nat.one_mul]
      exact hST
    have h4 := (Nat.le_div_iff_mul_le (Nat.two_pow_pos (q - p))).mpr h3
    omega
  refine ⟨main, fun h => ?_⟩
  have hl2 := h.length_le
  rw [bitsOf_len, bitsOf_len] at hl2
  have e := h.eq_of_length (by rw [bitsOf_len, bitsOf_len]; omega)
  exact main (e ▸ List.prefix_refl _)
theorem canon_pf : ∀ {ps : List Nat} {S : Nat}, ps.Pairwise (· ≤ ·) → (∀ p ∈ ps, 1 ≤ p ∧ p ≤ 12) → (∀ p ∈ ps, 2 ^ (12 - p) ∣ S) → S + prs ps ≤ 4096 → PFree (canon S ps)
  | [], _, _, _, _, _ => ⟨.nil, by simp [canon], by simp [canon], by simp [canon]⟩
  | p :: r, S, hs, h12, hd, hl => by
    have hs' := List.pairwise_cons.mp hs
    rw [prs_cons] at hl
    have hd' : ∀ q ∈ r, 2 ^ (12 - q) ∣ S + 2 ^ (12 - p) := fun q hq => by
      refine Nat.dvd_add (hd q (List.mem_cons_of_mem _ hq)) (Nat.pow_dvd_pow 2 ?_)
      have := hs'.1 q hq
      omega
    have ih := canon_pf (ps := r) (S := S + 2 ^ (12 - p)) hs'.2 (fun q hq => h12 q (List.mem_cons_of_mem _ hq)) hd' (by omega)
    have hp := h12 p List.mem_cons_self
    refine ⟨?_, ?_, ?_, ?_⟩
    · rw [canon, List.pairwise_cons]
      refine ⟨fun w hw => ?_, ih.pf⟩
      obtain ⟨q, hq, T, h1, h2, h3, rfl⟩ := canon_mem hs'.2 (fun q hq => (h12 q (List.mem_cons_of_mem _ hq)).2) hd' (by omega) w hw
      exact canon_apart (hs'.1 q hq) (h12 q (List.mem_cons_of_mem _ hq)).2 (hd p List.mem_cons_self) h2 h1 h3
    · intro w hw
      rcases List.mem_cons.mp hw with rfl | hw
      · exact bitsOf_bits _ _
      · exact ih.bits w hw
    · intro w hw
      rcases List.mem_cons.mp hw with rfl | hw
      · rw [bitsOf_len]; exact hp.1
      · exact ih.lo w hw
    · intro w hw
      rcases List.mem_cons.mp hw with rfl | hw
      · rw [bitsOf_len]; exact hp.2
      · exact ih.hi w hw
end LV

namespace LV
theorem atI_map {α : Type} {f : List Nat → α} {L : List (List Nat)} {i : Nat} {w : List Nat} (h : L[i]? = some w) : L2.atI (L.map f) (i : Int) = some (f w) := by
  rw [atI_nat, List.getElem?_map, h]; rfl
theorem krs_ge {L : List (List Nat)} (h : ∀ w ∈ L, 12 ≤ w.length) : krs L = L.length := by
  induction L with
  | nil => rfl
  | cons a r ih =>
    have := ih fun w hw => h w (List.mem_cons_of_mem _ hw)
    have h1 : kr a = 1 := by unfold kr; rw [Nat.sub_eq_zero_of_le (h a List.mem_cons_self)]
    unfold krs at this ⊢
    simp [h1, this]; omega
end LV

namespace K13
open LV
/-- the turn to a leaf that is not too long -/
theorem turn {L : List (List Nat)} (hL : PFree L) (hs : krs L = 4096) (hn : L.length < 100) {k : Nat} {st : Sto} (hst : st[k]? = some (some (.lst (L.map D.str)))) {c0 m o3 o5 o6 : Option U} {i : Nat} (hi : i < L.length) :
    ∃ i' o5', i' < L.length ∧ (∀ w, L[i']? = some w → w.length ≤ 11) ∧ forGo (gN 5) b_law_leaves_0 ((rng 0 L.length).map U.d) [c0, m, some (.c k), o3, some (.d (.int i)), o5, o6] st = .nx [c0, m, some (.c k), o3, some (.d (.int i')), o5', o6] st := by
  have loop := forGo_inv (t := gN 5) (body := b_law_leaves_0)
    (I := fun j env s => ∃ (i' : Nat) (w : List Nat) (o : Option U), env = [c0, m, some (.c k), o3, some (.d (.int i')), o, o6] ∧ s = st ∧ L[i']? = some w ∧ (w.length ≤ 11 ∨ ∀ j' u, j' < j → L[j']? = some u → 12 ≤ u.length))
    (ds := rng 0 L.length) (i := 0) (env := [c0, m, some (.c k), o3, some (.d (.int i)), o5, o6]) (st := st) ?_ ⟨i, L[i], o5, rfl, rfl, List.getElem?_eq_getElem hi, .inr fun j' u h => by omega⟩
  · obtain ⟨e, s, h1, i', w, o, rfl, rfl, hw, hor⟩ := loop
    rw [rng_length, Nat.zero_add] at hor
    refine ⟨i', o, (List.getElem?_eq_some_iff.mp hw).1, fun w' hw' => ?_, h1⟩
    rw [hw] at hw'
    cases hw'
    rcases hor with h | h
    · exact h
    · have : krs L = L.length := krs_ge fun u hu => by
        obtain ⟨j', hj'⟩ := List.mem_iff_getElem?.mp hu
        exact h j' u (List.getElem?_eq_some_iff.mp hj').1 hj'
      omega
  · rintro j d env s hj ⟨i', w, o, rfl, rfl, hw, hor⟩
    obtain ⟨hj1, rfl⟩ := rng_get hj
    have hu : L[j]? = some L[j] := List.getElem?_eq_getElem hj1
    generalize L[j] = u at hu
    have a1 : L2.atI (L.map D.str) (i' : Int) = some (.str w) := atI_map hw
    have a2 : L2.atI (L.map D.str) (j : Int) = some (.str u) := atI_map hu
    have hw12 := hL.hi w (List.mem_of_getElem? hw)
    have hu12 := hL.hi u (List.mem_of_getElem? hu)
    have z1 : w.length ≤ sizeL := by unfold sizeL; omega
    have z2 : u.length ≤ sizeL := by unfold sizeL; omega
    by_cases h1 : 11 < w.length
    · by_cases h2 : u.length < w.length
      · refine ⟨_, _, [c0, m, some (.c k), o3, some (.d (.int j)), some (.d (.int j)), o6], s, rfl, ?_, ⟨j, u, _, rfl, rfl, hu, .inl (by omega)⟩⟩
        have h1' : (11 : Int) < w.length := by omega
        have h2' : (u.length : Int) < w.length := by omega
        unfold b_law_leaves_0
        simp [hst, a1, a2, z1, z2, h1', h1, h2]
      · refine ⟨_, _, [c0, m, some (.c k), o3, some (.d (.int i')), some (.d (.int j)), o6], s, rfl, ?_, ⟨i', w, _, rfl, rfl, hw, .inr fun j' v hlt hv => ?_⟩⟩
        · have h1' : (11 : Int) < w.length := by omega
          unfold b_law_leaves_0
          simp [hst, a1, a2, z1, z2, h1', h1, h2]
        · rcases hor with hh | hh
          · omega
          · rcases Nat.lt_succ_iff_lt_or_eq.mp (show j' < j + 1 by omega) with q | q
            · exact hh j' v (by omega) hv
            · subst q; rw [hu] at hv; cases hv; omega
    · refine ⟨_, _, [c0, m, some (.c k), o3, some (.d (.int i')), some (.d (.int j)), o6], s, rfl, ?_, ⟨i', w, _, rfl, rfl, hw, .inl (by omega)⟩⟩
      have h1' : ¬ (11 : Int) < w.length := by omega
      unfold b_law_leaves_0
      simp [hst, a1, a2, z1, z2, h1', h1]
end K13

namespace LV
theorem at_last {α : Type} (x a : α) (J : List α) : (x :: (J ++ [a]))[J.length + 1]? = some a := by simp
theorem set_last {α : Type} (x a b : α) (J : List α) : (x :: (J ++ [a])).set (J.length + 1) b = x :: (J ++ [b]) := by simp
theorem popAt_at {st : Sto} {k : Nat} {xs : List D} {i : Nat} {d : D} (h : st[k]? = some (some (.lst xs))) (hx : xs[i]? = some d) (hl : i < 4000000) : oPopAt (.c k) [.d (.int i)] st = .ok (.d d) (st.set k (some (.lst (xs.eraseIdx i)))) := by
  have hi := (List.getElem?_eq_some_iff.mp hx).1
  have hs : PySem.seqIndex? (i : Int) xs.length = some i := (L2.ixN_seq (ixN_nat hi)).1
  have hr : rgOk (i : Int) = true := rgOk_of (by omega) (by omega)
  unfold oPopAt oCell
  simp [h, hr, hs, hx]
@[simp] theorem e_nAdd (ma mb : ME) (env : EnvU) (st : Sto) : nAdd ma mb env st = bd (ma env st) fun x st1 => bd (mb env st1) fun y st2 => match get st2 x, get st2 y with
  | some (.lst xs), some (.lst ys) => if xs.length + ys.length ≤ sizeL then .ok (.lst (xs ++ ys)) st2 else .bad
  | _, _ => .bad := Eq.trans rfl rfl
theorem erase_map {α β : Type} (f : α → β) : ∀ (L : List α) (i : Nat), (L.map f).eraseIdx i = (L.eraseIdx i).map f
  | [], _ => rfl
  | _ :: _, 0 => rfl
  | a :: r, i + 1 => by
    show f a :: (r.map f).eraseIdx i = f a :: (r.eraseIdx i).map f
    rw [erase_map f r i]
theorem perm_erase {α : Type} : ∀ {L : List α} {i : Nat} {w : α}, L[i]? = some w → L.Perm (w :: L.eraseIdx i)
  | [], _, _, h => by simp at h
  | a :: r, 0, w, h => by simp at h; subst h; exact List.Perm.refl _
  | a :: r, i + 1, w, h => ((perm_erase (L := r) (i := i) (by simpa using h)).cons a).trans (List.Perm.swap w a _)
end LV

namespace K13
open LV
theorem leaves {x : D} (hx : StA x) {n : Nat} (h2 : 2 ≤ n) (hn : n < 100) : ∃ L x', StA x' ∧ PFree L ∧ krs L = 4096 ∧ L.length = n ∧ F_law_leaves [.c 0, .d (.int n)] [some x] = .ok (.c 1) [some x', some (.lst (L.map D.str))] := by
  have loop := forGo_inv (t := gN 3) (body := b_law_leaves_1)
    (I := fun k env st => ∃ y L J o3 o4 o5 o6, env = [some (.c 0), some (.d (.int n)), some (.c (J.length + 1)), o3, o4, o5, o6] ∧ st = some y :: (J ++ [some (.lst (L.map D.str))]) ∧ StA y ∧ PFree L ∧ krs L = 4096 ∧ L.length = k + 2)
    (ds := rng 0 (n - 2)) (i := 0) (env := [some (.c 0), some (.d (.int n)), some (.c 1), none, none, none, none]) (st := [some x, some (.lst [.str [48], .str [49]])]) ?_ ?_
  · obtain ⟨e, s, h1, y, L, J, o3, o4, o5, o6, rfl, rfl, hy, hL, hs, hl⟩ := loop
    rw [rng_length] at hl
    refine ⟨L, y, hy, hL, hs, by omega, ?_⟩
    unfold F_law_leaves fnM m_law_leaves
    have hit := iR1_n (r := aC (oL dSub (mV 1) (mC (.int 2))) aN) (env := [some (.c 0), some (.d (.int n)), some (.c 1), none, none, none, none]) (st := [some x, some (.lst [.str [48], .str [49]])]) (st1 := [some x, some (.lst [.str [48], .str [49]])]) (n := n - 2) (by simp; omega) (by omega)
    have z2 : 2 ≤ sizeL := by unfold sizeL; omega
    have z2' : ¬ sizeL < 2 := by unfold sizeL; omega
    simp [hit, h1, z2, z2', fin]
  · rintro j d env st hj ⟨y, L, J, o3, o4, o5, o6, rfl, rfl, hy, hL, hs, hl⟩
    obtain ⟨hj1, rfl⟩ := rng_get hj
    obtain ⟨v, y', hy', v0, v1, c1⟩ := pullA hy (m := (L.length : Int)) (by omega) (by omega)
    obtain ⟨i, rfl⟩ : ∃ i : Nat, v = i := ⟨v.toNat, by omega⟩
    have hst : (some y' :: (J ++ [some (.lst (L.map D.str))]))[J.length + 1]? = some (some (.lst (L.map D.str))) := at_last _ _ _
    obtain ⟨i', o5', hi', hw, ht⟩ := turn hL hs (by omega) hst (c0 := some (.c 0)) (m := some (.d (.int n))) (o3 := some (.d (.int (j : Int)))) (o5 := o5) (o6 := o6) (i := i) (by omega)
    have hgi : L[i']? = some L[i'] := List.getElem?_eq_getElem hi'
    generalize L[i'] = w at hgi
    have hw11 := hw w hgi
    have hp := perm_erase hgi
    have hL2 := (hL.perm hp).split hw11
    have hs2 : krs (L.eraseIdx i' ++ [w ++ [48], w ++ [49]]) = 4096 := by rw [krs_split hw11, ← krs_perm hp, hs]
    have hlen : (L.eraseIdx i' ++ [w ++ [48], w ++ [49]]).length = 0 + j + 1 + 2 := by
      have := hp.length_eq
      simp at this ⊢; omega
    have hpop := popAt_at (st := some y' :: (J ++ [some (.lst (L.map D.str))])) (k := J.length + 1) (xs := L.map D.str) (i := i') (d := .str w) hst (by rw [List.getElem?_map, hgi]; rfl) (by omega)
    rw [set_last] at hpop
    have hit := iR1_n (r := aC (mFn fLn (aC (mV 2) aN)) aN) (env := [some (.c 0), some (.d (.int n)), some (.c (J.length + 1)), some (.d (.int (j : Int))), some (.d (.int i)), o5, o6]) (st := some y' :: (J ++ [some (.lst (L.map D.str))])) (st1 := some y' :: (J ++ [some (.lst (L.map D.str))])) (n := L.length) (by simp) (by omega)
    have hel : (L.map D.str).eraseIdx i' = (L.eraseIdx i').map D.str := erase_map _ _ _
    rw [hel] at hpop
    have z2 : 2 ≤ sizeL := by unfold sizeL; omega
    have z2' : ¬ sizeL < 2 := by unfold sizeL; omega
    have z3 : w.length + 1 ≤ sizeL := by unfold sizeL; omega
    have z4 : (L.eraseIdx i').length + 2 ≤ sizeL := by have := hp.length_eq; simp at this; unfold sizeL; omega
    refine ⟨_, _, [some (.c 0), some (.d (.int n)), some (.c ((J ++ [some (D.lst ((L.eraseIdx i').map D.str))]).length + 1)), some (.d (.int (j : Int))), some (.d (.int i')), o5', some (.d (.str w))],
      some y' :: ((J ++ [some (.lst ((L.eraseIdx i').map D.str))]) ++ [some (.lst ((L.eraseIdx i' ++ [w ++ [48], w ++ [49]]).map D.str))]), rfl, ?_, ⟨y', _, _, _, _, _, _, rfl, rfl, hy', hL2, hs2, hlen⟩⟩
    unfold b_law_leaves_1
    simp [c1, hit, ht, hpop, z2, z2', z3, z4]
  · refine ⟨x, [[48], [49]], [], none, none, none, none, rfl, rfl, hx, ⟨?_, by decide, by decide, by decide⟩, by decide, rfl⟩
    rw [List.pairwise_cons]
    exact ⟨fun b hb => by rw [List.mem_singleton] at hb; subst hb; exact ⟨by decide, by decide⟩, by simp⟩
end K13

namespace LV
open PySem
/-- the keys of a table: texts and pairs -/
inductive Ky where | txt (x : List Nat) | cop (p : Int × Int)
deriving DecidableEq
@[reducible] def Ky.ltr (c : Nat) : Ky := .txt [c]
@[reducible] def Ky.fin : Ky := .txt [101, 110, 100]
def Ky.d : Ky → D
  | .txt x => .str x
  | .cop p => prD p
def Ky.n : Ky → NestedKey
  | .txt x => .text (S2 x)
  | .cop p => .tup [.num p.1, .num p.2]
theorem nq_ky (k : Ky) : nq k.d = some k.n := by
  cases k with
  | txt x => rfl
  | cop p => rfl
@[simp] theorem nq_str (x : List Nat) : nq (.str x) = some (Ky.txt x).n := rfl
@[simp] theorem nq_prD (p : Int × Int) : nq (prD p) = some (Ky.cop p).n := rfl
theorem Ky.n_inj {a b : Ky} (h : a.n = b.n) : a = b := by
  cases a with
  | txt x => cases b with
    | txt y =>
      have h1 : S2 x = S2 y := NestedKey.text.inj h
      rw [S2_inj h1]
    | cop p => cases h
  | cop p => cases b with
    | txt y => cases h
    | cop q =>
      have h1 := NestedKey.tup.inj h
      obtain ⟨a, b⟩ := p
      obtain ⟨c, d⟩ := q
      simp at h1
      obtain ⟨rfl, rfl⟩ := h1
      rfl
/-- a table: keys and values, in its order -/
abbrev Tb := List (Ky × D)
def Tb.d (t : Tb) : List (D × D) := t.map fun p => (p.1.d, p.2)
def Tb.look : Tb → Ky → Option D
  | [], _ => none
  | (a, v) :: r, k => if a = k then some v else Tb.look r k
def Tb.put : Tb → Ky → D → Tb
  | [], k, v => [(k, v)]
  | (a, u) :: r, k, v => if a = k then (a, v) :: r else (a, u) :: Tb.put r k v
theorem Tb.len_d (t : Tb) : t.d.length = t.length := by unfold Tb.d; rw [List.length_map]
theorem look_d : ∀ (t : Tb) (k : Ky), lookD t.d k.n = Tb.look t k
  | [], k => rfl
  | (a, v) :: r, k => by
    show (if nq a.d = some k.n then some v else lookD (Tb.d r) k.n) = if a = k then some v else Tb.look r k
    rw [nq_ky, look_d r k]
    by_cases h : a = k
    · subst h; simp
    · rw [if_neg h, if_neg fun e => h (Ky.n_inj (Option.some.inj e))]
theorem put_d : ∀ (t : Tb) (k : Ky) (v : D), putKD k.d k.n v t.d = Tb.d (Tb.put t k v)
  | [], k, v => rfl
  | (a, u) :: r, k, v => by
    show (if nq a.d = some k.n then (a.d, v) :: Tb.d r else (a.d, u) :: putKD k.d k.n v (Tb.d r)) = Tb.d (if a = k then (a, v) :: r else (a, u) :: Tb.put r k v)
    rw [nq_ky, put_d r k v]
    by_cases h : a = k
    · subst h; rw [if_pos rfl, if_pos rfl]; rfl
    · rw [if_neg h, if_neg fun e => h (Ky.n_inj (Option.some.inj e))]; rfl
theorem put_new : ∀ (t : Tb) (k : Ky) (v : D), k ∉ t.map (·.1) → Tb.put t k v = t ++ [(k, v)]
  | [], k, v, _ => rfl
  | (a, u) :: r, k, v, h => by
    have h1 : a ≠ k := fun e => h (by rw [e]; simp)
    have h2 : k ∉ r.map (·.1) := fun e => h (by simp at e ⊢; exact .inr e)
    unfold Tb.put
    rw [if_neg h1, put_new r k v h2]; rfl
theorem put_len : ∀ (t : Tb) (k : Ky) (v : D), (Tb.put t k v).length ≤ t.length + 1
  | [], k, v => Nat.le_refl _
  | (a, u) :: r, k, v => by
    unfold Tb.put
    split
    · simp
    · have := put_len r k v; simp; omega
theorem put_mem : ∀ {t : Tb} {k : Ky} {v : D} {q : Ky × D}, q ∈ Tb.put t k v → q ∈ t ∨ q = (k, v)
  | [], k, v, q, h => .inr (by simpa [Tb.put] using h)
  | (a, u) :: r, k, v, q, h => by
    unfold Tb.put at h
    split at h
    · rename_i e
      subst e
      rcases List.mem_cons.mp h with h | h
      · exact .inr h
      · exact .inl (List.mem_cons_of_mem _ h)
    · rcases List.mem_cons.mp h with h | h
      · exact .inl (h ▸ List.mem_cons_self)
      · rcases put_mem h with h | h
        · exact .inl (List.mem_cons_of_mem _ h)
        · exact .inr h
theorem look_put : ∀ (t : Tb) (k k' : Ky) (v : D), Tb.look (Tb.put t k v) k' = if k = k' then some v else Tb.look t k'
  | [], k, k', v => rfl
  | (a, u) :: r, k, k', v => by
    unfold Tb.put
    by_cases h : a = k
    · rw [if_pos h]
      subst h
      unfold Tb.look
      by_cases h2 : a = k'
      · rw [if_pos h2, if_pos h2]
      · rw [if_neg h2, if_neg h2, if_neg h2]
    · rw [if_neg h]
      unfold Tb.look
      rw [look_put r k k' v]
      by_cases h2 : a = k'
      · rw [if_pos h2, if_neg (fun e => h (by rw [h2, e])), if_pos h2]
      · rw [if_neg h2, if_neg h2]
theorem tlook_mem : ∀ {t : Tb} {k : Ky} {v : D}, (t.map (·.1)).Nodup → (k, v) ∈ t → Tb.look t k = some v
  | (a, u) :: r, k, v, nd, h => by
    have n2 := List.nodup_cons.mp nd
    unfold Tb.look
    rcases List.mem_cons.mp h with h | h
    · cases h; rw [if_pos rfl]
    · have : a ≠ k := fun e => n2.1 (by rw [e]; exact List.mem_map.mpr ⟨_, h, rfl⟩)
      rw [if_neg this]
      exact tlook_mem n2.2 h
theorem tlook_some : ∀ {t : Tb} {k : Ky}, k ∈ t.map (·.1) → ∃ v, Tb.look t k = some v ∧ (k, v) ∈ t
  | (a, u) :: r, k, h => by
    unfold Tb.look
    by_cases e : a = k
    · subst e; exact ⟨u, by rw [if_pos rfl], List.mem_cons_self⟩
    · have : k ∈ r.map (·.1) := by
        rcases List.mem_cons.mp h with h | h
        · exact absurd h.symm e
        · exact h
      obtain ⟨v, h1, h2⟩ := tlook_some this
      exact ⟨v, by rw [if_neg e]; exact h1, List.mem_cons_of_mem _ h2⟩
theorem tlook_none : ∀ {t : Tb} {k : Ky}, k ∉ t.map (·.1) → Tb.look t k = none
  | [], _, _ => rfl
  | (a, u) :: r, k, h => by
    unfold Tb.look
    rw [if_neg fun e => h (by rw [e]; simp)]
    exact tlook_none fun e => h (by simp at e ⊢; exact .inr e)
end LV

namespace LV
open PySem
def subK (u o i : U) (env : EnvU) (st : Sto) : RS := match u, o, i with
  | .d d, .c k, .d kd => (match st[k]?, nq kd with
    | some (some (.dic kvs)), some n => if kvs.length < sizeL then .nx env (st.set k (some (.dic (putKD kd n d kvs)))) else .bad
    | _, _ => .bad)
  | _, _, _ => .bad
@[simp] theorem e_gSubK (mo mi : ME) (u : U) (env : EnvU) (st : Sto) : gSubK mo mi u env st = bs (mo env st) env fun o st1 => bs (mi env st1) env fun i st2 => subK u o i env st2 := rfl
theorem subK_put {st : Sto} {k : Nat} {t : Tb} {ky : Ky} {v : D} (h : st[k]? = some (some (.dic t.d))) (hl : t.length < sizeL) (env : EnvU) : subK (.d v) (.c k) (.d ky.d) env st = .nx env (st.set k (some (.dic (Tb.d (Tb.put t ky v))))) := by
  have h1 : t.d.length < sizeL := by rw [Tb.len_d]; exact hl
  unfold subK
  simp only [h, nq_ky, h1, if_true, put_d t ky v]
theorem subK_new {st : Sto} {k : Nat} {t : Tb} {ky : Ky} {v : D} (h : st[k]? = some (some (.dic t.d))) (hn : ky ∉ t.map (·.1)) (hl : t.length < sizeL) (env : EnvU) : subK (.d v) (.c k) (.d ky.d) env st = .nx env (st.set k (some (.dic (Tb.d (t ++ [(ky, v)]))))) := by
  rw [subK_put h hl, put_new t ky v hn]
@[simp] theorem e_nDic0 (env : EnvU) (st : Sto) : nDic0 env st = .ok (.dic []) st := rfl
@[simp] theorem v_list_str (x : List Nat) : fList [.str x] = if x.length ≤ sizeL then some (x.map fun c => D.str [c]) else none := rfl
@[simp] theorem v_list_lst (x : List D) : fList [.lst x] = some x := rfl
@[simp] theorem v_list_lsx (x : List D) : fList [.lsx x] = some x := rfl
@[simp] theorem v_add_l (p q : List D) : dAdd (.lst p) (.lst q) = if p.length + q.length ≤ sizeL then some (.lst (p ++ q)) else none := rfl
/-- a table of words -/
abbrev WT := List (Ky × List Nat)
def WT.tb (t : WT) : Tb := t.map fun p => (p.1, D.str p.2)
theorem WT.keys (t : WT) : t.tb.map (·.1) = t.map (·.1) := by unfold WT.tb; rw [List.map_map]; rfl
theorem WT.app (t : WT) (k : Ky) (w : List Nat) : WT.tb (t ++ [(k, w)]) = WT.tb t ++ [(k, .str w)] := by unfold WT.tb; rw [List.map_append]; rfl
def keysOf (l : List Nat) (cs : List (Int × Int)) : List Ky := l.map Ky.ltr ++ .fin :: cs.map Ky.cop
theorem keysOf_len (l : List Nat) (cs : List (Int × Int)) : (keysOf l cs).length = l.length + 1 + cs.length := by unfold keysOf; simp; omega
theorem keysOf_nodup {l : List Nat} {cs : List (Int × Int)} (h1 : l.Nodup) (h2 : cs.Nodup) : (keysOf l cs).Nodup := by
  unfold keysOf
  rw [List.nodup_append]
  refine ⟨?_, ?_, ?_⟩
  · exact List.Pairwise.map _ (fun a b h e => h (by cases e; rfl)) h1
  · rw [List.nodup_cons]
    exact ⟨by simp, List.Pairwise.map _ (fun a b h e => h (by cases e; rfl)) h2⟩
  · intro a ha b hb e
    obtain ⟨c, _, rfl⟩ := List.mem_map.mp ha
    subst e
    rcases List.mem_cons.mp hb with hb | hb
    · cases hb
    · obtain ⟨q, _, hq⟩ := List.mem_map.mp hb
      cases hq
end LV

namespace K13
open LV
/-- the keys of a format -/
structure Keys (l : List Nat) (ks : List Ky) : Prop where
  az : Letters l
  l1 : 1 ≤ l.length
  l4 : l.length ≤ 4
  len : ks.length ≤ 40
  cs : ∃ cs : List (Int × Int), cs.Nodup ∧ (∀ p ∈ cs, 2 ≤ p.1 ∧ p.1 ≤ 8 ∧ 1 ≤ p.2 ∧ p.2 ≤ 8) ∧ ks.Perm (keysOf l cs)
/-- a format's letters and words -/
structure Fmt (l : List Nat) (t : WT) : Prop where
  keys : Keys l (t.map (·.1))
  pf : PFree (t.map (·.2))
  sum : krs (t.map (·.2)) ≤ 4096
theorem Letters.nodup {l : List Nat} (h : Letters l) : l.Nodup := h.asc.imp fun h => Nat.ne_of_lt h
theorem krs_app (a b : List (List Nat)) : krs (a ++ b) = krs a + krs b := by unfold krs; rw [List.map_append, List.sum_append_nat]
theorem plain {x : D} (hx : StA x) {l : List Nat} {cs : List (Int × Int)} (hl : Letters l) (h1 : 1 ≤ l.length) (h4 : l.length ≤ 4) (hc : Copies cs 35) :
    ∃ t x', StA x' ∧ Fmt l t ∧ F_law_plain [.c 0, .d (.str l), .d (.lst (cs.map prD))] [some x] = .ok (.d (.lst [.str l, .dic t.tb.d])) [some x'] := by
  obtain ⟨v, x1, hx1, v0, v1, c1⟩ := pullA hx (m := 3) (by omega) (by omega)
  obtain ⟨v, rfl⟩ : ∃ i : Nat, v = i := ⟨v.toNat, by omega⟩
  have hcl := hc.len
  have kn := keysOf_nodup (Letters.nodup hl) hc.nd
  have kl := keysOf_len l cs
  obtain ⟨L, x2, hx2, hpf, hsum, hlen, c2⟩ := leaves hx1 (n := l.length + 1 + cs.length + v) (by omega) (by omega)
  have e0 : (l.length : Int) + ((cs.length : Int) + 1) + (v : Int) = ((l.length + 1 + cs.length + v : Nat) : Int) := by omega
  have c2' : ∀ rest, callA F_law_leaves 2 [.c 0, .d (.int ((l.length : Int) + ((cs.length : Int) + 1) + (v : Int)))] (some x1 :: rest) = .ok (.c (rest.length + 1)) (some x2 :: rest ++ [some (.lst (L.map D.str))]) := fun rest => by rw [e0]; exact call_c0c (ds := [.int ((l.length + 1 + cs.length + v : Nat) : Int)]) c2 rfl
  generalize hK : keysOf l cs = K at kn kl
  have hKd : K.map Ky.d = l.map (fun c => D.str [c]) ++ .str [101, 110, 100] :: cs.map prD := by
    rw [← hK]; unfold keysOf; simp [Ky.d]; rfl
  have loop := forGo_inv (t := gN 6) (body := b_law_plain_0)
    (I := fun k env st => ∃ y KL LL t o6 o7, env = [some (.c 0), some (.d (.str l)), some (.d (.lst (cs.map prD))), some (.c 1), some (.c 2), some (.c 3), o6, o7] ∧ st = [some y, some (.lst (KL.map Ky.d)), some (.lst (LL.map D.str)), some (.dic (WT.tb t).d)] ∧ StA y ∧ (KL ++ t.map (·.1)).Perm K ∧ (LL ++ t.map (·.2)).Perm L ∧ KL.length + k = K.length ∧ LL.length + k = L.length)
    (ds := rng 0 K.length) (i := 0) (env := [some (.c 0), some (.d (.str l)), some (.d (.lst (cs.map prD))), some (.c 1), some (.c 2), some (.c 3), none, none]) (st := [some x2, some (.lst (K.map Ky.d)), some (.lst (L.map D.str)), some (.dic [])]) ?_ ?_
  · obtain ⟨e, s, hgo, y, KL, LL, t, o6, o7, rfl, rfl, hy, pK, pL, lK, lL⟩ := loop
    rw [rng_length] at lK lL
    obtain rfl : KL = [] := List.eq_nil_of_length_eq_zero (by omega)
    rw [List.nil_append] at pK
    have hpf2 := hpf.perm pL.symm
    have hs2 := krs_perm pL
    rw [krs_app] at hs2
    refine ⟨t, y, hy, ⟨⟨hl, h1, h4, by have := pK.length_eq; omega, ⟨cs, hc.nd, hc.ok, hK ▸ pK⟩⟩, ⟨?_, ?_, ?_, ?_⟩, by omega⟩, ?_⟩
    · exact (List.pairwise_append.mp hpf2.pf).2.1
    · exact fun w hw => hpf2.bits w (List.mem_append_right _ hw)
    · exact fun w hw => hpf2.lo w (List.mem_append_right _ hw)
    · exact fun w hw => hpf2.hi w (List.mem_append_right _ hw)
    · have hit := iR1_n (r := aC (mFn fLn (aC (mV 3) aN)) aN) (env := [some (.c 0), some (.d (.str l)), some (.d (.lst (cs.map prD))), some (.c 1), some (.c 2), some (.c 3), none, none]) (st := [some x2, some (.lst (K.map Ky.d)), some (.lst (L.map D.str)), some (.dic [])]) (st1 := [some x2, some (.lst (K.map Ky.d)), some (.lst (L.map D.str)), some (.dic [])]) (n := K.length) (by simp) (by omega)
      have z1 : l.length ≤ sizeL := by unfold sizeL; omega
      have z2 : l.length + 1 ≤ sizeL := by unfold sizeL; omega
      have z3 : l.length + 1 + cs.length ≤ sizeL := by unfold sizeL; omega
      have z4 : 2 ≤ sizeL := by unfold sizeL; omega
      have z5 : 1 ≤ sizeL := by unfold sizeL; omega
      unfold F_law_plain fnM m_law_plain
      rw [hKd] at hit hgo
      simp at hgo hit
      simp [c1, c2', hit, hgo, z1, z2, z3, z4, z5, fzU, isLk]
  · rintro j d env st hj ⟨y, KL, LL, t, o6, o7, rfl, rfl, hy, pK, pL, lK, lL⟩
    obtain ⟨hj1, rfl⟩ := rng_get hj
    obtain ⟨i1, y1, hy1, a0, a1, d1⟩ := pullA hy (m := (KL.length : Int)) (by omega) (by omega)
    obtain ⟨i2, y2, hy2, b0, b1, d2⟩ := pullA hy1 (m := (LL.length : Int)) (by omega) (by omega)
    obtain ⟨i1, rfl⟩ : ∃ i : Nat, i1 = i := ⟨i1.toNat, by omega⟩
    obtain ⟨i2, rfl⟩ : ∃ i : Nat, i2 = i := ⟨i2.toNat, by omega⟩
    have g1 : KL[i1]? = some KL[i1] := List.getElem?_eq_getElem (by omega)
    generalize KL[i1] = ky at g1
    have g2 : LL[i2]? = some LL[i2] := List.getElem?_eq_getElem (by omega)
    generalize LL[i2] = w at g2
    have pk := perm_erase g1
    have pl := perm_erase g2
    have lk := pk.length_eq
    have ll := pl.length_eq
    rw [List.length_cons] at lk ll
    have p1 := popAt_at (st := [some y1, some (.lst (KL.map Ky.d)), some (.lst (LL.map D.str)), some (.dic (WT.tb t).d)]) (k := 1) (xs := KL.map Ky.d) (i := i1) (d := ky.d) rfl (by rw [List.getElem?_map, g1]; rfl) (by omega)
    have p2 := popAt_at (st := [some y2, some (.lst ((KL.eraseIdx i1).map Ky.d)), some (.lst (LL.map D.str)), some (.dic (WT.tb t).d)]) (k := 2) (xs := LL.map D.str) (i := i2) (d := .str w) rfl (by rw [List.getElem?_map, g2]; rfl) (by omega)
    rw [erase_map] at p1 p2
    have ndp : (ky :: (KL.eraseIdx i1 ++ t.map (·.1))).Nodup := ((pK.symm.trans (pk.append_right _)).nodup_iff).mp kn
    have hni : ky ∉ (WT.tb t).map (·.1) := by
      rw [WT.keys]
      exact fun h => (List.nodup_cons.mp ndp).1 (List.mem_append_right _ h)
    have tl : t.length < sizeL := by
      have := pK.length_eq
      simp at this
      unfold sizeL; omega
    have p3 := subK_new (st := [some y2, some (.lst ((KL.eraseIdx i1).map Ky.d)), some (.lst ((LL.eraseIdx i2).map D.str)), some (.dic (WT.tb t).d)]) (k := 3) (v := .str w) rfl hni (by unfold WT.tb; rw [List.length_map]; exact tl)
    rw [← WT.app] at p3
    refine ⟨_, _, [some (.c 0), some (.d (.str l)), some (.d (.lst (cs.map prD))), some (.c 1), some (.c 2), some (.c 3), some (.d (.int (j : Int))), some (.d ky.d)], [some y2, some (.lst ((KL.eraseIdx i1).map Ky.d)), some (.lst ((LL.eraseIdx i2).map D.str)), some (.dic (WT.tb (t ++ [(ky, w)])).d)], rfl, ?_, ⟨y2, KL.eraseIdx i1, LL.eraseIdx i2, t ++ [(ky, w)], _, _, rfl, rfl, hy2, ?_, ?_, by omega, by omega⟩⟩
    · unfold b_law_plain_0
      simp [d1, d2, p1, p2, p3]
    · rw [List.map_append, ← List.append_assoc]
      have q := (pk.append_right (t.map fun x : Ky × List Nat => x.1)).symm.trans pK
      rw [List.cons_append] at q
      exact List.perm_append_comm.trans q
    · rw [List.map_append, ← List.append_assoc]
      have q := (pl.append_right (t.map fun x : Ky × List Nat => x.2)).symm.trans pL
      rw [List.cons_append] at q
      exact List.perm_append_comm.trans q
  · exact ⟨x2, K, L, [], none, none, rfl, rfl, hx2, by simp, by simp, rfl, rfl⟩
end K13

namespace LV
open PySem
theorem call_p1 {F : Fm} {a v : D} {st : Sto} (h : F [.d a] [] = .ok (.d v) []) : callA F 1 [.d a] st = .ok (.d v) st := by rw [call_d1 h, List.append_nil]
theorem call_p2 {F : Fm} {a b v : D} {st : Sto} (h : F [.d a, .d b] [] = .ok (.d v) []) : callA F 2 [.d a, .d b] st = .ok (.d v) st := by rw [call_d2 h, List.append_nil]
def itL (u : U) (st : Sto) : R (List D) := match u with
  | .d (.lst ds) => .ok ds st
  | .d (.lsx ds) => .ok ds st
  | _ => .bad
@[simp] theorem e_iL (m : ME) (env : EnvU) (st : Sto) : iL m env st = bd (m env st) fun u st1 => itL u st1 := Eq.trans rfl rfl
@[simp] theorem itL_lst (ds : List D) (st : Sto) : itL (.d (.lst ds)) st = .ok ds st := rfl
@[simp] theorem itL_lsx (ds : List D) (st : Sto) : itL (.d (.lsx ds)) st = .ok ds st := rfl
def itS (u : U) (st : Sto) : R (List D) := match u with
  | .d (.str x) => .ok (x.map fun c => D.str [c]) st
  | _ => .bad
@[simp] theorem e_iS (m : ME) (env : EnvU) (st : Sto) : iS m env st = bd (m env st) fun u st1 => itS u st1 := Eq.trans rfl rfl
@[simp] theorem itS_str (x : List Nat) (st : Sto) : itS (.d (.str x)) st = .ok (x.map fun c => D.str [c]) st := rfl
def itK (f : D × D → D) (o : Option (List (D × D))) (st : Sto) : R (List D) := match o with
  | some kvs => .ok (kvs.map f) st
  | none => .bad
@[simp] theorem itK_some (f : D × D → D) (kvs : List (D × D)) (st : Sto) : itK f (some kvs) st = .ok (kvs.map f) st := rfl
@[simp] theorem e_iDk (f : D × D → D) (m : ME) (env : EnvU) (st : Sto) : iDk f m env st = bd (m env st) fun u st1 => itK f (dkU u st1) st1 := by
  unfold iDk bd itK
  cases m env st with
  | bad => rfl
  | exc _ _ => rfl
  | ok u s => (simp only [R.bind]) <;> (cases dkU u s <;> rfl)
@[simp] theorem e_iKs (m : ME) (env : EnvU) (st : Sto) : iKs m env st = bd (m env st) fun u st1 => itK Prod.fst (dkU u st1) st1 := e_iDk _ _ _ _
@[simp] theorem e_iVs (m : ME) (env : EnvU) (st : Sto) : iVs m env st = bd (m env st) fun u st1 => itK Prod.snd (dkU u st1) st1 := e_iDk _ _ _ _
@[simp] theorem e_iPs (m : ME) (env : EnvU) (st : Sto) : iPs m env st = bd (m env st) fun u st1 => itK (fun p => .tup [p.1, p.2]) (dkU u st1) st1 := e_iDk _ _ _ _
@[simp] theorem dkU_d (kvs : List (D × D)) (st : Sto) : dkU (.d (.dic kvs)) st = some kvs := rfl
theorem Tb.keys_d (t : Tb) : t.d.map Prod.fst = t.map fun p => p.1.d := by unfold Tb.d; rw [List.map_map]; rfl
theorem Tb.vals_d (t : Tb) : t.d.map Prod.snd = t.map fun p => p.2 := by unfold Tb.d; rw [List.map_map]; rfl
section
variable {α : Type} {k i : Nat} {vs : List Nat} {env : EnvU} {cond : MT} {elt ek ev : ME} {st st1 : Sto} {g : α → D} {p : α → Bool} {f : α → D} {it : MI}
theorem at_end (st : Sto) (a : Option D) : (st ++ [a])[st.length]? = some a := by simp
theorem set_end (st : Sto) (a b : Option D) : (st ++ [a]).set st.length b = st ++ [b] := by simp
theorem take_end (st : Sto) (a : Option D) : (st ++ [a]).take (st.length + 1) = st ++ [a] := List.take_of_length_le (by simp)
theorem take_end0 (st : Sto) (a : Option D) : (st ++ [a]).take st.length = st := by simp
/-- a list comprehension, run -/
theorem lcGo_run : ∀ {xs : List α} {acc : List D}, (∀ x ∈ xs, ∀ a, cond ((wipeE env vs).set i (some (.d (g x)))) (st ++ [a]) = .ok (p x) (st ++ [a])) →
    (∀ x ∈ xs, p x = true → ∀ a, elt ((wipeE env vs).set i (some (.d (g x)))) (st ++ [a]) = .ok (.d (f x)) (st ++ [a])) → acc.length + xs.length ≤ sizeL →
    lcGo st.length vs env (gN i) cond elt (xs.map g) (st ++ [some (.lst acc)]) = .ok () (st ++ [some (.lst (acc ++ (xs.filter p).map f))])
  | [], acc, _, _, _ => by simp [lcGo]
  | x :: xs, acc, hc, he, hl => by
    have hl' : acc.length < sizeL := by simp at hl; omega
    have h1 := hc x List.mem_cons_self (some (.lst acc))
    rw [List.map_cons]
    unfold lcGo
    simp only [e_gN, h1]
    cases hp : p x with
    | true =>
      have h2 := he x List.mem_cons_self hp (some (.lst acc))
      simp only [h2, at_end, if_pos hl', take_end, set_end]
      rw [lcGo_run (fun y hy => hc y (List.mem_cons_of_mem _ hy)) (fun y hy => he y (List.mem_cons_of_mem _ hy)) (by simp at hl ⊢; omega), List.filter_cons_of_pos hp]
      simp
    | false =>
      simp only [take_end]
      rw [lcGo_run (fun y hy => hc y (List.mem_cons_of_mem _ hy)) (fun y hy => he y (List.mem_cons_of_mem _ hy)) (by simp at hl ⊢; omega), List.filter_cons_of_neg (by simp [hp])]
theorem nLc_run {xs : List α} (h : it env st = .ok (xs.map g) st1) (hc : ∀ x ∈ xs, ∀ a, cond ((wipeE env vs).set i (some (.d (g x)))) (st1 ++ [a]) = .ok (p x) (st1 ++ [a]))
    (he : ∀ x ∈ xs, p x = true → ∀ a, elt ((wipeE env vs).set i (some (.d (g x)))) (st1 ++ [a]) = .ok (.d (f x)) (st1 ++ [a])) (hl : xs.length ≤ sizeL) :
    nLc it vs (gN i) cond elt env st = .ok (.lst ((xs.filter p).map f)) st1 := by
  have e := lcGo_run (st := st1) (acc := []) hc he (by simpa using hl)
  unfold nLc
  rw [h]
  simp only [R.bind, e, at_end, take_end0, List.nil_append]
@[simp] theorem e_tTrue (env : EnvU) (st : Sto) : tTrue env st = .ok true st := rfl
/-- the same without a condition -/
theorem nLc_all {xs : List α} (h : it env st = .ok (xs.map g) st1) (he : ∀ x ∈ xs, ∀ a, elt ((wipeE env vs).set i (some (.d (g x)))) (st1 ++ [a]) = .ok (.d (f x)) (st1 ++ [a])) (hl : xs.length ≤ sizeL) :
    nLc it vs (gN i) tTrue elt env st = .ok (.lst (xs.map f)) st1 := by
  have := nLc_run (cond := tTrue) (p := fun _ => true) h (fun _ _ _ => rfl) (fun x hx _ => he x hx) hl
  rwa [List.filter_eq_self.mpr (fun _ _ => rfl)] at this
/-- a dict comprehension, run -/
theorem dcGo_run {kf : α → Ky} : ∀ {xs : List α} {acc : Tb}, (∀ x ∈ xs, ∀ a, ek ((wipeE env vs).set i (some (.d (g x)))) (st ++ [a]) = .ok (.d (kf x).d) (st ++ [a])) →
    (∀ x ∈ xs, ∀ a, ev ((wipeE env vs).set i (some (.d (g x)))) (st ++ [a]) = .ok (.d (f x)) (st ++ [a])) → acc.length + xs.length ≤ sizeL → (acc.map (·.1) ++ xs.map kf).Nodup →
    dcGo st.length vs env (gN i) tTrue ek ev (xs.map g) (st ++ [some (.dic acc.d)]) = .ok () (st ++ [some (.dic (Tb.d (acc ++ xs.map fun x => (kf x, f x))))])
  | [], acc, _, _, _, _ => by simp [dcGo]
  | x :: xs, acc, hk, hv, hl, nd => by
    have hl' : acc.d.length < sizeL := by rw [Tb.len_d]; simp at hl; omega
    have h1 := hk x List.mem_cons_self (some (.dic acc.d))
    have h2 := hv x List.mem_cons_self (some (.dic acc.d))
    have hn : kf x ∉ acc.map (·.1) := fun h => (List.nodup_append.mp nd).2.2 _ h _ List.mem_cons_self rfl
    rw [List.map_cons]
    unfold dcGo
    simp only [e_gN, e_tTrue, h1, h2, at_end, nq_ky, if_pos hl', take_end, set_end, put_d, put_new _ _ _ hn]
    rw [dcGo_run (fun y hy => hk y (List.mem_cons_of_mem _ hy)) (fun y hy => hv y (List.mem_cons_of_mem _ hy)) (by simp at hl ⊢; omega) (by simpa using nd)]
    simp
theorem nDc_run {kf : α → Ky} {xs : List α} (h : it env st = .ok (xs.map g) st1) (hk : ∀ x ∈ xs, ∀ a, ek ((wipeE env vs).set i (some (.d (g x)))) (st1 ++ [a]) = .ok (.d (kf x).d) (st1 ++ [a]))
    (hv : ∀ x ∈ xs, ∀ a, ev ((wipeE env vs).set i (some (.d (g x)))) (st1 ++ [a]) = .ok (.d (f x)) (st1 ++ [a])) (hl : xs.length ≤ sizeL) (nd : (xs.map kf).Nodup) :
    nDc it vs (gN i) tTrue ek ev env st = .ok (.dic (Tb.d (xs.map fun x => (kf x, f x)))) st1 := by
  have e := dcGo_run (st := st1) (acc := []) hk hv (by simpa using hl) (by simpa using nd)
  unfold nDc
  rw [h]
  have e0 : (Tb.d []) = [] := rfl
  rw [e0] at e
  simp only [R.bind, e, at_end, take_end0, List.nil_append]
end
def par2 (i j : Nat) (us : List U) (env : EnvU) (st : Sto) : RS := match us with
  | [u, v] => .nx ((env.set i (some u)).set j (some v)) st
  | _ => .bad
@[simp] theorem e_sPar (i j : Nat) (r : MA) (env : EnvU) (st : Sto) : sPar i j r env st = bs (r env st) env fun us st1 => par2 i j us env st1 := Eq.trans rfl rfl
@[simp] theorem par2_mk (i j : Nat) (u v : U) (env : EnvU) (st : Sto) : par2 i j [u, v] env st = .nx ((env.set i (some u)).set j (some v)) st := rfl
/-! texts in lists -/
theorem deq_str (x y : List Nat) : deq (.str x) (.str y) = decide (x = y) := by
  unfold deq pd PyData.eqv
  by_cases h : x = y
  · subst h; simp
  · have : S2 x ≠ S2 y := fun e => h (S2_inj e)
    simp [h, this]
theorem plain_strs : ∀ L : List (List Nat), plains (L.map D.str) = true
  | [] => rfl
  | c :: r => by
    show (plain (D.str c) && plains (r.map D.str)) = true
    rw [plain_strs r]; rfl
theorem lay_str {c : List Nat} (h : ∀ x ∈ c, x < 1114112) : PyData.canLay0 (pd (D.str c)) = true := by
  have e : PyData.canLay0 (pd (D.str c)) = PyData.strOk (S2 c) := by unfold pd PyData.canLay0; rfl
  rw [e]
  unfold PyData.strOk
  simp
  exact fun i hi => h i hi
theorem lay_strs : ∀ {L : List (List Nat)}, (∀ w ∈ L, ∀ x ∈ w, x < 1114112) → PyData.canLayAll0 (pds (L.map D.str)) = true
  | [], _ => rfl
  | c :: r, h => by
    show (PyData.canLay0 (pd (D.str c)) && PyData.canLayAll0 (pds (r.map D.str))) = true
    rw [lay_strs fun w hw => h w (List.mem_cons_of_mem _ hw), lay_str (h c List.mem_cons_self)]; rfl
theorem dep_strs : ∀ L : List (List Nat), PyData.depthAll (pds (L.map D.str)) ≤ 1
  | [] => Nat.zero_le _
  | c :: r => by
    show max (PyData.depth (pd (D.str c))) (PyData.depthAll (pds (r.map D.str))) ≤ 1
    exact Nat.max_le.mpr ⟨Nat.zero_le 1, dep_strs r⟩
theorem shp_strs {L : List (List Nat)} (h : ∀ w ∈ L, ∀ x ∈ w, x < 1114112) : shp (.lst (L.map D.str)) = true := by
  show (plains (L.map D.str) && (PyData.canLayAll0 (pds (L.map D.str)) && decide (PyData.depthAll (pds (L.map D.str)) + 1 ≤ 64))) = true
  rw [plain_strs, lay_strs h, Bool.true_and, Bool.true_and]
  have := dep_strs L
  exact decide_eq_true (by omega)
theorem shp_str {w : List Nat} (h : ∀ x ∈ w, x < 1114112) : shp (.str w) = true := by
  show (true && (PyData.canLay0 (pd (D.str w)) && decide (PyData.depth (pd (D.str w)) ≤ 64))) = true
  rw [lay_str h]; rfl
theorem in_str {w : List Nat} {L : List (List Nat)} (hw : ∀ x ∈ w, x < 1114112) (hL : ∀ w ∈ L, ∀ x ∈ w, x < 1114112) : dIn (.str w) (.lst (L.map D.str)) = some (.bl (decide (w ∈ L))) := by
  have h1 : isIn (.str w) (L.map D.str) = decide (w ∈ L) := by
    unfold isIn
    rw [List.any_map]
    clear hL
    induction L with
    | nil => simp
    | cons c r ih => simp [deq_str, ih, eq_comm]
  have h2 : dIn (.str w) (.lst (L.map D.str)) = (if (shp (.str w) && shp (.lst (L.map D.str))) = true then some (isIn (.str w) (L.map D.str)) else none).map D.bl := by
    unfold dIn dInB
    rcases w with _ | ⟨a, _ | ⟨b, r⟩⟩ <;> rfl
  rw [h2, h1, shp_str hw, shp_strs hL]
  rfl
theorem oSw_run (s t : List Nat) (st : Sto) : oSw (.d (.str s)) [.d (.str t)] st = .ok (.d (.bl (t.isPrefixOf s))) st := rfl
end LV

namespace K13
open LV
end K13

namespace LV
open PySem
@[simp] theorem v_in_c (c : Nat) (y : List Nat) : dIn (.str [c]) (.str y) = some (.bl (decide (c ∈ y))) := rfl
@[simp] theorem v_notin_c (c : Nat) (y : List Nat) : dNotIn (.str [c]) (.str y) = some (.bl (!decide (c ∈ y))) := rfl
@[simp] theorem v_ge_s (p q : List Nat) : dGe (.str p) (.str q) = some (.bl (!decide (p < q))) := rfl
@[simp] theorem v_ty_str (x : List Nat) : tyD (.str x) = some "str" := rfl
@[simp] theorem v_ty_int (x : Int) : tyD (.int x) = some "int" := rfl
@[simp] theorem v_ty_bl (x : Bool) : tyD (.bl x) = some "bool" := rfl
@[simp] theorem v_ty_tup (x : List D) : tyD (.tup x) = some "tuple" := rfl
@[simp] theorem v_ty_lst (x : List D) : tyD (.lst x) = some "list" := rfl
@[simp] theorem v_ty_lsx (x : List D) : tyD (.lsx x) = some "list" := rfl
@[simp] theorem v_ty_dic (x : List (D × D)) : tyD (.dic x) = some "dict" := rfl
@[simp] theorem tru_bl (b : Bool) : tru (.bl b) = some b := rfl
@[simp] theorem isB_ss : isB "str" "str" = true := by decide
@[simp] theorem isB_st : isB "str" "tuple" = false := by decide
@[simp] theorem isB_sd : isB "str" "dict" = false := by decide
@[simp] theorem isB_si : isB "str" "int" = false := by decide
@[simp] theorem isB_sb : isB "str" "bool" = false := by decide
@[simp] theorem isB_sl : isB "str" "list" = false := by decide
@[simp] theorem isB_ts : isB "tuple" "str" = false := by decide
@[simp] theorem isB_tt : isB "tuple" "tuple" = true := by decide
@[simp] theorem isB_td : isB "tuple" "dict" = false := by decide
@[simp] theorem isB_ti : isB "tuple" "int" = false := by decide
@[simp] theorem isB_tb : isB "tuple" "bool" = false := by decide
@[simp] theorem isB_tl : isB "tuple" "list" = false := by decide
@[simp] theorem isB_ii : isB "int" "int" = true := by decide
@[simp] theorem isB_ib : isB "int" "bool" = false := by decide
@[simp] theorem isB_is : isB "int" "str" = false := by decide
@[simp] theorem isB_it : isB "int" "tuple" = false := by decide
@[simp] theorem isB_id : isB "int" "dict" = false := by decide
@[simp] theorem isB_il : isB "int" "list" = false := by decide
@[simp] theorem isB_dd : isB "dict" "dict" = true := by decide
@[simp] theorem isB_bi : isB "bool" "int" = true := by decide
@[simp] theorem isB_bb : isB "bool" "bool" = true := by decide
@[simp] theorem isB_bs : isB "bool" "str" = false := by decide
@[simp] theorem isB_bt : isB "bool" "tuple" = false := by decide
def chn (o' : O2) (mc : ME) (env : EnvU) (y z : U) (st : Sto) : R U := match z with
  | .d (.bl true) => (mc env st).bind fun u st4 => o' y u st4
  | .d (.bl false) => .ok (.d (.bl false)) st
  | _ => .bad
@[simp] theorem e_mChain (o o' : O2) (ma mb mc : ME) (env : EnvU) (st : Sto) : mChain o o' ma mb mc env st = bd (ma env st) fun x st1 => bd (mb env st1) fun y st2 => bd (o x y st2) fun z st3 => chn o' mc env y z st3 := Eq.trans rfl rfl
@[simp] theorem chn_bl (o' : O2) (mc : ME) (env : EnvU) (y : U) (b : Bool) (st : Sto) : chn o' mc env y (.d (.bl b)) st = if b = true then bd (mc env st) fun u st4 => o' y u st4 else .ok (.d (.bl false)) st := by cases b <;> rfl
theorem deq_ts (p : Int × Int) (x : List Nat) : deq (prD p) (.str x) = false := rfl
theorem ne_ts (p : Int × Int) {x : List Nat} (h : ∀ c ∈ x, c < 1114112) : dNe (prD p) (.str x) = some (.bl true) := by
  show (if (shp (prD p) && shp (.str x)) = true then some (D.bl (!deq (prD p) (.str x))) else none) = _
  rw [shp_pr, shp_str h, deq_ts]; rfl
theorem len_d2 (p : Int × Int) : fLn [prD p] = some (.int 2) := rfl
@[simp] theorem v_not_in_k (k : Ky) (t : Tb) : dNotInK k.d (.dic t.d) = some (.bl (!(Tb.look t k).isSome)) := by
  unfold dNotInK
  rw [nq_ky]
  show some (D.bl (!(lookD t.d k.n).isSome)) = _
  rw [look_d]
@[simp] theorem v_in_k (k : Ky) (t : Tb) : dInK k.d (.dic t.d) = some (.bl (Tb.look t k).isSome) := by
  unfold dInK
  rw [nq_ky]
  show some (D.bl (lookD t.d k.n).isSome) = _
  rw [look_d]
@[simp] theorem v_dx (k : Ky) (t : Tb) : dDx (.dic t.d) k.d = Tb.look t k := by
  unfold dDx
  rw [nq_ky]
  show lookD t.d k.n = _
  rw [look_d]
theorem look_has {t : Tb} {k : Ky} (h : k ∈ t.map (·.1)) : (Tb.look t k).isSome = true := by
  obtain ⟨v, h1, _⟩ := tlook_some h
  rw [h1]; rfl
/-- a loop that keeps the store and all names but its own -/
theorem forGo_keep {α : Type} {g : α → D} {i : Nat} {body : MS} {st : Sto} : ∀ {xs : List α} {env : EnvU}, (∀ x ∈ xs, body (env.set i (some (.d (g x)))) st = .nx (env.set i (some (.d (g x)))) st) → i < env.length →
    ∃ o, forGo (gN i) body ((xs.map g).map U.d) env st = .nx (env.set i o) st
  | [], env, _, hi => ⟨env[i], by simp [forGo]⟩
  | x :: xs, env, h, hi => by
    have h1 := h x List.mem_cons_self
    obtain ⟨o, ho⟩ := forGo_keep (g := g) (i := i) (body := body) (st := st) (xs := xs) (env := env.set i (some (.d (g x)))) (fun y hy => by
      rw [List.set_set]
      exact h y (List.mem_cons_of_mem _ hy)) (by simpa using hi)
    rw [List.set_set] at ho
    refine ⟨o, ?_⟩
    rw [List.map_cons, List.map_cons]
    unfold forGo
    simp only [e_gN, h1]
    exact ho
theorem rng_map (n : Nat) : rng 0 n = (List.range n).map fun (i : Nat) => D.int (i : Int) := by
  unfold rng; simp
end LV

namespace K13
open LV
theorem is_letters {l : List Nat} (h : Letters l) (h1 : 1 ≤ l.length) (h4 : l.length ≤ 4) : F_is_letters [.d (.str l)] [] = .ok (.d (.bl true)) [] := by
  have z1 : l.length ≤ sizeL := by unfold sizeL; omega
  have z2 : ¬ sizeL < 26 := by unfold sizeL; omega
  obtain ⟨o, ho⟩ := forGo_keep (g := fun (i : Nat) => D.int (i : Int)) (i := 1) (body := b_is_letters_0) (st := []) (xs := List.range l.length) (env := [some (.d (.str l)), none]) (fun j hj => by
    have hj := List.mem_range.mp hj
    have g1 : l[j]? = some l[j] := List.getElem?_eq_getElem hj
    have m1 := List.getElem_mem hj
    generalize hc : l[j] = c at g1 m1
    have hat : L2.atI l (j : Int) = some c := by rw [atI_nat, g1]
    have haz := h.az c m1
    have hin : c ∈ [97, 98, 99, 100, 101, 102, 103, 104, 105, 106, 107, 108, 109, 110, 111, 112, 113, 114, 115, 116, 117, 118, 119, 120, 121, 122] := by
      simp; omega
    unfold b_is_letters_0
    cases j with
    | zero =>
      have hat0 : L2.atI l 0 = some c := hat
      simp [hat0, hin, z1, z2, g1] 
    | succ i =>
      have g2 : l[i]? = some l[i] := List.getElem?_eq_getElem (by omega)
      have hlt : l[i] < c := by
        rw [← hc]
        exact List.pairwise_iff_getElem.mp h.asc i (i + 1) (by omega) hj (by omega)
      generalize l[i] = b at g2 hlt
      have hat2 : L2.atI l ((i : Int) + 1 - 1) = some b := by rw [show (i : Int) + 1 - 1 = (i : Int) by omega, atI_nat, g2]
      have hat3 : L2.atI l (i : Int) = some b := by rw [atI_nat, g2]
      have hat1 : L2.atI l ((i : Int) + 1) = some c := hat
      have hp : (0 : Int) < (i : Int) + 1 := by omega
      have hbc : [b] < [c] := by rw [List.cons_lt_cons_iff]; exact .inl hlt
      simp [hat1, hat2, hat3, hin, z1, z2, hp, hbc]) (by simp)
  have hit := iR1_n (r := aC (mFn fLn (aC (mV 0) aN)) aN) (env := [some (.d (.str l)), none]) (st := []) (st1 := []) (n := l.length) (by simp [z1]) (by omega)
  rw [rng_map] at hit
  have h1' : ¬ (l.length : Int) < 1 := by omega
  have h4' : ¬ (4 : Int) < l.length := by omega
  unfold F_is_letters fnM m_is_letters
  simp [-List.map_map, hit, ho, z1, h1', h4']
end K13

namespace LV
open PySem
theorem intsOf_str (x : List Nat) (r : List D) : intsOf (D.str x :: r) = none := rfl
theorem strsOf_map : ∀ L : List (List Nat), strsOf (L.map D.str) = some L
  | [] => rfl
  | a :: r => by
    show (strsOf (r.map D.str)).map (a :: ·) = _
    rw [strsOf_map r]; rfl
theorem intsOf_map : ∀ L : List Int, intsOf (L.map D.int) = some L
  | [] => rfl
  | a :: r => by
    show (intsOf (r.map D.int)).map (a :: ·) = _
    rw [intsOf_map r]; rfl
theorem prsOf_map : ∀ L : List (Int × Int), prsOf (L.map prD) = some L
  | [] => rfl
  | a :: r => by
    show (prsOf (r.map prD)).map ((a.1, a.2) :: ·) = _
    rw [prsOf_map r]; rfl
theorem sorted_strs {L : List (List Nat)} (h0 : L ≠ []) (hl : L.length < 64) : fSorted [.lst (L.map D.str)] = some ((isrt ltS L).map D.str) := by
  cases L with
  | nil => exact absurd rfl h0
  | cons a r =>
    have e := strsOf_map (a :: r)
    have e2 : intsOf ((a :: r).map D.str) = none := rfl
    unfold fSorted
    simp only [e, e2, if_pos hl]
theorem sorted_prs (L : List (Int × Int)) : fSorted [.lst (L.map prD)] = some ((isrt ltP L).map prD) := by
  cases L with
  | nil => rfl
  | cons a r =>
    have e := prsOf_map (a :: r)
    have e2 : intsOf ((a :: r).map prD) = none := rfl
    have e3 : strsOf ((a :: r).map prD) = none := rfl
    unfold fSorted
    simp only [e, e2, e3]
theorem sum_ints (L : List Int) : fSum [.lst (L.map D.int)] = some (.int L.sum) := by
  unfold fSum
  simp only [intsOf_map]; rfl
theorem max_ints {a : Int} {L : List Int} : fMax [.lst ((a :: L).map D.int)] = some (.int (maxI (a :: L))) := by
  have e := intsOf_map (a :: L)
  unfold fMax
  simp only [e]
@[simp] theorem v_ne_i (x y : Int) : dNe (.int x) (.int y) = some (.bl (!decide (x = y))) := by
  have h := v_eq_i x y
  have e1 : dEq (.int x) (.int y) = if (shp (.int x) && shp (.int y)) = true then some (D.bl (deq (.int x) (.int y))) else none := rfl
  have e2 : dNe (.int x) (.int y) = if (shp (.int x) && shp (.int y)) = true then some (D.bl (!deq (.int x) (.int y))) else none := rfl
  rw [e1] at h
  rw [e2]
  by_cases c : (shp (.int x) && shp (.int y)) = true
  · rw [if_pos c] at h ⊢
    have := D.bl.inj (Option.some.inj h)
    rw [this]
  · rw [if_neg c] at h; cases h
def isCop : Ky → Bool
  | .cop _ => true
  | .txt _ => false
def copsOf : List Ky → List (Int × Int)
  | [] => []
  | .cop p :: r => p :: copsOf r
  | .txt _ :: r => copsOf r
theorem cops_filter : ∀ ks : List Ky, (ks.filter isCop).map Ky.d = (copsOf ks).map prD
  | [] => rfl
  | .cop p :: r => by rw [List.filter_cons_of_pos rfl, List.map_cons, cops_filter r]; rfl
  | .txt x :: r => by rw [List.filter_cons_of_neg (by simp [isCop]), cops_filter r]; rfl
theorem cops_map : ∀ cs : List (Int × Int), copsOf (cs.map Ky.cop) = cs
  | [] => rfl
  | p :: r => by rw [List.map_cons]; unfold copsOf; rw [cops_map r]
theorem cops_txt (l : List Nat) (ks : List Ky) : copsOf (l.map Ky.ltr ++ ks) = copsOf ks := by
  induction l with
  | nil => rfl
  | cons a r ih => rw [List.map_cons, List.cons_append]; exact ih
theorem cops_perm {a b : List Ky} (h : a.Perm b) : (copsOf a).Perm (copsOf b) := by
  induction h with
  | nil => exact List.Perm.refl _
  | cons x _ ih => cases x <;> unfold copsOf <;> first | exact ih | exact ih.cons _
  | swap x y l => cases x <;> cases y <;> simp only [copsOf] <;> first | exact List.Perm.refl _ | exact List.Perm.swap _ _ _
  | trans _ _ i1 i2 => exact i1.trans i2
theorem cops_keys (l : List Nat) (cs : List (Int × Int)) : copsOf (keysOf l cs) = cs := by
  unfold keysOf
  rw [cops_txt]
  exact cops_map cs
/-- the keys in their order -/
def ordOf (l : List Nat) (ks : List Ky) : List Ky := l.map Ky.ltr ++ ((isrt ltP (copsOf ks)).map Ky.cop ++ [Ky.fin])
theorem ord_perm {l : List Nat} {ks : List Ky} {cs : List (Int × Int)} (h : ks.Perm (keysOf l cs)) : (ordOf l ks).Perm ks := by
  have h1 := cops_perm h
  rw [cops_keys] at h1
  refine List.Perm.trans ?_ h.symm
  unfold ordOf keysOf
  refine List.Perm.append_left _ ?_
  exact (List.perm_append_comm).trans (((isrt_perm _).trans h1).map Ky.cop |>.cons Ky.fin)
end LV

namespace K13
open LV
theorem is_bits {w : List Nat} (h : ∀ c ∈ w, c = 48 ∨ c = 49) : F_is_bits [.d (.str w)] [] = .ok (.d (.bl true)) [] := by
  obtain ⟨o, ho⟩ := forGo_keep (g := fun c => D.str [c]) (i := 1) (body := b_is_bits_0) (st := []) (xs := w) (env := [some (.d (.str w)), none]) (fun c hc => by
    unfold b_is_bits_0
    rcases h c hc with rfl | rfl <;> simp) (by simp)
  unfold F_is_bits fnM m_is_bits
  simp [-List.map_map, ho]
theorem is_integer (i : Int) : F_is_integer [.d (.int i)] [] = .ok (.d (.bl true)) [] := by
  unfold F_is_integer fnM m_is_integer
  simp
theorem is_copy_p {p : Int × Int} (h1 : 2 ≤ p.1) (h2 : p.1 ≤ 8) (h3 : 1 ≤ p.2) (h4 : p.2 ≤ 8) : F_is_copy [.d (prD p)] [] = .ok (.d (.bl true)) [] := by
  have c1 := fun st => call_p1 (st := st) (is_integer p.1)
  have c2 := fun st => call_p1 (st := st) (is_integer p.2)
  obtain ⟨a, b⟩ := p
  have h1 : 2 ≤ a := h1
  have h2 : a ≤ 8 := h2
  have h3 : 1 ≤ b := h3
  have h4 : b ≤ 8 := h4
  have z2 : ¬ sizeL < 2 := by unfold sizeL; omega
  unfold F_is_copy fnM m_is_copy prD
  simp [c1, c2, h1, h2, h3, h4]
theorem is_copy_s (x : List Nat) : F_is_copy [.d (.str x)] [] = .ok (.d (.bl false)) [] := by
  unfold F_is_copy fnM m_is_copy
  simp
theorem is_letter {c : Nat} (h : 97 ≤ c ∧ c < 123) : F_is_letter [.d (.str [c])] [] = .ok (.d (.bl true)) [] := by
  have z1 : 1 ≤ sizeL := by unfold sizeL; omega
  have hin : c ∈ [97, 98, 99, 100, 101, 102, 103, 104, 105, 106, 107, 108, 109, 110, 111, 112, 113, 114, 115, 116, 117, 118, 119, 120, 121, 122] := by
    simp; omega
  unfold F_is_letter fnM m_is_letter
  simp [z1, hin]
theorem Keys.mem {l : List Nat} {ks : List Ky} (h : Keys l ks) {k : Ky} : k ∈ ks ↔ (∃ c ∈ l, k = .ltr c) ∨ k = .fin ∨ ∃ p, k = .cop p ∧ p ∈ copsOf ks := by
  obtain ⟨cs, _, _, hp⟩ := h.cs
  have hc := cops_perm hp
  rw [cops_keys] at hc
  rw [hp.mem_iff]
  unfold keysOf
  simp only [List.mem_append, List.mem_map, List.mem_cons]
  constructor
  · rintro (⟨c, hc, rfl⟩ | rfl | ⟨p, hp, rfl⟩)
    · exact .inl ⟨c, hc, rfl⟩
    · exact .inr (.inl rfl)
    · exact .inr (.inr ⟨p, rfl, hc.mem_iff.mpr hp⟩)
  · rintro (⟨c, hc, rfl⟩ | rfl | ⟨p, rfl, hp⟩)
    · exact .inl ⟨c, hc, rfl⟩
    · exact .inr (.inl rfl)
    · exact .inr (.inr ⟨p, hc.mem_iff.mp hp, rfl⟩)
theorem Keys.cop {l : List Nat} {ks : List Ky} (h : Keys l ks) {p : Int × Int} (hp : p ∈ copsOf ks) : 2 ≤ p.1 ∧ p.1 ≤ 8 ∧ 1 ≤ p.2 ∧ p.2 ≤ 8 := by
  obtain ⟨cs, _, ok, h1⟩ := h.cs
  have hc := cops_perm h1
  rw [cops_keys] at hc
  exact ok p (hc.mem_iff.mp hp)
theorem Keys.nodup {l : List Nat} {ks : List Ky} (h : Keys l ks) : ks.Nodup := by
  obtain ⟨cs, nd, ok, h1⟩ := h.cs
  exact h1.nodup_iff.mpr (keysOf_nodup (Letters.nodup h.az) nd)
theorem has_keys {l : List Nat} {t : Tb} (h : Keys l (t.map (·.1))) : F_has_keys [.d (.str l), .d (.dic t.d)] [] = .ok (.d (.bl true)) [] := by
  have ht : t.length ≤ 40 := by have := h.len; rwa [List.length_map] at this
  have z0 := h.l4
  have z1 : l.length ≤ sizeL := by unfold sizeL; omega
  have z2 : 1 ≤ sizeL := by unfold sizeL; omega
  obtain ⟨o, ho⟩ := forGo_keep (g := fun p : Ky × D => p.1.d) (i := 2) (body := b_has_keys_0) (st := []) (xs := t) (env := [some (.d (.str l)), some (.d (.dic t.d)), none, none]) (fun q hq => by
    obtain ⟨k, v⟩ := q
    have hk : k ∈ t.map (·.1) := List.mem_map.mpr ⟨_, hq, rfl⟩
    unfold b_has_keys_0
    rcases h.mem.mp hk with ⟨c, hc, rfl⟩ | rfl | ⟨p, rfl, hp⟩
    · have c1 := fun st => call_p1 (st := st) (is_copy_s [c])
      have c2 := fun st => call_p1 (st := st) (is_letter (h.az.az c hc))
      simp [Ky.d, c1, c2, hc]
    · simp [Ky.d]
    · obtain ⟨a1, a2, a3, a4⟩ := h.cop hp
      have c1 := fun st => call_p1 (st := st) (is_copy_p a1 a2 a3 a4)
      have c2 := ne_ts p (x := [101, 110, 100]) (by decide)
      simp [Ky.d, c1, c2]) (by simp)
  obtain ⟨o2, ho2⟩ := forGo_keep (g := fun c => D.str [c]) (i := 3) (body := b_has_keys_1) (st := []) (xs := l) (env := [some (.d (.str l)), some (.d (.dic t.d)), o, none]) (fun c hc => by
    have hm := look_has (h.mem.mpr (.inl ⟨c, hc, rfl⟩))
    have e : dNotInK (.str [c]) (.dic t.d) = some (.bl (!(Tb.look t (.ltr c)).isSome)) := v_not_in_k (.ltr c) t
    unfold b_has_keys_1
    simp [e, hm]) (by simp)
  have hm := look_has (h.mem.mpr (.inr (.inl rfl)))
  have e : dInK (.str [101, 110, 100]) (.dic t.d) = some (.bl (Tb.look t .fin).isSome) := v_in_k .fin t
  have ht' : ¬ (40 : Int) < t.length := by omega
  have hln : fLn [.dic t.d] = some (.int t.length) := by
    unfold fLn fLenD; rw [← Tb.len_d]; rfl
  unfold F_has_keys fnM m_has_keys
  simp [-List.map_map, Tb.keys_d, ho, ho2, e, hm, hln, ht']
theorem WT.len (t : WT) : t.tb.length = t.length := by unfold WT.tb; rw [List.length_map]
theorem are_words {l : List Nat} {t : WT} (h : Keys l (t.map (·.1))) (hp : PFree (t.map (·.2))) : F_are_words [.d (.str l), .d (.dic t.tb.d)] [] = .ok (.d (.bl true)) [] := by
  have ht : t.length ≤ 40 := by have := h.len; rwa [List.length_map] at this
  have t0 : t ≠ [] := by
    rintro rfl
    have := (h.mem (k := .fin)).mpr (.inr (.inl rfl))
    simp at this
  have hk := fun st => call_p2 (st := st) (has_keys (t := t.tb) (by rw [WT.keys]; exact h))
  have hv : t.tb.d.map Prod.snd = t.map fun p => D.str p.2 := by rw [Tb.vals_d]; unfold WT.tb; rw [List.map_map]; rfl
  obtain ⟨o, ho⟩ := forGo_keep (g := fun p : Ky × List Nat => D.str p.2) (i := 2) (body := b_are_words_0) (st := []) (xs := t) (env := [some (.d (.str l)), some (.d (.dic t.tb.d)), none, none, none, none]) (fun q hq => by
    obtain ⟨k, w⟩ := q
    have hw : w ∈ t.map (·.2) := List.mem_map.mpr ⟨_, hq, rfl⟩
    have b1 := hp.lo w hw
    have b2 := hp.hi w hw
    have c1 := fun st => call_p1 (st := st) (is_bits (hp.bits w hw))
    have z1 : w.length ≤ sizeL := by unfold sizeL; omega
    have b1' : ¬ (w.length : Int) < 1 := by omega
    have b2' : ¬ (12 : Int) < w.length := by omega
    unfold b_are_words_0
    simp [c1, z1, b1', b2']) (by simp)
  generalize hW : t.map (·.2) = W at hp
  have hW0 : W ≠ [] := by rw [← hW]; simpa using t0
  have hWl : W.length ≤ 40 := by rw [← hW, List.length_map]; exact ht
  have lc := nLc_all (it := iVs (mV 1)) (env := [some (.d (.str l)), some (.d (.dic t.tb.d)), o, none, none, none]) (vs := [5, 2]) (i := 2) (st := []) (st1 := []) (g := D.str) (xs := W) (f := D.str) (elt := mV 2) (by
    simp only [e_iVs, e_mV]
    simp [hv, ← hW]) (fun x hx a => by simp [wipeE]) (by unfold sizeL; omega)
  have hs := sorted_strs hW0 (by omega)
  have pS := isrt_perm (lt := ltS) W
  generalize isrt ltS W = S at hs pS
  have hpS := hp.perm pS.symm
  have hSl : S.length ≤ 40 := by rw [pS.length_eq]; exact hWl
  have hS1 : 1 ≤ S.length := by
    rw [pS.length_eq]
    cases W with
    | nil => exact absurd rfl hW0
    | cons _ _ => simp
  obtain ⟨o2, ho2⟩ := forGo_keep (g := fun (i : Nat) => D.int (i : Int)) (i := 4) (body := b_are_words_1) (st := []) (xs := List.range (S.length - 1)) (env := [some (.d (.str l)), some (.d (.dic t.tb.d)), o, some (.d (.lst (S.map D.str))), none, none]) (fun j hj => by
    have hj := List.mem_range.mp hj
    have g1 : S[j]? = some S[j] := List.getElem?_eq_getElem (by omega)
    have g2 : S[j + 1]? = some S[j + 1] := List.getElem?_eq_getElem (by omega)
    have ap := List.pairwise_iff_getElem.mp hpS.pf j (j + 1) (by omega) (by omega) (by omega)
    have a1 : L2.atI (S.map D.str) (j : Int) = some (.str S[j]) := atI_map g1
    have a2 : L2.atI (S.map D.str) ((j : Int) + 1) = some (.str S[j + 1]) := atI_map g2
    have hn : S[j].isPrefixOf S[j + 1] = false := Bool.eq_false_iff.mpr fun e => ap.1 (List.isPrefixOf_iff_prefix.mp e)
    unfold b_are_words_1
    simp [a1, a2, oSw_run, hn]) (by simp)
  have hit := iR1_n (r := aC (oL dSub (mFn fLn (aC (mV 3) aN)) (mC (.int 1))) aN) (env := [some (.d (.str l)), some (.d (.dic t.tb.d)), o, some (.d (.lst (S.map D.str))), none, none]) (st := []) (st1 := []) (n := S.length - 1) (by simp; omega) (by omega)
  rw [rng_map] at hit
  unfold F_are_words fnM m_are_words
  simp [-List.map_map, hk, hv, ho, lc, hs, hit, ho2]
theorem in_order {l : List Nat} {t : Tb} (h : Keys l (t.map (·.1))) : F_in_order [.d (.str l), .d (.dic t.d)] [] = .ok (.d (.lst ((ordOf l (t.map (·.1))).map Ky.d))) [] := by
  have ht : t.length ≤ 40 := by have := h.len; rwa [List.length_map] at this
  have z0 := h.l4
  generalize hK : t.map (·.1) = K at h
  have hkl : K.length ≤ 40 := by rw [← hK, List.length_map]; exact ht
  have lc := nLc_run (it := iKs (mV 1)) (env := [some (.d (.str l)), some (.d (.dic t.d)), none, none, none]) (vs := [3, 4]) (i := 4) (st := []) (st1 := []) (g := Ky.d) (xs := K) (p := isCop) (f := Ky.d)
    (cond := tTr (mIsi "tuple" (mV 4))) (elt := mV 4) (by simp [Tb.keys_d, ← hK]) (fun x hx a => by cases x <;> simp [wipeE, Ky.d, isCop, prD]) (fun x hx _ a => by simp [wipeE]) (by unfold sizeL; omega)
  rw [cops_filter] at lc
  have hs := sorted_prs (copsOf K)
  have hlen : (isrt ltP (copsOf K)).length ≤ 40 := by
    rw [(isrt_perm _).length_eq]
    have : ∀ ks : List Ky, (copsOf ks).length ≤ ks.length := by
      intro ks
      induction ks with
      | nil => exact Nat.le_refl _
      | cons a r ih => cases a <;> simp only [copsOf, List.length_cons] <;> omega
    exact Nat.le_trans (this K) hkl
  have e : (ordOf l K).map Ky.d = (l.map fun c => D.str [c]) ++ ((isrt ltP (copsOf K)).map prD ++ [.str [101, 110, 100]]) := by
    unfold ordOf
    rw [List.map_append, List.map_append, List.map_map, List.map_map]
    rfl
  have z1 : l.length ≤ sizeL := by unfold sizeL; omega
  have z2 : 1 ≤ sizeL := by unfold sizeL; omega
  have z3 : l.length + (isrt ltP (copsOf K)).length ≤ sizeL := by unfold sizeL; omega
  have z4 : l.length + (isrt ltP (copsOf K)).length + 1 ≤ sizeL := by unfold sizeL; omega
  rw [e]
  unfold F_in_order fnM m_in_order
  simp [lc, hs, z1, z2, z3, z4]
end K13

namespace LV
open PySem
@[simp] theorem gTu_2 (i j : Nat) (a b : D) (env : EnvU) (st : Sto) : gTu 2 (gsC (gN i) (gsC (gN j) gsN)) (.d (.tup [a, b])) env st = .nx ((env.set i (some (.d a))).set j (some (.d b))) st := rfl
theorem call_ck {F : Fm} {n k : Nat} {v : D} {ds : List D} {x : D} {x' : Option D} {st more : Sto} (hk : st[k]? = some (some x)) (h : F (U.c 0 :: ds.map U.d) [some x] = .ok (.d v) (x' :: more)) (hn : ds.length + 1 = n) : callA F n (U.c k :: ds.map U.d) st = .ok (.d v) (st.set k x' ++ more) := by
  unfold callA
  have e1 : selOf (U.c k :: ds.map U.d) = [k] := by
    show (if k ∈ selOf (ds.map U.d) then selOf (ds.map U.d) else k :: selOf (ds.map U.d)) = [k]
    rw [selOf_ds]; rfl
  have e2 : rens [k] (U.c k :: ds.map U.d) = some (U.c 0 :: ds.map U.d) := by
    show (match ren [k] (U.c k), rens [k] (ds.map U.d) with | some x, some xs => some (x :: xs) | _, _ => none) = _
    rw [rens_ds]; simp [ren]
  have e3 : live st [k] = some [some x] := by simp [live, hk]
  rw [if_pos (by simpa using hn), e1]
  unfold callU
  rw [if_pos (by simp), e2, e3]
  simp only [h]
  rw [if_neg (by simp)]
  simp [unren, putC]
theorem mGet2_run {md mk mz : ME} {env : EnvU} {st : Sto} {u : U} {t : Tb} {k : Ky} {z : D} (h1 : md env st = .ok u st) (h2 : get st u = some (.dic t.d)) (h3 : mk env st = .ok (.d k.d) st) (h4 : mz env st = .ok (.d z) st) : mGet2 md mk mz env st = .ok (.d ((Tb.look t k).getD z)) st := by
  have e : getDK (.dic t.d) k.d z = some ((Tb.look t k).getD z) := by
    show (nq k.d).map (fun n => (lookD t.d n).getD z) = _
    rw [nq_ky, Option.map_some, look_d]
  unfold mGet2
  simp only [h1, R.bind, h2, h3, h4, e_get_d, e]
theorem mFld_run {c f : PySem.Str} {m : ME} {env : EnvU} {st st1 : Sto} {u : U} {fs : List (PySem.Str × D)} {d : D} (h : m env st = .ok u st1) (hg : get st1 u = some (.obj c fs)) (hl : fs.lookup f = some d) : mFld c f m env st = .ok (.d d) st1 := by
  unfold mFld
  simp only [h, R.bind, hg, if_true, hl]
theorem putD_new {f : PySem.Str} {d : D} : ∀ {fs : List (PySem.Str × D)}, (∀ g ∈ fs.map (·.1), g ≠ f) → putD f d fs = fs ++ [(f, d)]
  | [], _ => rfl
  | (g, u) :: r, h => by
    unfold putD
    rw [if_neg (h g (by simp)), putD_new fun g' hg => h g' (by simp at hg ⊢; exact .inr hg)]; rfl
theorem sFldC_run {c f : PySem.Str} {ma mv : ME} {env : EnvU} {st st1 : Sto} {k : Nat} {fs : List (PySem.Str × D)} {d : D} {ns : List PySem.Str} (hv : mv env st = .ok (.d d) st1) (ha : ma env st1 = .ok (.c k) st1) (hk : st1[k]? = some (some (.obj c fs))) (hns : fs.map (·.1) = ns) (hl : ns.length < 1000) (hn : ∀ g ∈ ns, g ≠ f) :
    sFldC c f ma mv env st = .nx env (st1.set k (some (.obj c (fs ++ [(f, d)])))) := by
  have hl' : fs.length < 1000 := by rw [← hns, List.length_map] at hl; exact hl
  have hn' : ∀ g ∈ fs.map (·.1), g ≠ f := by rw [hns]; exact hn
  unfold sFldC
  simp only [hv, R.thenS, ha, hk, hl', and_self, if_true, putD_new hn']
/-- the word of a key -/
def wd : WT → Ky → List Nat
  | [], _ => []
  | (a, w) :: r, k => if a = k then w else wd r k
theorem look_wd : ∀ {t : WT} {k : Ky}, k ∈ t.map (·.1) → Tb.look t.tb k = some (.str (wd t k))
  | (a, w) :: r, k, h => by
    show (if a = k then some (D.str w) else Tb.look (WT.tb r) k) = some (.str (if a = k then w else wd r k))
    by_cases e : a = k
    · rw [if_pos e, if_pos e]
    · rw [if_neg e, if_neg e]
      refine look_wd ?_
      rcases List.mem_cons.mp h with h | h
      · exact absurd h.symm e
      · exact h
theorem wd_mem : ∀ {t : WT} {k : Ky}, k ∈ t.map (·.1) → wd t k ∈ t.map (·.2)
  | (a, w) :: r, k, h => by
    show (if a = k then w else wd r k) ∈ w :: r.map (·.2)
    by_cases e : a = k
    · rw [if_pos e]; exact List.mem_cons_self
    · rw [if_neg e]
      refine List.mem_cons_of_mem _ (wd_mem ?_)
      rcases List.mem_cons.mp h with h | h
      · exact absurd h.symm e
      · exact h
theorem wd_keys : ∀ {t : WT}, (t.map (·.1)).Nodup → (t.map (·.1)).map (wd t) = t.map (·.2)
  | [], _ => rfl
  | (a, w) :: r, nd => by
    have n2 := List.nodup_cons.mp nd
    show (if a = a then w else wd r a) :: (r.map (·.1)).map (wd ((a, w) :: r)) = w :: r.map (·.2)
    rw [if_pos rfl, ← wd_keys n2.2]
    congr 1
    refine List.map_congr_left fun k hk => ?_
    show (if a = k then w else wd r k) = wd r k
    rw [if_neg fun e => n2.1 (by rw [e]; exact hk)]
theorem sum_cast (L : List Nat) : (L.map fun n : Nat => (n : Int)).sum = ((L.sum : Nat) : Int) := by
  induction L with
  | nil => rfl
  | cons a r ih => simp [ih]
end LV

namespace K13
open LV
def need : Ky → Int
  | .cop p => p.2
  | .txt _ => 0
def rch : Ky → Int
  | .cop p => p.1
  | .txt x => if x = [101, 110, 100] then 0 else 1
theorem needed (k : Ky) : F_needed [.d k.d] [] = .ok (.d (.int (need k))) [] := by
  unfold F_needed fnM m_needed
  cases k <;> simp [Ky.d, prD, need]
theorem reach (k : Ky) : F_reach [.d k.d] [] = .ok (.d (.int (rch k))) [] := by
  unfold F_reach fnM m_reach
  cases k with
  | cop p => simp [Ky.d, prD, rch]
  | txt x => by_cases h : x = [101, 110, 100] <;> simp [Ky.d, rch, h]
/-- a table of numbers -/
def Nums (t : Tb) : Prop := ∀ q ∈ t, ∃ i : Int, q.2 = .int i
theorem Nums.look {t : Tb} (h : Nums t) (k : Ky) (z : Int) : ∃ i : Int, (Tb.look t k).getD (.int z) = .int i := by
  by_cases e : k ∈ t.map (·.1)
  · obtain ⟨v, h1, h2⟩ := tlook_some e
    obtain ⟨i, hi⟩ := h _ h2
    exact ⟨i, by rw [h1]; exact hi⟩
  · exact ⟨z, by rw [tlook_none e]; rfl⟩
theorem Nums.put {t : Tb} (h : Nums t) (k : Ky) (i : Int) : Nums (Tb.put t k (.int i)) := fun q hq => by
  rcases put_mem hq with hq | rfl
  · exact h q hq
  · exact ⟨i, rfl⟩
end K13

namespace K13
open LV
/-- the words in the order of the keys -/
def fmtFs (l : List Nat) (t : WT) (hd : Tb) : List (PySem.Str × D) :=
  let o := ordOf l (t.map (·.1))
  [("letters", .str l), ("order", .lst (o.map Ky.d)), ("coded_words", .dic (WT.tb (o.map fun k => (k, wd t k))).d),
   ("prices", .dic (Tb.d (o.map fun k => (k, .int ((wd t k).length : Int))))), ("by_word", .dic (Tb.d (o.map fun k => (.txt (wd t k), k.d)))),
   ("heads", .dic hd.d), ("copy_list", .lst ((isrt ltP (copsOf (t.map (·.1)))).map prD)), ("window", .int (maxI (o.map need))), ("longest", .int (maxI (o.map rch)))]
abbrev snocF (fs : List (PySem.Str × D)) (f : PySem.Str) (d : D) : List (PySem.Str × D) := fs ++ [(f, d)]
theorem cops_ord (l : List Nat) (ks : List Ky) : copsOf (ordOf l ks) = isrt ltP (copsOf ks) := by
  unfold ordOf
  rw [cops_txt]
  generalize isrt ltP (copsOf ks) = L
  induction L with
  | nil => rfl
  | cons a r ih => rw [List.map_cons, List.cons_append]; unfold copsOf; rw [ih]
theorem max_map {ks : List Ky} {f : Ky → Int} (h : ks ≠ []) : fMax [.lst (ks.map fun k => D.int (f k))] = some (.int (maxI (ks.map f))) := by
  cases ks with
  | nil => exact absurd rfl h
  | cons a r =>
    have := max_ints (a := f a) (L := r.map f)
    rw [← List.map_cons (f := f), List.map_map] at this
    exact this
end K13

namespace LV
open PySem
@[simp] theorem e_sAug (i : Nat) (om : O2) (m : ME) (env : EnvU) (st : Sto) : sAug i om m env st = bs (oR (env[i]?).join st) env fun u st0 => bs (m env st0) env fun v st1 => bs (om u v st1) env fun z st2 => .nx (env.set i (some z)) st2 := by
  unfold sAug bs oR
  rcases env[i]? with _ | _ | u <;> rfl
@[simp] theorem v_iI (f : Int → Int → Int) (x y : Int) : iI f (.int x) (.int y) = some (.int (f x y)) := rfl
def lv (f : D × D → D) (o : Option D) (st : Sto) : R D := match o with
  | some (.dic kvs) => .ok (.lst (kvs.map f)) st
  | _ => .bad
@[simp] theorem e_nLv (f : D × D → D) (m : ME) (env : EnvU) (st : Sto) : nLv f m env st = bd (m env st) fun u st1 => lv f (get st1 u) st1 := Eq.trans rfl rfl
@[simp] theorem lv_dic (f : D × D → D) (kvs : List (D × D)) (st : Sto) : lv f (some (.dic kvs)) st = .ok (.lst (kvs.map f)) st := rfl
@[simp] theorem e_mMake (c : PySem.Str) (F : Fm) (n : Nat) (r : MA) (env : EnvU) (st : Sto) : mMake c F n r env st = bd (r env st) fun us st1 => mkA c F n us st1 := rfl
theorem mkA_run {c : PySem.Str} {F : Fm} {n : Nat} {ds : List D} {x : D} {st : Sto} (h : F (U.c 0 :: ds.map U.d) [some (.obj c [])] = .ok (.d .non) [some x]) (hn : ds.length + 1 = n) : mkA c F n (ds.map U.d) st = .ok (.c st.length) (st ++ [some x]) := by
  have hc := call_ck (k := st.length) (st := st ++ [some (.obj c [])]) (x := .obj c []) (by simp) h hn
  unfold mkA
  rw [hc, set_end]
  simp [R.bind]
theorem powOk_of {i j : Int} (h0 : 0 ≤ j) (h1 : j ≤ 1000) (h2 : i.natAbs < 100000) : powOk i j = true := by
  unfold powOk
  exact decide_eq_true ⟨h0, by omega, Nat.lt_trans h2 (by decide +kernel)⟩
theorem bitAnd_one (x : Nat) : Builtin.bitAnd ((x : Nat) : Int) 1 = ((x % 2 : Nat) : Int) := by
  have h : Builtin.bitAnd ((x : Nat) : Int) 1 = ((((x : Int).toNat &&& (1 : Int).toNat : Nat)) : Int) := by
    unfold Builtin.bitAnd
    have e1 : decide (0 ≤ (x : Int)) = true := decide_eq_true (by omega)
    have e2 : decide (0 ≤ (1 : Int)) = true := by decide
    rw [e1, e2]
  rw [h]
  have e3 : (1 : Int).toNat = 1 := rfl
  rw [e3, Int.toNat_natCast, Nat.and_one_is_mod]
@[simp] theorem v_and_i (x y : Int) : dAnd (.int x) (.int y) = some (.int (Builtin.bitAnd x y)) := rfl
/-- a table of prices -/
abbrev PT := List (Ky × Nat)
def PT.tb (t : PT) : Tb := t.map fun p => (p.1, D.int (p.2 : Int))
theorem PT.keys (t : PT) : t.tb.map (·.1) = t.map (·.1) := by unfold PT.tb; rw [List.map_map]; rfl
theorem PT.len (t : PT) : t.tb.length = t.length := by unfold PT.tb; rw [List.length_map]
theorem PT.vals (t : PT) : t.tb.d.map Prod.snd = (t.map fun x : Ky × Nat => x.2).map fun p : Nat => D.int (p : Int) := by rw [Tb.vals_d]; unfold PT.tb; rw [List.map_map, List.map_map]; rfl
/-- the price of a key -/
def pr : PT → Ky → Nat
  | [], _ => 0
  | (a, w) :: r, k => if a = k then w else pr r k
theorem look_pr : ∀ {t : PT} {k : Ky}, k ∈ t.map (·.1) → Tb.look t.tb k = some (.int (pr t k : Int))
  | (a, w) :: r, k, h => by
    show (if a = k then some (D.int (w : Int)) else Tb.look (PT.tb r) k) = some (.int ((if a = k then w else pr r k : Nat) : Int))
    by_cases e : a = k
    · rw [if_pos e, if_pos e]
    · rw [if_neg e, if_neg e]
      refine look_pr ?_
      rcases List.mem_cons.mp h with h | h
      · exact absurd h.symm e
      · exact h
theorem pr_mem : ∀ {t : PT} {k : Ky}, k ∈ t.map (·.1) → pr t k ∈ t.map (·.2)
  | (a, w) :: r, k, h => by
    show (if a = k then w else pr r k) ∈ w :: r.map (·.2)
    by_cases e : a = k
    · rw [if_pos e]; exact List.mem_cons_self
    · rw [if_neg e]
      refine List.mem_cons_of_mem _ (pr_mem ?_)
      rcases List.mem_cons.mp h with h | h
      · exact absurd h.symm e
      · exact h
theorem pr_keys : ∀ {t : PT}, (t.map (·.1)).Nodup → (t.map (·.1)).map (pr t) = t.map (·.2)
  | [], _ => rfl
  | (a, w) :: r, nd => by
    have n2 := List.nodup_cons.mp nd
    show (if a = a then w else pr r a) :: (r.map (·.1)).map (pr ((a, w) :: r)) = w :: r.map (·.2)
    rw [if_pos rfl, ← pr_keys n2.2]
    congr 1
    refine List.map_congr_left fun k hk => ?_
    show (if a = k then w else pr r k) = pr r k
    rw [if_neg fun e => n2.1 (by rw [e]; exact hk)]
end LV

namespace K13
open LV
end K13

namespace LV
open PySem
/-- the table of the words by their rising prices -/
def mkT (kf : Nat → Ky) (pf : Nat → Nat) : Nat → List Nat → WT
  | _, [] => []
  | S, i :: r => (kf i, bitsOf (S / 2 ^ (12 - pf i)) (pf i)) :: mkT kf pf (S + 2 ^ (12 - pf i)) r
theorem mkT_keys (kf : Nat → Ky) (pf : Nat → Nat) : ∀ (S : Nat) (I : List Nat), (mkT kf pf S I).map (·.1) = I.map kf
  | _, [] => rfl
  | S, i :: r => by unfold mkT; rw [List.map_cons, List.map_cons, mkT_keys kf pf _ r]
theorem mkT_words (kf : Nat → Ky) (pf : Nat → Nat) : ∀ (S : Nat) (I : List Nat), (mkT kf pf S I).map (·.2) = canon S (I.map pf)
  | _, [] => rfl
  | S, i :: r => by unfold mkT; rw [List.map_cons, List.map_cons, canon, mkT_words kf pf _ r]
/-- a sorted list of pairs with a place each -/
theorem places {pf : Nat → Nat} {n : Nat} {R : List (Int × Int)} (h : R.Perm ((List.range n).map fun i : Nat => ((pf i : Int), (i : Int)))) : ∃ I : List Nat, I.Perm (List.range n) ∧ R = I.map fun i : Nat => ((pf i : Int), (i : Int)) := by
  refine ⟨R.map fun r => r.2.toNat, ?_, ?_⟩
  · have := h.map fun r => r.2.toNat
    rw [List.map_map] at this
    have e : ((fun r : Int × Int => r.2.toNat) ∘ fun i : Nat => ((pf i : Int), (i : Int))) = id := by funext i; simp
    rwa [e, List.map_id] at this
  · rw [List.map_map]
    refine (List.map_id R).symm.trans (List.map_congr_left fun r hr => ?_)
    obtain ⟨i, _, rfl⟩ := List.mem_map.mp (h.mem_iff.mp hr)
    simp
end LV

namespace K13
open LV
end K13

namespace LV
open PySem
theorem ltP_le {x y : Int × Int} (h : ltP y x = false) : x.1 ≤ y.1 := by
  unfold ltP SrtO.lexB at h
  by_cases e : y.1 = x.1
  · omega
  · rw [if_neg e, decide_eq_false_iff_not] at h; omega
theorem fin_c {k j : Nat} {d : D} {st : Sto} (hk : k ≤ j) (h : st[j]? = some (some d)) : fin k (.rt (.c j) st) = .ok (.c k) (st.take k ++ [some d]) := by
  unfold fin
  simp only [h]
  rw [if_neg (by omega)]
theorem tryAs_nx {mt : Str → Option Bool} {i : Nat} {mb ms : MS} {env e : EnvU} {st s : Sto} (h : mb env st = .nx e s) : sTryAs mt i mb ms env st = .nx e s := by
  unfold sTryAs
  simp only [h]
theorem tryAs_exc {mt : Str → Option Bool} {i : Nat} {mb ms : MS} {env e : EnvU} {st s : Sto} {x : Xc} (h : mb env st = .exc x e s) (hm : mt x.c = some true) : sTryAs mt i mb ms env st = tryEnd i (ms (e.set i (some (.x x))) s) := by
  unfold sTryAs
  simp only [h, hm]
end LV

namespace K13
open LV
end K13

namespace LV
open PySem
theorem call_ckc {F : Fm} {n k : Nat} {ds : List D} {x : D} {x' : Option D} {st more : Sto} (hk : st[k]? = some (some x)) (h : F (U.c 0 :: ds.map U.d) [some x] = .ok (.c 1) (x' :: more)) (hn : ds.length + 1 = n) : callA F n (U.c k :: ds.map U.d) st = .ok (.c st.length) (st.set k x' ++ more) := by
  unfold callA
  have e1 : selOf (U.c k :: ds.map U.d) = [k] := by
    show (if k ∈ selOf (ds.map U.d) then selOf (ds.map U.d) else k :: selOf (ds.map U.d)) = [k]
    rw [selOf_ds]; rfl
  have e2 : rens [k] (U.c k :: ds.map U.d) = some (U.c 0 :: ds.map U.d) := by
    show (match ren [k] (U.c k), rens [k] (ds.map U.d) with | some x, some xs => some (x :: xs) | _, _ => none) = _
    rw [rens_ds]; simp [ren]
  have e3 : live st [k] = some [some x] := by simp [live, hk]
  rw [if_pos (by simpa using hn), e1]
  unfold callU
  rw [if_pos (by simp), e2, e3]
  simp only [h]
  rw [if_neg (by simp)]
  simp [unren, putC]
@[simp] theorem v_isn (d : D) : dIsN d .non = some (.bl (isNon d)) := rfl
@[simp] theorem isNon_int (i : Int) : isNon (.int i) = false := rfl
@[simp] theorem isNon_str (i : List Nat) : isNon (.str i) = false := rfl
@[simp] theorem isNon_tup (i : List D) : isNon (.tup i) = false := rfl
@[simp] theorem isNon_lst (i : List D) : isNon (.lst i) = false := rfl
@[simp] theorem isNon_bl (i : Bool) : isNon (.bl i) = false := rfl
theorem put_last : ∀ {t : Tb} {k : Ky} {u v : D}, k ∉ t.map (·.1) → Tb.put (t ++ [(k, u)]) k v = t ++ [(k, v)]
  | [], k, u, v, _ => by show (if k = k then [(k, v)] else _) = _; rw [if_pos rfl]; rfl
  | (a, x) :: r, k, u, v, h => by
    have h1 : a ≠ k := fun e => h (by rw [e]; simp)
    have h2 : k ∉ r.map (·.1) := fun e => h (by simp at e ⊢; exact .inr e)
    rw [List.cons_append]
    unfold Tb.put
    rw [if_neg h1, put_last h2]; rfl
end LV

namespace K13
open LV
theorem law_is_int (i : Int) : F_law_is_int [.d (.int i)] [] = .ok (.d (.bl true)) [] := by
  unfold F_law_is_int fnM m_law_is_int
  simp
theorem same_int (n : Nat) (i : Int) : F_law_same (n + 1) [.d (.int i), .d (.int i)] [] = .ok (.d (.bl true)) [] := by
  have c1 := fun st => call_p1 (st := st) (law_is_int i)
  unfold F_law_same fnM m_law_same
  simp [c1]
theorem same_str (n : Nat) (x : List Nat) : F_law_same (n + 1) [.d (.str x), .d (.str x)] [] = .ok (.d (.bl true)) [] := by
  unfold F_law_same fnM m_law_same
  simp
theorem copied_go {a : U} {t : Tb} {pre : Sto} (hg : ∀ d, get (pre ++ [some (.dic d)]) a = some (.dic t.d)) (nd : (t.map (·.1)).Nodup) (hl : t.length ≤ 100) : ∀ {r acc : Tb} {o : Option U}, acc ++ r = t →
    ∃ o', forGo (gN 2) b_law_copied_0 ((r.map fun p : Ky × D => p.1.d).map U.d) [some a, some (.c pre.length), o] (pre ++ [some (.dic acc.d)]) = .nx [some a, some (.c pre.length), o'] (pre ++ [some (.dic t.d)])
  | [], acc, o, h => ⟨o, by rw [List.append_nil] at h; subst h; rfl⟩
  | (k, v) :: r, acc, o, h => by
    have hm : (k, v) ∈ t := by rw [← h]; exact List.mem_append_right _ List.mem_cons_self
    have hlk := tlook_mem nd hm
    have hni : k ∉ acc.map (·.1) := by
      rw [← h, List.map_append] at nd
      exact fun q => (List.nodup_append.mp nd).2.2 _ q _ List.mem_cons_self rfl
    have hla : acc.length < sizeL := by
      have := congrArg List.length h
      simp at this
      unfold sizeL; omega
    have hs := subK_new (st := pre ++ [some (.dic acc.d)]) (k := pre.length) (t := acc) (ky := k) (v := v) (at_end _ _) hni hla
    rw [set_end] at hs
    obtain ⟨o', ih⟩ := copied_go (a := a) hg nd hl (r := r) (acc := acc ++ [(k, v)]) (o := some (.d k.d)) (by simpa using h)
    refine ⟨o', ?_⟩
    have hb : b_law_copied_0 [some a, some (.c pre.length), some (.d k.d)] (pre ++ [some (.dic acc.d)]) = .nx [some a, some (.c pre.length), some (.d k.d)] (pre ++ [some (.dic (Tb.d (acc ++ [(k, v)])))]) := by
      have hga := hg acc.d
      have hdx : dDx (.dic t.d) k.d = some v := by rw [v_dx]; exact hlk
      unfold b_law_copied_0
      simp [hga, hdx, hs]
    rw [List.map_cons, List.map_cons]
    unfold forGo
    simp only [e_gN, List.set_cons_succ, List.set_cons_zero, hb]
    exact ih
theorem copied_d {t : Tb} (nd : (t.map (·.1)).Nodup) (hl : t.length ≤ 100) : F_law_copied [.d (.dic t.d)] [] = .ok (.c 0) [some (.dic t.d)] := by
  obtain ⟨o, ho⟩ := copied_go (a := .d (.dic t.d)) (t := t) (pre := []) (fun d => rfl) nd hl (r := t) (acc := []) (o := none) rfl
  have ho' : forGo (gN 2) b_law_copied_0 ((t.map fun p : Ky × D => p.1.d).map U.d) [some (.d (.dic t.d)), some (.c 0), none] [some (.dic [])] = .nx [some (.d (.dic t.d)), some (.c 0), o] [some (.dic t.d)] := ho
  unfold F_law_copied fnM m_law_copied
  simp [-List.map_map, Tb.keys_d, ho', fin]
theorem copied_c {t : Tb} (nd : (t.map (·.1)).Nodup) (hl : t.length ≤ 100) : F_law_copied [.c 0] [some (.dlk t.d)] = .ok (.c 1) [some (.dlk t.d), some (.dic t.d)] := by
  obtain ⟨o, ho⟩ := copied_go (a := .c 0) (t := t) (pre := [some (.dlk t.d)]) (fun d => rfl) nd hl (r := t) (acc := []) (o := none) rfl
  have ho' : forGo (gN 2) b_law_copied_0 ((t.map fun p : Ky × D => p.1.d).map U.d) [some (.c 0), some (.c 1), none] [some (.dlk t.d), some (.dic [])] = .nx [some (.c 0), some (.c 1), o] [some (.dlk t.d), some (.dic t.d)] := ho
  unfold F_law_copied fnM m_law_copied
  have hk : dkU (.c 0) [some (.dlk t.d), some (.dic [])] = some t.d := rfl
  simp [-List.map_map, hk, Tb.keys_d, ho', fin]
theorem frz_lk {i k : Nat} {env : EnvU} {st : Sto} {t : Tb} (hi : env[i]? = some (some (.c k))) (hk : st[k]? = some (some (.dic t.d))) (nd : (t.map (·.1)).Nodup) (hl : t.length ≤ 100) :
    mFrz (mLkV i (mCallA F_law_copied 1 (aC (mV i) aN))) env st = .ok (.d (.dic t.d)) (st ++ [none]) := by
  have hkl := (List.getElem?_eq_some_iff.mp hk).1
  have hk2 : (st.set k (some (.dlk t.d)))[k]? = some (some (.dlk t.d)) := by simp [hkl]
  have hc := call_ckc (F := F_law_copied) (ds := []) (n := 1) hk2 (copied_c nd hl) rfl
  have hc' : callA F_law_copied 1 [U.c k] (st.set k (some (.dlk t.d))) = .ok (.c st.length) (st.set k (some (.dlk t.d)) ++ [some (.dic t.d)]) := by
    rw [List.set_set, List.length_set] at hc; exact hc
  have hk3 : (st.set k (some (.dlk t.d)) ++ [some (.dic t.d)])[k]? = some (some (.dlk t.d)) := by
    rw [List.getElem?_append_left (by simpa using hkl)]; exact hk2
  have hset : (st.set k (some (.dlk t.d)) ++ [some (D.dic t.d)]).set k (some (D.dic t.d)) = st ++ [some (D.dic t.d)] := by
    rw [List.set_append_left _ _ (by simpa using hkl), List.set_set]
    congr 1
    refine List.ext_getElem? fun j => ?_
    by_cases hj : k = j
    · subst hj; rw [List.getElem?_set_self hkl, hk]
    · rw [List.getElem?_set_ne hj]
  have hm : mLkV i (mCallA F_law_copied 1 (aC (mV i) aN)) env st = .ok (.c st.length) (st ++ [some (.dic t.d)]) := by
    unfold mLkV
    have hme : mCallA F_law_copied 1 (aC (mV i) aN) env (st.set k (some (.dlk t.d))) = .ok (.c st.length) (st.set k (some (.dlk t.d)) ++ [some (.dic t.d)]) := by simp [hi, hc']
    simp only [hi, hk, hme, hk3, hset]
  rw [e_mFrz, hm, bd_ok]
  simp [fzU, isLk]
theorem frz_copied {t : Tb} (nd : (t.map (·.1)).Nodup) (hl : t.length ≤ 100) {m : ME} {env : EnvU} {st : Sto} (hm : m env st = .ok (.d (.dic t.d)) st) : mFrz (mCallA F_law_copied 1 (aC m aN)) env st = .ok (.d (.dic t.d)) (st ++ [none]) := by
  have hc := call_dc (st := st) (F := F_law_copied) (ds := [.dic t.d]) (n := 1) (copied_d nd hl) rfl
  have hc' : callA F_law_copied 1 [U.d (.dic t.d)] st = .ok (.c st.length) (st ++ [some (.dic t.d)]) := hc
  rw [e_mFrz, e_mCallA]
  simp [hm, hc', fzU, isLk]
end K13

namespace LV
@[simp] theorem e_mCallK (F : Fm) (n np nk : Nat) (o : Ord) (r rk : MA) (env : EnvU) (st : Sto) : mCallK F n np nk o r rk env st = bd (r env st) fun us st1 => bd (rk env st1) fun ws st2 => if us.length = np ∧ ws.length = nk then callA F n (o U us ws) st2 else .bad := rfl
/-- a table, built key by key -/
theorem build_go {α : Type} {body : MS} {i : Nat} {pre : Sto} {E : EnvU} {kf : α → Ky} {vf : α → D} : ∀ {xs : List α} {acc : Tb}, (∀ x ∈ xs, ∀ acc : Tb, kf x ∉ acc.map (·.1) → acc.length < 100 → body (E.set i (some (.d (kf x).d))) (pre ++ [some (.dic acc.d)]) = .nx (E.set i (some (.d (kf x).d))) (pre ++ [some (.dic (Tb.d (acc ++ [(kf x, vf x)])))])) →
    (acc.map (·.1) ++ xs.map kf).Nodup → acc.length + xs.length ≤ 100 → ∀ o, ∃ o', forGo (gN i) body ((xs.map fun x => (kf x).d).map U.d) (E.set i o) (pre ++ [some (.dic acc.d)]) = .nx (E.set i o') (pre ++ [some (.dic (Tb.d (acc ++ xs.map fun x => (kf x, vf x))))])
  | [], acc, _, _, _, o => ⟨o, by simp [forGo]⟩
  | x :: r, acc, h, nd, hl, o => by
    have hb := h x List.mem_cons_self acc (fun q => (List.nodup_append.mp nd).2.2 _ q _ List.mem_cons_self rfl) (by simp at hl; omega)
    obtain ⟨o', ih⟩ := build_go (kf := kf) (vf := vf) (xs := r) (acc := acc ++ [(kf x, vf x)]) (fun y hy => h y (List.mem_cons_of_mem _ hy)) (by simpa using nd) (by simp at hl ⊢; omega) (some (.d (kf x).d))
    refine ⟨o', ?_⟩
    rw [List.map_cons, List.map_cons]
    unfold forGo
    simp only [e_gN, List.set_set, hb]
    rw [ih, List.append_assoc]; rfl
end LV

namespace K13
open LV
theorem law_start (ns : List Int) : F_law_start [.d (.lsx (ns.map D.int))] [] = .ok (.c 0) [some (stD ns 0 0 1234577)] := by
  have z : 4 ≤ sizeL := by unfold sizeL; omega
  have z' : ¬ sizeL < 4 := by unfold sizeL; omega
  unfold F_law_start fnM m_law_start
  simp [z, z', fin, stD]
end K13

/-! R1 -/
set_option Elab.async false
set_option linter.all false
set_option maxRecDepth 100000
set_option maxHeartbeats 1000000
namespace LV
open PySem
/-! ### heads, exactly -/
theorem cutL_take {α : Type} (w : List α) (i : Nat) : cutL w none (some (i : Int)) = w.take i := by
  unfold cutL
  have h1 : HT.sIx w.length 0 none = 0 := rfl
  have h2 : HT.sIx w.length w.length (some (i : Int)) = min i w.length := by
    unfold HT.sIx
    simp
    try omega
  rw [h1, h2, List.drop_zero, Nat.sub_zero, ← List.take_eq_take_min]
/-- what the table of heads tells of the heads put into it -/
def HdOk (ps : List (List Nat × Int)) (hd : Tb) : Prop := ∀ h, match Tb.look hd (.txt h) with
  | none => ∀ p ∈ ps, p.1 ≠ h
  | some d => ∃ m : Int, d = .int m ∧ (∃ p ∈ ps, p.1 = h ∧ p.2 = m) ∧ ∀ p ∈ ps, p.1 = h → m ≤ p.2
theorem HdOk.put {ps : List (List Nat × Int)} {hd : Tb} (H : HdOk ps hd) (h : List Nat) (n : Int) : ∃ z : Int, (Tb.look hd (.txt h)).getD (.int n) = .int z ∧ HdOk (ps ++ [(h, n)]) (Tb.put hd (.txt h) (.int (min z n))) := by
  have Hh := H h
  cases e : Tb.look hd (.txt h) with
  | none =>
    rw [e] at Hh
    refine ⟨n, rfl, fun h' => ?_⟩
    rw [look_put]
    by_cases q : Ky.txt h = Ky.txt h'
    · cases q
      rw [if_pos rfl]
      refine ⟨min n n, rfl, ⟨(h, n), by simp, rfl, by simp⟩, fun p hp hh => ?_⟩
      rcases List.mem_append.mp hp with hp | hp
      · exact absurd hh (Hh p hp)
      · rw [List.mem_singleton] at hp; subst hp; simp
    · rw [if_neg q]
      have q' : h ≠ h' := fun e => q (by rw [e])
      have H' := H h'
      cases e' : Tb.look hd (.txt h') with
      | none =>
        rw [e'] at H'
        intro p hp
        rcases List.mem_append.mp hp with hp | hp
        · exact H' p hp
        · rw [List.mem_singleton] at hp; subst hp; exact q'
      | some d =>
        rw [e'] at H'
        obtain ⟨m, h1, ⟨p, h2, h3⟩, h4⟩ := H'
        refine ⟨m, h1, ⟨p, List.mem_append_left _ h2, h3⟩, fun p hp hh => ?_⟩
        rcases List.mem_append.mp hp with hp | hp
        · exact h4 p hp hh
        · rw [List.mem_singleton] at hp; subst hp; exact absurd hh q'
  | some d =>
    rw [e] at Hh
    obtain ⟨m, rfl, ⟨p0, k1, k2, k3⟩, k4⟩ := Hh
    refine ⟨m, rfl, fun h' => ?_⟩
    rw [look_put]
    by_cases q : Ky.txt h = Ky.txt h'
    · cases q
      rw [if_pos rfl]
      refine ⟨min m n, rfl, ?_, fun p hp hh => ?_⟩
      · by_cases c : m ≤ n
        · exact ⟨p0, List.mem_append_left _ k1, k2, by rw [k3]; omega⟩
        · exact ⟨(h, n), by simp, rfl, by simp only; omega⟩
      · rcases List.mem_append.mp hp with hp | hp
        · have := k4 p hp hh; omega
        · rw [List.mem_singleton] at hp; subst hp; simp only; omega
    · rw [if_neg q]
      have q' : h ≠ h' := fun e => q (by rw [e])
      have H' := H h'
      cases e' : Tb.look hd (.txt h') with
      | none =>
        rw [e'] at H'
        intro p hp
        rcases List.mem_append.mp hp with hp | hp
        · exact H' p hp
        · rw [List.mem_singleton] at hp; subst hp; exact q'
      | some d =>
        rw [e'] at H'
        obtain ⟨m, h1, ⟨p, h2, h3⟩, h4⟩ := H'
        refine ⟨m, h1, ⟨p, List.mem_append_left _ h2, h3⟩, fun p hp hh => ?_⟩
        rcases List.mem_append.mp hp with hp | hp
        · exact h4 p hp hh
        · rw [List.mem_singleton] at hp; subst hp; exact absurd hh q'
end LV
namespace K13
open LV
/-- the heads of one word -/
def hds (k : Ky) (w : List Nat) (n : Nat) : List (List Nat × Int) := (List.range n).map fun i => (w.take i, need k)
def hdsAll (t : WT) : List (List Nat × Int) := t.flatMap fun p => hds p.1 p.2 (p.2.length + 1)
theorem hdsAll_mem {t : WT} {h : List Nat} {n : Int} : (h, n) ∈ hdsAll t ↔ ∃ p ∈ t, h <+: p.2 ∧ need p.1 = n := by
  unfold hdsAll hds
  simp only [List.mem_flatMap, List.mem_map, List.mem_range, Prod.mk.injEq]
  constructor
  · rintro ⟨p, hp, i, hi, rfl, rfl⟩
    exact ⟨p, hp, List.take_prefix _ _, rfl⟩
  · rintro ⟨p, hp, hpre, rfl⟩
    refine ⟨p, hp, h.length, by have := hpre.length_le; omega, ?_, rfl⟩
    exact (List.prefix_iff_eq_take.mp hpre).symm
/-- a format's heads -/
structure Heads (t : WT) (hd : Tb) : Prop where
  ok : HdOk (hdsAll t) hd
theorem heads_of {t : WT} (hl : t.length ≤ 40) (h12 : ∀ w ∈ t.map (·.2), w.length ≤ 12) : ∃ hd : Tb, HdOk (hdsAll t) hd ∧ F_heads_of [.d (.dic t.tb.d)] [] = .ok (.d (.dic hd.d)) [] := by
  have loop := forGo_inv (t := gTu 2 (gsC (gN 2) (gsC (gN 3) gsN))) (body := b_heads_of_1)
    (I := fun k env st => ∃ hd o2 o3 o4 o5, env = [some (.d (.dic t.tb.d)), some (.c 0), o2, o3, o4, o5] ∧ st = [some (.dic (Tb.d hd))] ∧ HdOk (hdsAll (t.take k)) hd ∧ hd.length ≤ 13 * k)
    (ds := t.map fun p => .tup [p.1.d, .str p.2]) (i := 0) (env := [some (.d (.dic t.tb.d)), some (.c 0), none, none, none, none]) (st := [some (.dic [])]) ?_ ⟨[], none, none, none, none, rfl, rfl, fun h => by simp [Tb.look, hdsAll], by simp⟩
  · obtain ⟨e, s, h1, hd, o2, o3, o4, o5, rfl, rfl, hn, hlen⟩ := loop
    rw [List.length_map, Nat.zero_add, List.take_length] at hn
    refine ⟨hd, hn, ?_⟩
    have hp : t.tb.d.map (fun p => D.tup [p.1, p.2]) = t.map fun p => D.tup [p.1.d, .str p.2] := by
      unfold WT.tb Tb.d; rw [List.map_map, List.map_map]; rfl
    unfold F_heads_of fnM m_heads_of
    simp [-List.map_map, hp, h1, fzU, isLk]
  · rintro j d env st hj ⟨hd, o2, o3, o4, o5, rfl, rfl, hn, hlen⟩
    rw [List.getElem?_map] at hj
    obtain ⟨⟨k, w⟩, hq, rfl⟩ := Option.map_eq_some_iff.mp hj
    have hjl := (List.getElem?_eq_some_iff.mp hq).1
    have hw := h12 w (List.mem_map.mpr ⟨_, List.mem_of_getElem? hq, rfl⟩)
    have z1 : w.length ≤ sizeL := by unfold sizeL; omega
    have inner := forGo_inv (t := gN 4) (body := b_heads_of_0)
      (I := fun i env st => ∃ hd' o4 o5, env = [some (.d (.dic t.tb.d)), some (.c 0), some (.d k.d), some (.d (.str w)), o4, o5] ∧ st = [some (.dic (Tb.d hd'))] ∧ HdOk (hdsAll (t.take j) ++ hds k w i) hd' ∧ hd'.length ≤ hd.length + i)
      (ds := rng 0 (w.length + 1)) (i := 0) (env := [some (.d (.dic t.tb.d)), some (.c 0), some (.d k.d), some (.d (.str w)), o4, o5]) (st := [some (.dic hd.d)]) ?_ ⟨hd, o4, o5, rfl, rfl, by rw [Nat.zero_add] at hn; simpa [hds] using hn, Nat.le_refl _⟩
    · obtain ⟨e, s, h1, hd', o4', o5', rfl, rfl, hn', hlen'⟩ := inner
      rw [rng_length] at hlen' hn'
      refine ⟨_, _, [some (.d (.dic t.tb.d)), some (.c 0), some (.d k.d), some (.d (.str w)), o4', o5'], [some (.dic hd'.d)], rfl, ?_, ⟨hd', _, _, _, _, rfl, rfl, ?_, by omega⟩⟩
      · have hit := iR1_n (r := aC (oL dAdd (mFn fLn (aC (mV 3) aN)) (mC (.int 1))) aN) (env := [some (.d (.dic t.tb.d)), some (.c 0), some (.d k.d), some (.d (.str w)), o4, o5]) (st := [some (.dic hd.d)]) (st1 := [some (.dic hd.d)]) (n := w.length + 1) (by simp [z1]) (by omega)
        unfold b_heads_of_1
        simp [hit, h1]
      · rw [Nat.zero_add] at hn'
        rw [Nat.zero_add, List.take_add_one, hq]
        unfold hdsAll at hn' ⊢
        rw [List.flatMap_append]
        simpa using hn'
    · rintro i d env st hi ⟨hd', o4, o5, rfl, rfl, hn', hlen'⟩
      obtain ⟨hi1, rfl⟩ := rng_get hi
      rw [Nat.zero_add] at hn'
      have cn := fun st => call_p1 (st := st) (needed k)
      obtain ⟨z, hz, hput⟩ := hn'.put (w.take i) (need k)
      have hg := mGet2_run (md := mV 1) (mk := mV 5) (mz := mCallA F_needed 1 (aC (mV 2) aN)) (env := [some (.d (.dic t.tb.d)), some (.c 0), some (.d k.d), some (.d (.str w)), some (.d (.int (i : Int))), some (.d (.str (w.take i)))]) (st := [some (.dic hd'.d)]) (u := .c 0) (t := hd') (k := .txt (w.take i)) (z := .int (need k)) (by simp) (by simp) (by simp [Ky.d]) (by simp [cn])
      rw [hz] at hg
      have hs := subK_put (st := [some (.dic hd'.d)]) (k := 0) (t := hd') (ky := .txt (w.take i)) (v := .int (min z (need k))) rfl (by unfold sizeL; omega)
      have hsl : mSl (mV 3) oN (oS (mV 4)) [some (.d (.dic t.tb.d)), some (.c 0), some (.d k.d), some (.d (.str w)), some (.d (.int (i : Int))), o5] [some (.dic hd'.d)] = .ok (.d (.str (w.take i))) [some (.dic hd'.d)] := by
        show (if w.length ≤ sizeL then R.ok (U.d (D.str (cutL w none (some (i : Int))))) [some (D.dic hd'.d)] else _) = _
        rw [if_pos z1, cutL_take]
      have hmin : fMin [.int z, .int (need k)] = some (.int (min z (need k))) := rfl
      refine ⟨_, _, [some (.d (.dic t.tb.d)), some (.c 0), some (.d k.d), some (.d (.str w)), some (.d (.int (i : Int))), some (.d (.str (w.take i)))], [some (.dic (Tb.put hd' (.txt (w.take i)) (.int (min z (need k)))).d)], rfl, ?_, ⟨_, _, _, rfl, rfl, ?_, by have := put_len hd' (.txt (w.take i)) (.int (min z (need k))); omega⟩⟩
      · unfold b_heads_of_0
        have hs' : ∀ env, subK (.d (.int (min z (need k)))) (.c 0) (.d (.str (w.take i))) env [some (.dic hd'.d)] = .nx env [some (.dic (Tb.put hd' (.txt (w.take i)) (.int (min z (need k)))).d)] := hs
        simp [hsl, hg, cn, hmin, hs']
      · rw [Nat.zero_add]
        have e : hds k w (i + 1) = hds k w i ++ [(w.take i, need k)] := by unfold hds; rw [List.range_succ, List.map_append]; rfl
        rw [e, ← List.append_assoc]
        exact hput
end K13

/-! R2 -/
set_option Elab.async false
set_option linter.all false
set_option maxRecDepth 100000
set_option maxHeartbeats 1000000
namespace LV
theorem HdOk.congr {ps qs : List (List Nat × Int)} {hd : Tb} (H : HdOk ps hd) (e : ∀ p, p ∈ ps ↔ p ∈ qs) : HdOk qs hd := fun h => by
  have Hh := H h
  cases q : Tb.look hd (.txt h) with
  | none => rw [q] at Hh; exact fun p hp => Hh p ((e p).mpr hp)
  | some d =>
    rw [q] at Hh
    obtain ⟨m, h1, ⟨p, h2, h3⟩, h4⟩ := Hh
    exact ⟨m, h1, ⟨p, (e p).mp h2, h3⟩, fun p hp => h4 p ((e p).mpr hp)⟩
theorem mem_wd : ∀ {t : WT} {k : Ky}, k ∈ t.map (·.1) → (k, wd t k) ∈ t
  | (a, w) :: r, k, h => by
    show (k, if a = k then w else wd r k) ∈ (a, w) :: r
    by_cases e : a = k
    · rw [if_pos e, e]; exact List.mem_cons_self
    · rw [if_neg e]
      refine List.mem_cons_of_mem _ (mem_wd ?_)
      rcases List.mem_cons.mp h with h | h
      · exact absurd h.symm e
      · exact h
theorem wd_of : ∀ {t : WT} {k : Ky} {w : List Nat}, (t.map (·.1)).Nodup → (k, w) ∈ t → wd t k = w
  | (a, v) :: r, k, w, nd, h => by
    have n2 := List.nodup_cons.mp nd
    show (if a = k then v else wd r k) = w
    rcases List.mem_cons.mp h with h | h
    · cases h; rw [if_pos rfl]
    · rw [if_neg fun e => n2.1 (by rw [e]; exact List.mem_map.mpr ⟨_, h, rfl⟩)]
      exact wd_of n2.2 h
end LV
namespace K13
open LV
theorem init {l : List Nat} {t : WT} (h : Keys l (t.map (·.1))) (hp : PFree (t.map (·.2))) : ∃ hd, HdOk (hdsAll t) hd ∧ F_Format_init [.c 0, .d (.str l), .d (.dic t.tb.d)] [some (.obj "Format" [])] = .ok (.d .non) [some (.obj "Format" (fmtFs l t hd))] := by
  have ht : t.length ≤ 40 := by have := h.len; rwa [List.length_map] at this
  obtain ⟨cs, _, _, hperm⟩ := h.cs
  have op := ord_perm hperm
  have hKW := wd_keys h.nodup
  have c1 := fun st => call_p1 (st := st) (is_letters h.az h.l1 h.l4)
  have c2 := fun st => call_p2 (st := st) (are_words h hp)
  have c3 := fun st => call_p2 (st := st) (in_order (t := t.tb) (by rw [WT.keys]; exact h))
  rw [WT.keys] at c3
  have hWp : ((ordOf l (t.map (·.1))).map (wd t)).Perm (t.map (·.2)) := hKW ▸ op.map (wd t)
  have hmem : ∀ k ∈ ordOf l (t.map (·.1)), k ∈ t.map (·.1) := fun k hk => op.mem_iff.mp hk
  have hol : (ordOf l (t.map (·.1))).length ≤ 40 := by rw [op.length_eq]; exact h.len
  have hnd : (ordOf l (t.map (·.1))).Nodup := op.nodup_iff.mpr h.nodup
  have h0 : ordOf l (t.map (·.1)) ≠ [] := by unfold ordOf; simp
  have hcop := cops_ord l (t.map (·.1))
  have hsz : (ordOf l (t.map (·.1))).length ≤ sizeL := by unfold sizeL; omega
  have hl12 : ∀ k ∈ ordOf l (t.map (·.1)), (wd t k).length ≤ 12 := fun k hk => hp.hi _ (wd_mem (hmem k hk))
  obtain ⟨hd, hok, hhd⟩ := heads_of (t := (ordOf l (t.map (·.1))).map fun k => (k, wd t k)) (by rw [List.length_map]; exact hol) (by
    intro w hw
    rw [List.map_map] at hw
    obtain ⟨k, hk, rfl⟩ := List.mem_map.mp hw
    exact hl12 k hk)
  refine ⟨hd, hok.congr fun p => ?_, ?_⟩
  · obtain ⟨h', n⟩ := p
    rw [hdsAll_mem, hdsAll_mem]
    constructor
    · rintro ⟨p, hp, q1, q2⟩
      obtain ⟨k, hk, rfl⟩ := List.mem_map.mp hp
      exact ⟨_, mem_wd (hmem k hk), q1, q2⟩
    · rintro ⟨⟨k, w⟩, hp, q1, q2⟩
      have hk : k ∈ ordOf l (t.map (·.1)) := op.mem_iff.mpr (List.mem_map.mpr ⟨_, hp, rfl⟩)
      refine ⟨(k, wd t k), List.mem_map.mpr ⟨k, hk, rfl⟩, ?_, q2⟩
      rw [wd_of h.nodup hp]; exact q1
  have ndw : ((ordOf l (t.map (·.1))).map fun k => Ky.txt (wd t k)).Nodup := by
    have : (t.map (·.2)).Nodup := hp.pf.imp fun {a b} (ha : Apart a b) (e : a = b) => ha.1 (by rw [e]; exact List.prefix_refl _)
    have h2 := hWp.nodup_iff.mpr this
    have h3 : (((ordOf l (t.map (·.1))).map (wd t)).map Ky.txt).Nodup := List.Pairwise.map _ (fun a b h e => h (Ky.txt.inj e)) h2
    rwa [List.map_map] at h3
  unfold fmtFs
  simp only
  generalize hO : ordOf l (t.map (·.1)) = O at *
  have c4 := fun st => call_p1 (st := st) hhd
  have hlk : ∀ k ∈ O, Tb.look t.tb k = some (.str (wd t k)) := fun k hk => look_wd (hmem k hk)
  have hdx : ∀ k ∈ O, dDx (.dic t.tb.d) k.d = some (.str (wd t k)) := fun k hk => by rw [v_dx]; exact hlk k hk
  generalize hE : ([some (.c 0), some (.d (.str l)), some (.d (.dic t.tb.d)), none, none] : EnvU) = E
  have e0 : E[0]? = some (some (.c 0)) := by rw [← hE]; rfl
  have e1 : E[1]? = some (some (.d (.str l))) := by rw [← hE]; rfl
  have e2 : E[2]? = some (some (.d (.dic t.tb.d))) := by rw [← hE]; rfl
  have w2 : ∀ k : Ky, ((wipeE E [3, 4]).set 4 (some (.d k.d)))[2]? = some (some (.d (.dic t.tb.d))) := fun k => by rw [← hE]; rfl
  have w4 : ∀ k : Ky, ((wipeE E [3, 4]).set 4 (some (.d k.d)))[4]? = some (some (.d k.d)) := fun k => by rw [← hE]; rfl
  -- the order is read
  have ford : ∀ fs st, fs.lookup ("order" : PySem.Str) = some (D.lst (O.map Ky.d)) → iL (mFld "Format" "order" (mV 0)) E (some (.obj "Format" fs) :: st) = .ok (O.map Ky.d) (some (.obj "Format" fs) :: st) := fun fs st hl => by
    have := mFld_run (c := "Format") (f := "order") (m := mV 0) (env := E) (st := some (.obj "Format" fs) :: st) (st1 := some (.obj "Format" fs) :: st) (u := .c 0) (fs := fs) (d := .lst (O.map Ky.d)) (by simp [e0]) (by simp) hl
    simp [this]
  have fin_ : True := trivial
  let f1 : List (PySem.Str × D) := [("letters", .str l)]
  let f2 : List (PySem.Str × D) := snocF f1 "order" (.lst (O.map Ky.d))
  let f3 : List (PySem.Str × D) := snocF f2 "coded_words" (.dic (WT.tb (O.map fun k => (k, wd t k))).d)
  let f4 : List (PySem.Str × D) := snocF f3 "prices" (.dic (Tb.d (O.map fun k => (k, .int ((wd t k).length : Int)))))
  let f5 : List (PySem.Str × D) := snocF f4 "by_word" (.dic (Tb.d (O.map fun k => (.txt (wd t k), k.d))))
  let f6 : List (PySem.Str × D) := snocF f5 "heads" (.dic hd.d)
  let f7 : List (PySem.Str × D) := snocF f6 "copy_list" (.lst ((isrt ltP (copsOf (t.map (·.1)))).map prD))
  let f8 : List (PySem.Str × D) := snocF f7 "window" (.int (maxI (O.map need)))
  let f9 : List (PySem.Str × D) := snocF f8 "longest" (.int (maxI (O.map rch)))
  have s1 : sFldC "Format" "letters" (mV 0) (mV 1) E [some (.obj "Format" [])] = .nx E [some (.obj "Format" f1)] :=
    sFldC_run (c := "Format") (f := "letters") (ma := mV 0) (mv := mV 1) (env := E) (st := [some (.obj "Format" [])]) (st1 := [some (.obj "Format" [])]) (fs := []) (k := 0) (d := .str l) (ns := []) (by simp [e1]) (by simp [e0]) rfl rfl (by decide) (by decide)
  have s2 : sFldC "Format" "order" (mV 0) (mCallA F_in_order 2 (aC (mV 1) (aC (mV 2) aN))) E [some (.obj "Format" f1)] = .nx E [some (.obj "Format" f2)] :=
    sFldC_run (c := "Format") (f := "order") (ma := mV 0) (mv := (mCallA F_in_order 2 (aC (mV 1) (aC (mV 2) aN)))) (env := E) (st := [some (.obj "Format" f1)]) (st1 := [some (.obj "Format" f1)]) (fs := f1) (k := 0) (ns := ["letters"]) (d := .lst (O.map Ky.d)) (by simp [e1, e2, c3, hO]) (by simp [e0]) rfl rfl (by decide) (by decide)
  have s3 : sFldC "Format" "coded_words" (mV 0) (mFrz (mCl (nDc (iL (mFld "Format" "order" (mV 0))) [3, 4] (gN 4) tTrue (mV 4) (oL dDx (mV 2) (mV 4))))) E [some (.obj "Format" f2)] = .nx E [some (.obj "Format" f3), none] := by
    have dc := nDc_run (it := iL (mFld "Format" "order" (mV 0))) (env := E) (vs := [3, 4]) (i := 4) (ek := mV 4) (ev := oL dDx (mV 2) (mV 4)) (st := [some (.obj "Format" f2)]) (g := Ky.d) (kf := fun k => k) (f := fun k => .str (wd t k)) (xs := O) (ford f2 [] rfl) (fun k hk a => by simp [w4]) (fun k hk a => by simp [w2, w4, hdx k hk]) hsz (by simpa using hnd)
    have e : (Tb.d (O.map fun k => (k, D.str (wd t k)))) = (WT.tb (O.map fun k => (k, wd t k))).d := by unfold WT.tb; rw [List.map_map]; rfl
    rw [e] at dc
    exact sFldC_run (c := "Format") (f := "coded_words") (ma := mV 0) (mv := (mFrz (mCl (nDc (iL (mFld "Format" "order" (mV 0))) [3, 4] (gN 4) tTrue (mV 4) (oL dDx (mV 2) (mV 4)))))) (env := E) (st := [some (.obj "Format" f2)]) (st1 := [some (.obj "Format" f2), none]) (fs := f2) (k := 0) (ns := ["letters", "order"]) (d := .dic (WT.tb (O.map fun k => (k, wd t k))).d) (by simp [dc, fzU, isLk]) (by simp [e0]) rfl rfl (by decide) (by decide)
  have s4 : sFldC "Format" "prices" (mV 0) (mFrz (mCl (nDc (iL (mFld "Format" "order" (mV 0))) [3, 4] (gN 4) tTrue (mV 4) (mFn fLn (aC (oL dDx (mV 2) (mV 4)) aN))))) E [some (.obj "Format" f3), none] = .nx E [some (.obj "Format" f4), none, none] := by
    have dc := nDc_run (it := iL (mFld "Format" "order" (mV 0))) (env := E) (vs := [3, 4]) (i := 4) (ek := mV 4) (ev := mFn fLn (aC (oL dDx (mV 2) (mV 4)) aN)) (st := [some (.obj "Format" f3), none]) (g := Ky.d) (kf := fun k => k) (f := fun k => .int ((wd t k).length : Int)) (xs := O) (ford f3 [none] rfl) (fun k hk a => by simp [w4]) (fun k hk a => by
      have z : (wd t k).length ≤ sizeL := by have := hl12 k hk; unfold sizeL; omega
      simp [w2, w4, hdx k hk, z]) hsz (by simpa using hnd)
    exact sFldC_run (c := "Format") (f := "prices") (ma := mV 0) (mv := (mFrz (mCl (nDc (iL (mFld "Format" "order" (mV 0))) [3, 4] (gN 4) tTrue (mV 4) (mFn fLn (aC (oL dDx (mV 2) (mV 4)) aN)))))) (env := E) (st := [some (.obj "Format" f3), none]) (st1 := [some (.obj "Format" f3), none, none]) (fs := f3) (k := 0) (ns := ["letters", "order", "coded_words"]) (by simp [dc, fzU, isLk]) (by simp [e0]) rfl rfl (by decide) (by decide)
  have s5 : sFldC "Format" "by_word" (mV 0) (mFrz (mCl (nDc (iL (mFld "Format" "order" (mV 0))) [3, 4] (gN 4) tTrue (oL dDx (mV 2) (mV 4)) (mV 4)))) E [some (.obj "Format" f4), none, none] = .nx E [some (.obj "Format" f5), none, none, none] := by
    have dc := nDc_run (it := iL (mFld "Format" "order" (mV 0))) (env := E) (vs := [3, 4]) (i := 4) (ek := oL dDx (mV 2) (mV 4)) (ev := mV 4) (st := [some (.obj "Format" f4), none, none]) (g := Ky.d) (kf := fun k => .txt (wd t k)) (f := fun k => k.d) (xs := O) (ford f4 [none, none] rfl) (fun k hk a => by
      show _ = R.ok (U.d (D.str (wd t k))) _
      simp [w2, w4, hdx k hk]) (fun k hk a => by simp [w4]) hsz ndw
    exact sFldC_run (c := "Format") (f := "by_word") (ma := mV 0) (mv := (mFrz (mCl (nDc (iL (mFld "Format" "order" (mV 0))) [3, 4] (gN 4) tTrue (oL dDx (mV 2) (mV 4)) (mV 4))))) (env := E) (st := [some (.obj "Format" f4), none, none]) (st1 := [some (.obj "Format" f4), none, none, none]) (fs := f4) (k := 0) (ns := ["letters", "order", "coded_words", "prices"]) (by simp [dc, fzU, isLk]) (by simp [e0]) rfl rfl (by decide) (by decide)
  have s6 : sFldC "Format" "heads" (mV 0) (mCallA F_heads_of 1 (aC (mFld "Format" "coded_words" (mV 0)) aN)) E [some (.obj "Format" f5), none, none, none] = .nx E [some (.obj "Format" f6), none, none, none] := by
    have hf := mFld_run (c := "Format") (f := "coded_words") (m := mV 0) (env := E) (st := [some (.obj "Format" f5), none, none, none]) (st1 := [some (.obj "Format" f5), none, none, none]) (u := .c 0) (fs := f5) (d := .dic (WT.tb (O.map fun k => (k, wd t k))).d) (by simp [e0]) (by simp) rfl
    exact sFldC_run (c := "Format") (f := "heads") (ma := mV 0) (mv := (mCallA F_heads_of 1 (aC (mFld "Format" "coded_words" (mV 0)) aN))) (env := E) (st := [some (.obj "Format" f5), none, none, none]) (st1 := [some (.obj "Format" f5), none, none, none]) (fs := f5) (k := 0) (ns := ["letters", "order", "coded_words", "prices", "by_word"]) (d := .dic hd.d) (by simp [hf, c4]) (by simp [e0]) rfl rfl (by decide) (by decide)
  have s7 : sFldC "Format" "copy_list" (mV 0) (mFz (nLc (iL (mFld "Format" "order" (mV 0))) [3, 4] (gN 4) (tTr (mIsi "tuple" (mV 4))) (mV 4))) E [some (.obj "Format" f6), none, none, none] = .nx E [some (.obj "Format" f7), none, none, none] := by
    have lc := nLc_run (it := iL (mFld "Format" "order" (mV 0))) (env := E) (vs := [3, 4]) (i := 4) (st := [some (.obj "Format" f6), none, none, none]) (g := Ky.d) (xs := O) (p := isCop) (f := Ky.d)
      (cond := tTr (mIsi "tuple" (mV 4))) (elt := mV 4) (ford f6 [none, none, none] rfl) (fun x hx a => by simp only [e_tTr, e_mIsi, e_mV, w4]; cases x <;> simp [Ky.d, isCop, prD]) (fun x hx _ a => by simp [w4]) hsz
    rw [cops_filter, hcop] at lc
    exact sFldC_run (c := "Format") (f := "copy_list") (ma := mV 0) (mv := (mFz (nLc (iL (mFld "Format" "order" (mV 0))) [3, 4] (gN 4) (tTr (mIsi "tuple" (mV 4))) (mV 4)))) (env := E) (st := [some (.obj "Format" f6), none, none, none]) (st1 := [some (.obj "Format" f6), none, none, none]) (fs := f6) (k := 0) (ns := ["letters", "order", "coded_words", "prices", "by_word", "heads"]) (by simp [lc]) (by simp [e0]) rfl rfl (by decide) (by decide)
  have s8 : sFldC "Format" "window" (mV 0) (mFn fMax (aC (mFz (nLc (iL (mFld "Format" "order" (mV 0))) [3, 4] (gN 4) tTrue (mCallA F_needed 1 (aC (mV 4) aN)))) aN)) E [some (.obj "Format" f7), none, none, none] = .nx E [some (.obj "Format" f8), none, none, none] := by
    have lc := nLc_all (it := iL (mFld "Format" "order" (mV 0))) (env := E) (vs := [3, 4]) (i := 4) (st := [some (.obj "Format" f7), none, none, none]) (g := Ky.d) (xs := O) (f := fun k => .int (need k)) (elt := mCallA F_needed 1 (aC (mV 4) aN)) (ford f7 [none, none, none] rfl) (fun x hx a => by
      have cn := fun st => call_p1 (st := st) (needed x)
      simp [w4, cn]) hsz
    have hm := max_map (f := need) h0
    exact sFldC_run (c := "Format") (f := "window") (ma := mV 0) (mv := (mFn fMax (aC (mFz (nLc (iL (mFld "Format" "order" (mV 0))) [3, 4] (gN 4) tTrue (mCallA F_needed 1 (aC (mV 4) aN)))) aN))) (env := E) (st := [some (.obj "Format" f7), none, none, none]) (st1 := [some (.obj "Format" f7), none, none, none]) (fs := f7) (k := 0) (ns := ["letters", "order", "coded_words", "prices", "by_word", "heads", "copy_list"]) (by simp [lc, hm]) (by simp [e0]) rfl rfl (by decide) (by decide)
  have s9 : sFldC "Format" "longest" (mV 0) (mFn fMax (aC (mFz (nLc (iL (mFld "Format" "order" (mV 0))) [3, 4] (gN 4) tTrue (mCallA F_reach 1 (aC (mV 4) aN)))) aN)) E [some (.obj "Format" f8), none, none, none] = .nx E [some (.obj "Format" f9), none, none, none] := by
    have lc := nLc_all (it := iL (mFld "Format" "order" (mV 0))) (env := E) (vs := [3, 4]) (i := 4) (st := [some (.obj "Format" f8), none, none, none]) (g := Ky.d) (xs := O) (f := fun k => .int (rch k)) (elt := mCallA F_reach 1 (aC (mV 4) aN)) (ford f8 [none, none, none] rfl) (fun x hx a => by
      have cn := fun st => call_p1 (st := st) (reach x)
      simp [w4, cn]) hsz
    have hm := max_map (f := rch) h0
    exact sFldC_run (c := "Format") (f := "longest") (ma := mV 0) (mv := (mFn fMax (aC (mFz (nLc (iL (mFld "Format" "order" (mV 0))) [3, 4] (gN 4) tTrue (mCallA F_reach 1 (aC (mV 4) aN)))) aN))) (env := E) (st := [some (.obj "Format" f8), none, none, none]) (st1 := [some (.obj "Format" f8), none, none, none]) (fs := f8) (k := 0) (ns := ["letters", "order", "coded_words", "prices", "by_word", "heads", "copy_list", "window"]) (by simp [lc, hm]) (by simp [e0]) rfl rfl (by decide) (by decide)
  have body : m_Format_init E [some (.obj "Format" [])] = .nx E [some (.obj "Format" f9), none, none, none] := by
    unfold m_Format_init
    simp only [e_sSeq, e_sIf]
    simp [e1, e2, c1, c2, s1, s2, s3, s4, s5, s6, s7, s8, s9]
  unfold F_Format_init fnM
  show fin 1 (m_Format_init _ _) = _
  rw [show (List.map some [U.c 0, U.d (D.str l), U.d (D.dic t.tb.d)] ++ List.replicate (5 - [U.c 0, U.d (D.str l), U.d (D.dic t.tb.d)].length) none) = E from hE, body]
  rfl
end K13

/-! R3 -/
set_option Elab.async false
set_option linter.all false
set_option maxRecDepth 100000
set_option maxHeartbeats 1000000
namespace K13
open LV
/-! ### rows of bits read: plain laws -/
def could (t : WT) (h : List Nat) (m : Int) : Bool := t.any fun p => h.isPrefixOf p.2 && decide (need p.1 ≤ m)
def byW (t : WT) (h : List Nat) : Option Ky := (t.find? fun p => decide (p.2 = h)).map (·.1)
def lackL (t : WT) (h : List Nat) (m : Int) : List Int := (t.filter fun p => h.isPrefixOf p.2 && decide (need p.1 ≤ m)).map fun p => (p.2.length : Int) - h.length + if p.1 = .fin then 0 else ((wd t .fin).length : Int)
inductive Res where | bad (i : Nat) | left (i : Nat) | few (d : Int) | ok (way : List Ky)
def parse (t : WT) (n : Nat) : List Nat → Nat → List Nat → Int → List Ky → Res
  | [], _, h, m, _ => .few (minI (lackL t h m))
  | b :: r, i, h, m, f => if could t (h ++ [b]) m = true then (match byW t (h ++ [b]) with
      | none => parse t n r (i + 1) (h ++ [b]) m f
      | some k => if k = .fin then (if i + 1 < n then .left (i + 1) else .ok f) else parse t n r (i + 1) [] (m + rch k) (f ++ [k]))
    else .bad i
theorem parse_cons (t : WT) (n b : Nat) (r : List Nat) (i : Nat) (h : List Nat) (m : Int) (f : List Ky) : parse t n (b :: r) i h m f = if could t (h ++ [b]) m = true then (match byW t (h ++ [b]) with
      | none => parse t n r (i + 1) (h ++ [b]) m f
      | some k => if k = .fin then (if i + 1 < n then .left (i + 1) else .ok f) else parse t n r (i + 1) [] (m + rch k) (f ++ [k]))
    else .bad i := rfl
/-- commands that may come one behind another -/
def WayOk (t : WT) : Int → List Ky → Prop
  | _, [] => True
  | m, k :: r => k ∈ t.map (·.1) ∧ k ≠ .fin ∧ need k ≤ m ∧ WayOk t (m + rch k) r
def wordsOf (t : WT) (g : List Ky) : List Nat := (g.map (wd t)).flatten
/-- no two words the same, no word in another's beginning -/
structure Sep (t : WT) : Prop where
  nd : (t.map (·.1)).Nodup
  pf : PFree (t.map (·.2))
theorem pw_eq {L : List (List Nat)} (h : L.Pairwise Apart) {u w : List Nat} (hu : u ∈ L) (hw : w ∈ L) (hp : u <+: w) : u = w := by
  induction h with
  | nil => simp at hu
  | @cons a r h1 h2 ih =>
    rcases List.mem_cons.mp hu with e | hu'
    · rcases List.mem_cons.mp hw with e' | hw'
      · rw [e, e']
      · subst e; exact absurd hp (h1 w hw').1
    · rcases List.mem_cons.mp hw with e' | hw'
      · subst e'; exact absurd hp (h1 u hu').2
      · exact ih hu' hw'
theorem nodup_words {t : WT} (s : Sep t) : (t.map (·.2)).Nodup := s.pf.pf.imp fun {a b} (ha : Apart a b) (e : a = b) => ha.1 (by rw [e]; exact List.prefix_refl _)
theorem key_of_word {t : WT} (hn : (t.map (·.2)).Nodup) {a b : Ky} {w : List Nat} (ha : (a, w) ∈ t) (hb : (b, w) ∈ t) : a = b := by
  induction t with
  | nil => simp at ha
  | cons p r ih =>
    have n2 := List.nodup_cons.mp hn
    have out : ∀ {k : Ky}, (k, w) ∈ r → p.2 ≠ w := fun h e => n2.1 (show p.2 ∈ _ by rw [e]; exact List.mem_map.mpr ⟨_, h, rfl⟩)
    rcases List.mem_cons.mp ha with e | ha'
    · rcases List.mem_cons.mp hb with e' | hb'
      · rw [← e] at e'; exact (Prod.mk.inj e').1.symm
      · exact absurd (by rw [← e]) (out hb')
    · rcases List.mem_cons.mp hb with e' | hb'
      · exact absurd (by rw [← e']) (out ha')
      · exact ih n2.2 ha' hb'
theorem byW_some {t : WT} (s : Sep t) {h : List Nat} {k : Ky} (hk : (k, h) ∈ t) : byW t h = some k := by
  unfold byW
  cases e : t.find? fun p => decide (p.2 = h) with
  | none =>
    have := List.find?_eq_none.mp e _ hk
    simp at this
  | some p =>
    have h1 := List.mem_of_find?_eq_some e
    have h2 := List.find?_some e
    simp at h2
    have h3 : (p.1, h) ∈ t := by rw [← h2]; exact h1
    rw [Option.map_some, key_of_word (nodup_words s) h3 hk]
theorem byW_none {t : WT} {h : List Nat} (hn : h ∉ t.map (·.2)) : byW t h = none := by
  unfold byW
  rw [Option.map_eq_none_iff, List.find?_eq_none]
  intro p hp e
  simp at e
  exact hn (List.mem_map.mpr ⟨p, hp, e⟩)
theorem byW_mem {t : WT} {h : List Nat} {k : Ky} (e : byW t h = some k) : (k, h) ∈ t := by
  unfold byW at e
  obtain ⟨p, hp, rfl⟩ := Option.map_eq_some_iff.mp e
  have h1 := List.mem_of_find?_eq_some hp
  have h2 := List.find?_some hp
  simp at h2
  rw [← h2]; exact h1
theorem could_of {t : WT} {h w : List Nat} {k : Ky} {m : Int} (hk : (k, w) ∈ t) (hp : h <+: w) (hm : need k ≤ m) : could t h m = true := by
  unfold could
  rw [List.any_eq_true]
  exact ⟨(k, w), hk, by rw [Bool.and_eq_true]; exact ⟨List.isPrefixOf_iff_prefix.mpr hp, decide_eq_true hm⟩⟩
theorem could_is {t : WT} {h : List Nat} {m : Int} (e : could t h m = true) : ∃ k w, (k, w) ∈ t ∧ h <+: w ∧ need k ≤ m := by
  unfold could at e
  obtain ⟨p, hp, h2⟩ := List.any_eq_true.mp e
  rw [Bool.and_eq_true] at h2
  exact ⟨p.1, p.2, hp, List.isPrefixOf_iff_prefix.mp h2.1, of_decide_eq_true h2.2⟩
/-- a word that could come is a command that may come -/
theorem need_of {t : WT} (s : Sep t) {h : List Nat} {k : Ky} {m : Int} (hk : (k, h) ∈ t) (e : could t h m = true) : need k ≤ m := by
  obtain ⟨k', w, h1, h2, h3⟩ := could_is e
  have e1 := pw_eq s.pf.pf (List.mem_map.mpr ⟨_, hk, rfl⟩) (List.mem_map.mpr ⟨_, h1, rfl⟩) h2
  simp only at e1
  subst e1
  rw [key_of_word (nodup_words s) hk h1]; exact h3
theorem parse_ok {t : WT} (s : Sep t) {n : Nat} : ∀ {r : List Nat} {i : Nat} {h : List Nat} {m : Int} {f way : List Ky}, n = i + r.length → parse t n r i h m f = .ok way → ∃ g, way = f ++ g ∧ h ++ r = wordsOf t g ++ wd t .fin ∧ WayOk t m g
  | [], i, h, m, f, way, _, e => by cases e
  | b :: r, i, h, m, f, way, hn, e => by
    rw [parse_cons] at e
    by_cases hc : could t (h ++ [b]) m = true
    · rw [if_pos hc] at e
      cases hb : byW t (h ++ [b]) with
      | none =>
        rw [hb] at e
        obtain ⟨g, h1, h2, h3⟩ := parse_ok s (by rw [hn]; simp; omega) e
        exact ⟨g, h1, by rw [← h2]; simp, h3⟩
      | some k =>
        rw [hb] at e
        simp only at e
        have hm := byW_mem hb
        have hw := wd_of s.nd hm
        by_cases hf : k = .fin
        · subst hf
          rw [if_pos rfl] at e
          by_cases hl : i + 1 < n
          · rw [if_pos hl] at e; cases e
          · rw [if_neg hl] at e
            cases e
            have : r = [] := by
              rw [List.length_cons] at hn
              exact List.eq_nil_of_length_eq_zero (by omega)
            subst this
            exact ⟨[], by simp, by rw [hw]; rfl, trivial⟩
        · rw [if_neg hf] at e
          obtain ⟨g, h1, h2, h3⟩ := parse_ok s (by rw [hn]; simp; omega) e
          refine ⟨k :: g, by rw [h1]; simp, ?_, List.mem_map.mpr ⟨_, hm, rfl⟩, hf, need_of s hm hc, h3⟩
          show h ++ b :: r = (wd t k ++ wordsOf t g) ++ wd t .fin
          rw [hw, List.append_assoc, ← h2]; simp
    · rw [if_neg hc] at e; cases e
/-- a word is read -/
theorem parse_word {t : WT} (s : Sep t) {n : Nat} {k : Ky} {w : List Nat} {m : Int} {f : List Ky} {rest : List Nat} (hk : (k, w) ∈ t) (hm : need k ≤ m) : ∀ {u : List Nat} {i : Nat} {h : List Nat}, w = h ++ u → u ≠ [] →
    parse t n (u ++ rest) i h m f = if k = .fin then (if i + u.length < n then .left (i + u.length) else .ok f) else parse t n rest (i + u.length) [] (m + rch k) (f ++ [k])
  | [], _, _, _, h => absurd rfl h
  | [b], i, h, hw, _ => by
    have hc : could t (h ++ [b]) m = true := could_of hk (by rw [← hw]; exact List.prefix_refl _) hm
    have hb : byW t (h ++ [b]) = some k := byW_some s (by rw [← hw]; exact hk)
    rw [List.singleton_append, parse_cons, if_pos hc, hb]; rfl
  | b :: c :: u, i, h, hw, _ => by
    have hc : could t (h ++ [b]) m = true := could_of hk (by rw [hw]; exact ⟨c :: u, by simp⟩) hm
    have hb : byW t (h ++ [b]) = none := byW_none fun hmem => by
      have := pw_eq s.pf.pf hmem (List.mem_map.mpr ⟨_, hk, rfl⟩) (by rw [hw]; exact ⟨c :: u, by simp⟩)
      simp only at this
      rw [hw] at this
      have := congrArg List.length this
      simp at this
    have ih := parse_word s (n := n) (f := f) (rest := rest) hk hm (u := c :: u) (i := i + 1) (h := h ++ [b]) (by rw [hw]; simp) (by simp)
    rw [List.cons_append, parse_cons, if_pos hc, hb]
    simp only
    rw [ih]
    simp only [List.length_cons, show i + 1 + (u.length + 1) = i + (u.length + 1 + 1) by omega]
theorem parse_way {t : WT} (s : Sep t) (hf : .fin ∈ t.map (·.1)) {n : Nat} : ∀ {g : List Ky} {i : Nat} {m : Int} {f : List Ky}, WayOk t m g → 0 ≤ m → (∀ k ∈ t.map (·.1), 0 ≤ rch k) → n = i + (wordsOf t g ++ wd t .fin).length → parse t n (wordsOf t g ++ wd t .fin) i [] m f = .ok (f ++ g)
  | [], i, m, f, _, hm, hr, hn => by
    have hk := mem_wd hf
    have hne : wd t .fin ≠ [] := fun e => by
      have := s.pf.lo _ (List.mem_map.mpr ⟨_, hk, rfl⟩)
      simp only at this
      rw [e] at this; simp at this
    have := parse_word s (n := n) (f := f) (rest := []) hk (m := m) (show need .fin ≤ m from hm) (u := wd t .fin) (i := i) (h := []) rfl hne
    rw [List.append_nil, if_pos rfl, if_neg (by rw [hn]; simp [wordsOf])] at this
    show parse t n ([] ++ wd t .fin) i [] m f = _
    rw [List.nil_append, this, List.append_nil]
  | k :: g, i, m, f, hw, hm, hr, hn => by
    obtain ⟨h1, h2, h3, h4⟩ := hw
    have hk := mem_wd h1
    have hne : wd t k ≠ [] := fun e => by
      have := s.pf.lo _ (List.mem_map.mpr ⟨_, hk, rfl⟩)
      simp only at this
      rw [e] at this; simp at this
    have e0 : wordsOf t (k :: g) ++ wd t .fin = wd t k ++ (wordsOf t g ++ wd t .fin) := by unfold wordsOf; simp
    rw [e0] at hn ⊢
    rw [parse_word s (n := n) (f := f) (rest := wordsOf t g ++ wd t .fin) hk h3 (u := wd t k) (i := i) (h := []) rfl hne, if_neg h2]
    rw [parse_way s hf h4 (by have := hr k h1; omega) hr (by rw [hn, List.length_append]; omega)]
    simp
theorem parse_bad {t : WT} {n : Nat} : ∀ {r : List Nat} {i j : Nat} {h : List Nat} {m : Int} {f : List Ky}, parse t n r i h m f = .bad j → i ≤ j ∧ j < i + r.length ∧ ∀ (n' : Nat) (r' : List Nat), r'.take (j + 1 - i) = r.take (j + 1 - i) → parse t n' r' i h m f = .bad j
  | [], i, j, h, m, f, e => by cases e
  | b :: r, i, j, h, m, f, e => by
    rw [parse_cons] at e
    have same : ∀ {r' : List Nat} {c : Nat}, 0 < c → r'.take c = (b :: r).take c → ∃ q, r' = b :: q ∧ q.take (c - 1) = r.take (c - 1) := fun {r' c} hc h => by
      obtain ⟨c, rfl⟩ : ∃ c', c = c' + 1 := ⟨c - 1, by omega⟩
      cases r' with
      | nil => simp at h
      | cons a q => simp at h; obtain ⟨rfl, h⟩ := h; exact ⟨q, rfl, by simpa using h⟩
    by_cases hc : could t (h ++ [b]) m = true
    · rw [if_pos hc] at e
      cases hb : byW t (h ++ [b]) with
      | none =>
        rw [hb] at e
        obtain ⟨h1, h2, h3⟩ := parse_bad e
        refine ⟨by omega, by simp; omega, fun n' r' ht => ?_⟩
        obtain ⟨q, rfl, hq⟩ := same (by omega) ht
        rw [parse_cons, if_pos hc, hb]
        exact h3 n' q (by rw [show j + 1 - (i + 1) = j + 1 - i - 1 by omega]; exact hq)
      | some k =>
        rw [hb] at e
        simp only at e
        by_cases hf : k = .fin
        · rw [if_pos hf] at e
          split at e <;> cases e
        · rw [if_neg hf] at e
          obtain ⟨h1, h2, h3⟩ := parse_bad e
          refine ⟨by omega, by simp; omega, fun n' r' ht => ?_⟩
          obtain ⟨q, rfl, hq⟩ := same (by omega) ht
          rw [parse_cons, if_pos hc, hb]
          simp only
          rw [if_neg hf]
          exact h3 n' q (by rw [show j + 1 - (i + 1) = j + 1 - i - 1 by omega]; exact hq)
    · rw [if_neg hc] at e
      cases e
      refine ⟨Nat.le_refl _, by simp, fun n' r' ht => ?_⟩
      obtain ⟨q, rfl, hq⟩ := same (by omega) ht
      rw [parse_cons, if_neg hc]
end K13

/-! R4 -/
set_option Elab.async false
set_option linter.all false
set_option maxRecDepth 100000
set_option maxHeartbeats 1000000
namespace K13
open LV
/-! ### copies put: plain laws -/
theorem rep_get (tl : List Nat) (hd : 0 < tl.length) : ∀ (n i : Nat), ((List.replicate n tl).flatten)[i]? = if i < n * tl.length then tl[i % tl.length]? else none
  | 0, i => by simp
  | n + 1, i => by
    rw [List.replicate_succ, List.flatten_cons]
    by_cases h : i < tl.length
    · rw [List.getElem?_append_left h, Nat.mod_eq_of_lt h, if_pos (by rw [Nat.add_mul]; omega)]
    · rw [List.getElem?_append_right (by omega), rep_get tl hd n (i - tl.length)]
      have e : (i - tl.length) % tl.length = i % tl.length := by
        have := Nat.add_mod_right (i - tl.length) tl.length
        rw [← this, Nat.sub_add_cancel (by omega)]
      rw [e]
      by_cases h2 : i - tl.length < n * tl.length
      · rw [if_pos h2, if_pos (by rw [Nat.add_mul]; omega)]
      · rw [if_neg h2, if_neg (by rw [Nat.add_mul]; omega)]
/-- the beginning of a row that comes again and again -/
def cyc (tl : List Nat) (n : Nat) : List Nat := ((List.replicate n tl).flatten).take n
theorem cyc_get {tl : List Nat} (hd : 0 < tl.length) (n i : Nat) : (cyc tl n)[i]? = if i < n then tl[i % tl.length]? else none := by
  unfold cyc
  rw [List.getElem?_take]
  by_cases h : i < n
  · rw [if_pos h, if_pos h, rep_get tl hd, if_pos (Nat.lt_of_lt_of_le h (Nat.le_mul_of_pos_right n hd))]
  · rw [if_neg h, if_neg h]
theorem cyc_len {tl : List Nat} (hd : 0 < tl.length) (n : Nat) : (cyc tl n).length = n := by
  unfold cyc
  rw [List.length_take, List.length_flatten, List.map_replicate, List.sum_replicate_nat]
  exact Nat.min_eq_left (Nat.le_mul_of_pos_right n hd)
theorem cyc_succ {tl : List Nat} (hd : 0 < tl.length) (n : Nat) {c : Nat} (hc : tl[n % tl.length]? = some c) : cyc tl (n + 1) = cyc tl n ++ [c] := by
  refine List.ext_getElem? fun i => ?_
  rw [cyc_get hd]
  by_cases h : i < n
  · rw [List.getElem?_append_left (by rw [cyc_len hd]; exact h), cyc_get hd, if_pos h, if_pos (by omega)]
  · rw [List.getElem?_append_right (by rw [cyc_len hd]; omega), cyc_len hd]
    by_cases h2 : i = n
    · subst h2; rw [if_pos (by omega), hc, Nat.sub_self]; rfl
    · rw [if_neg (by omega)]
      have : i - n ≠ 0 := by omega
      obtain ⟨k, hk⟩ : ∃ k, i - n = k + 1 := ⟨i - n - 1, by omega⟩
      rw [hk]; rfl
/-- letter by letter -/
def ext1 (d : Nat) (row : List Nat) : List Nat := row ++ [row.getD (row.length - d) 0]
def extN (d : Nat) : Nat → List Nat → List Nat
  | 0, row => row
  | n + 1, row => ext1 d (extN d n row)
theorem extN_cyc {row : List Nat} {d : Nat} (h1 : 1 ≤ d) (h2 : d ≤ row.length) : ∀ n, extN d n row = row ++ cyc (row.drop (row.length - d)) n
  | 0 => by simp [extN, cyc]
  | n + 1 => by
    have hl : (row.drop (row.length - d)).length = d := by rw [List.length_drop]; omega
    have hd : 0 < (row.drop (row.length - d)).length := by omega
    have hlt : n % d < d := Nat.mod_lt _ h1
    obtain ⟨c, hc⟩ : ∃ c, (row.drop (row.length - d))[n % d]? = some c := ⟨_, List.getElem?_eq_getElem (by omega)⟩
    have hc' : (row.drop (row.length - d))[n % (row.drop (row.length - d)).length]? = some c := by rw [hl]; exact hc
    rw [extN, extN_cyc h1 h2 n, cyc_succ hd n hc', ext1, ← List.append_assoc]
    congr 2
    rw [List.length_append, cyc_len hd, List.getD_eq_getElem?_getD]
    by_cases hn : n < d
    · rw [List.getElem?_append_left (by omega), show row.length + n - d = row.length - d + n by omega, ← List.getElem?_drop]
      rw [Nat.mod_eq_of_lt hn] at hc
      rw [hc]; rfl
    · rw [List.getElem?_append_right (by omega), cyc_get hd, if_pos (by omega), hl]
      have e : (row.length + n - d - row.length) % d = n % d := by
        rw [show row.length + n - d - row.length = n - d by omega]
        have := Nat.add_mod_right (n - d) d
        rw [← this, Nat.sub_add_cancel (by omega)]
      rw [e, hc]; rfl
/-- what a command puts behind a text -/
def piece (x : List Nat) : Ky → List Nat
  | .cop p => cyc (x.drop (x.length - p.2.toNat)) p.1.toNat
  | .txt w => if w = [101, 110, 100] then [] else w
def textOf : List Nat → List Ky → List Nat
  | x, [] => x
  | x, k :: r => textOf (x ++ piece x k) r
end K13

/-! R5 -/
set_option Elab.async false
set_option linter.all false
set_option maxRecDepth 100000
set_option maxHeartbeats 1000000
namespace LV
open PySem
@[simp] theorem isB_ll : isB "list" "list" = true := by decide
@[simp] theorem isB_ls : isB "list" "str" = false := by decide
@[simp] theorem isB_li : isB "list" "int" = false := by decide
@[simp] theorem isB_lb : isB "list" "bool" = false := by decide
@[simp] theorem isB_lt : isB "list" "tuple" = false := by decide
@[simp] theorem isB_ld : isB "list" "dict" = false := by decide
/-- items numbered from a number on -/
def enumF : Nat → List D → List D
  | _, [] => []
  | k, d :: r => .tup [.int (k : Nat), d] :: enumF (k + 1) r
theorem enumF_eq : ∀ (ds : List D) (k : Nat), ds.mapIdx (fun i d => D.tup [.int ((k + i : Nat) : Int), d]) = enumF k ds
  | [], k => rfl
  | d :: r, k => by
    rw [List.mapIdx_cons, enumF, ← enumF_eq r (k + 1)]
    congr 1
    refine congrArg (fun f => List.mapIdx f r) (funext fun i => funext fun d => ?_)
    rw [show k + (i + 1) = k + 1 + i by omega]
theorem enumD_eq (ds : List D) : enumD ds = enumF 0 ds := by
  rw [← enumF_eq]
  unfold enumD
  refine congrArg (fun f => List.mapIdx f ds) (funext fun i => funext fun d => ?_)
  rw [Nat.zero_add]
def itE (us : List U) (st : Sto) : R (List D) := match us with
  | [.d (.lst ds)] => .ok (enumD ds) st
  | [.d (.lsx ds)] => .ok (enumD ds) st
  | _ => .bad
def itES (us : List U) (st : Sto) : R (List D) := match us with
  | [.d (.str x)] => .ok (enumD (x.map fun c => D.str [c])) st
  | _ => .bad
@[simp] theorem e_iEn (r : MA) (env : EnvU) (st : Sto) : iEn r env st = bd (r env st) fun us st1 => itE us st1 := Eq.trans rfl rfl
@[simp] theorem e_iEs (r : MA) (env : EnvU) (st : Sto) : iEs r env st = bd (r env st) fun us st1 => itES us st1 := Eq.trans rfl rfl
@[simp] theorem itE_lst (ds : List D) (st : Sto) : itE [.d (.lst ds)] st = .ok (enumF 0 ds) st := by rw [← enumD_eq]; rfl
@[simp] theorem itES_str (x : List Nat) (st : Sto) : itES [.d (.str x)] st = .ok (enumF 0 (x.map fun c => D.str [c])) st := by rw [← enumD_eq]; rfl
theorem mOwn_run {cn m : PySem.Str} {F : Fm} {n : Nat} {mo : ME} {r : MA} {env : EnvU} {st : Sto} {fs : List (PySem.Str × D)} {us : List U} (ho : mo env st = .ok (.d (.obj cn fs)) st) (hl : fs.lookup m = none) (hr : r env st = .ok us st) : mOwn cn m F n mo r env st = callA F n (.d (.obj cn fs) :: us) st := by
  unfold mOwn
  simp only [ho, R.bind, e_get_d, hl, and_self, if_true, hr]
theorem eq_ts (p : Int × Int) {x : List Nat} (h : ∀ c ∈ x, c < 1114112) : dEq (prD p) (.str x) = some (.bl false) := by
  show (if (shp (prD p) && shp (.str x)) = true then some (D.bl (deq (prD p) (.str x))) else none) = _
  rw [shp_pr, shp_str h, deq_ts]; rfl
theorem eq_fin (k : Ky) : dEq k.d (.str [101, 110, 100]) = some (.bl (decide (k = .fin))) := by
  cases k with
  | txt x =>
    show some (D.bl (decide (x = [101, 110, 100]))) = _
    by_cases h : x = [101, 110, 100]
    · subst h; rfl
    · rw [decide_eq_false h, decide_eq_false fun e => h (Ky.txt.inj e)]
  | cop p =>
    rw [decide_eq_false (by intro e; cases e)]
    exact eq_ts p (by decide)
theorem ne_fin (k : Ky) : dNe k.d (.str [101, 110, 100]) = some (.bl (!decide (k = .fin))) := by
  cases k with
  | txt x =>
    show some (D.bl (!decide (x = [101, 110, 100]))) = _
    by_cases h : x = [101, 110, 100]
    · subst h; rfl
    · rw [decide_eq_false h, decide_eq_false fun e => h (Ky.txt.inj e)]
  | cop p =>
    rw [decide_eq_false (by intro e; cases e)]
    exact ne_ts p (by decide)
@[simp] theorem e_fin_nx (k : Nat) (env : EnvU) (st : Sto) : fin k (.nx env st) = .ok (.d .non) (st.take k) := rfl
theorem call_p3 {F : Fm} {a b c v : D} {st : Sto} (h : F [.d a, .d b, .d c] [] = .ok (.d v) []) : callA F 3 [.d a, .d b, .d c] st = .ok (.d v) st := by
  have := call_d (st := st) (ds := [a, b, c]) (n := 3) h rfl
  rwa [List.append_nil] at this
theorem call_x2 {F : Fm} {a b : D} {x : Xc} {st : Sto} (h : F [.d a, .d b] [] = .exc x []) : callA F 2 [.d a, .d b] st = .exc x st := by
  have := call_dx (st := st) (ds := [a, b]) (n := 2) h rfl
  rwa [List.append_nil] at this
theorem minI_perm {a b : List Int} (h : a.Perm b) (h0 : a ≠ []) : minI a = minI b := by
  have hb : b ≠ [] := fun e => h0 (by rw [e] at h; exact h.eq_nil)
  obtain ⟨a1, a2⟩ := minI_mem h0
  obtain ⟨b1, b2⟩ := minI_mem hb
  exact Int.le_antisymm (a2 _ (h.mem_iff.mpr b1)) (b2 _ (h.mem_iff.mp a1))
theorem min_ints {L : List Int} (h : L ≠ []) : fMin [.lst (L.map D.int)] = some (.int (minI L)) := by
  cases L with
  | nil => exact absurd rfl h
  | cons a r =>
    have e := intsOf_map (a :: r)
    unfold fMin
    simp only [e]
end LV
namespace K13
open LV
/-- a format made -/
structure Obj (l : List Nat) (t : WT) (hd : Tb) : Prop where
  fmt : Fmt l t
  hd : HdOk (hdsAll t) hd
abbrev ob (l : List Nat) (t : WT) (hd : Tb) : D := .obj "Format" (fmtFs l t hd)
section
variable {l : List Nat} {t : WT} {hd : Tb} (o : Obj l t hd)
include o
theorem Obj.sep : Sep t := ⟨o.fmt.keys.nodup, o.fmt.pf⟩
theorem Obj.op : (ordOf l (t.map (·.1))).Perm (t.map (·.1)) := by
  obtain ⟨cs, _, _, hperm⟩ := o.fmt.keys.cs
  exact ord_perm hperm
theorem Obj.finMem : Ky.fin ∈ t.map (·.1) := (o.fmt.keys.mem (k := .fin)).mpr (.inr (.inl rfl))
theorem coded_at {k : Ky} (hk : k ∈ t.map (·.1)) : dDx (.dic (WT.tb ((ordOf l (t.map (·.1))).map fun k => (k, wd t k))).d) k.d = some (.str (wd t k)) := by
  rw [v_dx]
  have hO := o.op
  have hn : (ordOf l (t.map (·.1))).Nodup := hO.nodup_iff.mpr o.fmt.keys.nodup
  refine tlook_mem ?_ ?_
  · rw [WT.keys, List.map_map, show ((fun x : Ky × List Nat => x.1) ∘ fun k => (k, wd t k)) = id from rfl, List.map_id]; exact hn
  · unfold WT.tb
    rw [List.map_map]
    exact List.mem_map.mpr ⟨k, hO.mem_iff.mpr hk, rfl⟩
end
end K13

/-! R6 -/
set_option Elab.async false
set_option linter.all false
set_option maxRecDepth 100000
set_option maxHeartbeats 1000000
namespace K13
open LV
theorem rch_nonneg {l : List Nat} {ks : List Ky} (h : Keys l ks) {k : Ky} (hk : k ∈ ks) : 0 ≤ rch k ∧ rch k ≤ 8 ∧ 0 ≤ need k ∧ need k ≤ 8 := by
  rcases h.mem.mp hk with ⟨c, _, rfl⟩ | rfl | ⟨p, rfl, hp⟩
  · show 0 ≤ (if [c] = [101, 110, 100] then (0 : Int) else 1) ∧ (if [c] = [101, 110, 100] then (0 : Int) else 1) ≤ 8 ∧ (0 : Int) ≤ 0 ∧ (0 : Int) ≤ 8
    split <;> omega
  · decide
  · have := h.cop hp
    show 0 ≤ p.1 ∧ p.1 ≤ 8 ∧ 0 ≤ p.2 ∧ p.2 ≤ 8
    omega
section
variable {l : List Nat} {t : WT} {hd : Tb} (o : Obj l t hd)
include o
theorem price_at {k : Ky} (hk : k ∈ t.map (·.1)) : Tb.look ((ordOf l (t.map (·.1))).map fun k => (k, D.int ((wd t k).length : Int))) k = some (.int ((wd t k).length : Int)) := by
  have hO := o.op
  have hn : (ordOf l (t.map (·.1))).Nodup := hO.nodup_iff.mpr o.fmt.keys.nodup
  refine tlook_mem ?_ (List.mem_map.mpr ⟨k, hO.mem_iff.mpr hk, rfl⟩)
  rw [List.map_map, show ((fun x : Ky × D => x.1) ∘ fun k => (k, D.int ((wd t k).length : Int))) = id from rfl, List.map_id]; exact hn
theorem has {k : Ky} (hk : k ∈ t.map (·.1)) : F_Format_has [.d (ob l t hd), .d k.d] [] = .ok (.d (.bl true)) [] := by
  have f1 := mFld_run (c := "Format") (f := "prices") (m := mV 0) (env := [some (.d (ob l t hd)), some (.d k.d)]) (st := []) (st1 := []) (u := .d (ob l t hd)) (fs := fmtFs l t hd) (d := .dic (Tb.d ((ordOf l (t.map (·.1))).map fun k => (k, .int ((wd t k).length : Int))))) (by simp) (by simp) rfl
  have hp := price_at o hk
  have hin : dInK k.d (.dic (Tb.d ((ordOf l (t.map (·.1))).map fun k => (k, .int ((wd t k).length : Int))))) = some (.bl true) := by rw [v_in_k, hp]; rfl
  unfold F_Format_has fnM m_Format_has
  cases k with
  | txt x =>
    have c1 := fun st => call_p1 (st := st) (is_copy_s x)
    have c1' : ∀ st, callA F_is_copy 1 [.d (Ky.txt x).d] st = .ok (.d (.bl false)) st := c1
    have ty : tyD (Ky.txt x).d = some "str" := rfl
    simp [c1', ty, f1, hin]
  | cop p =>
    rcases o.fmt.keys.mem.mp hk with ⟨c, _, e⟩ | e | ⟨q, e, hq⟩
    · cases e
    · cases e
    · cases e
      obtain ⟨a1, a2, a3, a4⟩ := o.fmt.keys.cop hq
      have c1 := fun st => call_p1 (st := st) (is_copy_p a1 a2 a3 a4)
      have c1' : ∀ st, callA F_is_copy 1 [.d (Ky.cop p).d] st = .ok (.d (.bl true)) st := c1
      simp [c1', f1, hin]
theorem check_go {W : D} : ∀ {way : List Ky} {j : Nat} {m : Int} {o3 o4 : Option U}, WayOk t m way → ∃ m' o3' o4', forGo (gTu 2 (gsC (gN 3) (gsC (gN 4) gsN))) b_check_way_0 ((enumF j (way.map Ky.d)).map U.d) [some (.d (ob l t hd)), some (.d W), some (.d (.int m)), o3, o4] [] = .nx [some (.d (ob l t hd)), some (.d W), some (.d (.int m')), o3', o4'] []
  | [], j, m, o3, o4, _ => ⟨m, o3, o4, rfl⟩
  | k :: r, j, m, o3, o4, h => by
    obtain ⟨h1, h2, h3, h4⟩ := h
    obtain ⟨m', o3', o4', ih⟩ := check_go (W := W) (way := r) (j := j + 1) (m := m + rch k) (o3 := some (.d (.int (j : Int)))) (o4 := some (.d k.d)) h4
    refine ⟨m', o3', o4', ?_⟩
    have c1 := fun st => call_p2 (st := st) (has o h1)
    have cn := fun st => call_p1 (st := st) (needed k)
    have cr := fun st => call_p1 (st := st) (reach k)
    have hm := mOwn_run (cn := "Format") (m := "has") (F := F_Format_has) (n := 2) (mo := mV 0) (r := aC (mV 4) aN) (env := [some (.d (ob l t hd)), some (.d W), some (.d (.int m)), some (.d (.int (j : Int))), some (.d k.d)]) (st := []) (fs := fmtFs l t hd) (us := [.d k.d]) (by simp) rfl (by simp)
    rw [c1] at hm
    have ef := eq_fin k
    have h3' : ¬ m < need k := by omega
    have hb : b_check_way_0 [some (.d (ob l t hd)), some (.d W), some (.d (.int m)), some (.d (.int (j : Int))), some (.d k.d)] [] = .nx [some (.d (ob l t hd)), some (.d W), some (.d (.int (m + rch k))), some (.d (.int (j : Int))), some (.d k.d)] [] := by
      unfold b_check_way_0
      simp [hm, ef, h2, cn, cr, h3']
    rw [List.map_cons]
    unfold enumF
    rw [List.map_cons]
    unfold forGo
    simp only [gTu_2, List.set_cons_succ, List.set_cons_zero, hb]
    exact ih
theorem check_way {way : List Ky} (h : WayOk t 0 way) : F_check_way [.d (ob l t hd), .d (.lst (way.map Ky.d))] [] = .ok (.d .non) [] := by
  obtain ⟨m', o3', o4', hg⟩ := check_go o (W := .lst (way.map Ky.d)) (way := way) (j := 0) (m := 0) (o3 := none) (o4 := none) h
  unfold F_check_way fnM m_check_way
  simp [-List.map_map, hg]
theorem wayMem : ∀ {way : List Ky} {m : Int}, WayOk t m way → ∀ k ∈ way, k ∈ t.map (·.1)
  | [], _, _, k, h => by simp at h
  | a :: r, m, ⟨h1, _, _, h4⟩, k, h => by
    rcases List.mem_cons.mp h with rfl | h
    · exact h1
    · exact wayMem h4 k h
theorem written {way : List Ky} (h : WayOk t 0 way) (hl : way.length ≤ 1000) : F_written [.d (ob l t hd), .d (.lst (way.map Ky.d))] [] = .ok (.d (.str (wordsOf t way ++ wd t .fin))) [] := by
  have c1 := fun st => call_p2 (st := st) (check_way o h)
  have hm := wayMem o h
  have h12 : ∀ k ∈ t.map (·.1), (wd t k).length ≤ 12 := fun k hk => o.fmt.pf.hi _ (wd_mem hk)
  have hcw : ∀ (env : EnvU) (st : Sto), env[0]? = some (some (.d (ob l t hd))) → mFld "Format" "coded_words" (mV 0) env st = .ok (.d (.dic (WT.tb ((ordOf l (t.map (·.1))).map fun k => (k, wd t k))).d)) st := fun env st he =>
    mFld_run (u := .d (ob l t hd)) (fs := fmtFs l t hd) (by simp [he]) (by simp) rfl
  have lc := nLc_all (it := iL (mV 1)) (env := [some (.d (ob l t hd)), some (.d (.lst (way.map Ky.d))), none, none]) (vs := [2, 3]) (i := 3) (st := []) (st1 := []) (g := Ky.d) (xs := way) (f := fun k => D.str (wd t k))
    (elt := oL dDx (mFld "Format" "coded_words" (mV 0)) (mV 3)) (by simp) (fun k hk a => by
      have := hcw ((wipeE [some (.d (ob l t hd)), some (.d (.lst (way.map Ky.d))), none, none] [2, 3]).set 3 (some (.d k.d))) ([] ++ [a]) rfl
      have hd := coded_at o (hm k hk)
      simp [this, wipeE, hd]
      simp [wipeE] at this
      simp [this, hd]) (by unfold sizeL; omega)
  have hsum : ∀ w : List Ky, (∀ k ∈ w, k ∈ t.map (·.1)) → ((w.map (wd t)).map List.length).sum ≤ 12 * w.length := by
    intro w
    induction w with
    | nil => intro _; simp
    | cons a r ih =>
      intro hw
      have := ih fun k hk => hw k (List.mem_cons_of_mem _ hk)
      have := h12 a (hw a List.mem_cons_self)
      simp at *; omega
  have hs := hsum way hm
  have hj : ∀ st, oJoin (.d (.str [])) [.d (.lst (way.map fun k => D.str (wd t k)))] st = .ok (.d (.str (wordsOf t way))) st := fun st => by
    have e : (way.map fun k => D.str (wd t k)) = (way.map (wd t)).map D.str := by rw [List.map_map]; rfl
    unfold oJoin
    simp only [e_get_d, e, strsOf_map, List.length_nil, Nat.mul_zero, Nat.add_zero]
    rw [if_pos (by omega), joinL_nil]; rfl
  have hlen : (wordsOf t way).length + (wd t .fin).length ≤ sizeL := by
    have e : (wordsOf t way).length = ((way.map (wd t)).map List.length).sum := by unfold wordsOf; rw [List.length_flatten]
    have := h12 .fin o.finMem
    rw [e]; unfold sizeL; omega
  have hfin := coded_at o o.finMem
  have hfin' : dDx (.dic (WT.tb ((ordOf l (t.map (·.1))).map fun k => (k, wd t k))).d) (.str [101, 110, 100]) = some (.str (wd t .fin)) := hfin
  have hcw0 := hcw [some (.d (ob l t hd)), some (.d (.lst (way.map Ky.d))), none, none] [] rfl
  unfold F_written fnM m_written
  simp [-List.map_map, c1, lc, hj, hcw0, hfin', hlen]
theorem can_come {h : List Nat} {m : Int} : F_can_come [.d (ob l t hd), .d (.str h), .d (.int m)] [] = .ok (.d (.bl (could t h m))) [] := by
  have f1 := mFld_run (c := "Format") (f := "heads") (m := mV 0) (env := [some (.d (ob l t hd)), some (.d (.str h)), some (.d (.int m))]) (st := []) (st1 := []) (u := .d (ob l t hd)) (fs := fmtFs l t hd) (d := .dic hd.d) (by simp) (by simp) rfl
  have hin : dInK (.str h) (.dic hd.d) = some (.bl (Tb.look hd (.txt h)).isSome) := v_in_k (.txt h) hd
  have hdx : dDx (.dic hd.d) (.str h) = Tb.look hd (.txt h) := v_dx (.txt h) hd
  have H := o.hd h
  unfold F_can_come fnM m_can_come
  cases e : Tb.look hd (.txt h) with
  | none =>
    rw [e] at H hin
    have hc : could t h m = false := Bool.eq_false_iff.mpr fun hc => by
      obtain ⟨k, w, h1, h2, h3⟩ := could_is hc
      exact H (h, need k) (hdsAll_mem.mpr ⟨_, h1, h2, rfl⟩) rfl
    simp [f1, hin, hc]
  | some d =>
    rw [e] at H hin hdx
    obtain ⟨z, rfl, ⟨p, h2, h3, h4⟩, h5⟩ := H
    have hc : could t h m = decide (z ≤ m) := by
      by_cases hz : z ≤ m
      · rw [decide_eq_true hz]
        have hp : (h, z) ∈ hdsAll t := by rw [← h3, ← h4]; exact h2
        obtain ⟨q, q1, q2, q3⟩ := hdsAll_mem.mp hp
        exact could_of q1 q2 (by omega)
      · rw [decide_eq_false hz]
        refine Bool.eq_false_iff.mpr fun hc => ?_
        obtain ⟨k, w, q1, q2, q3⟩ := could_is hc
        have := h5 (h, need k) (hdsAll_mem.mpr ⟨_, q1, q2, rfl⟩) rfl
        simp only at this
        omega
    simp [f1, hin, hdx, hc]
end
end K13

/-! R7 -/
set_option Elab.async false
set_option linter.all false
set_option maxRecDepth 100000
set_option maxHeartbeats 1000000
namespace K13
open LV
/-- what a key lacks behind a head -/
def lackK (t : WT) (h : List Nat) (k : Ky) : Int := ((wd t k).length : Int) - h.length + if k = .fin then 0 else ((wd t .fin).length : Int)
def fitK (t : WT) (h : List Nat) (m : Int) (k : Ky) : Bool := h.isPrefixOf (wd t k) && decide (need k ≤ m)
def lackKs (t : WT) (h : List Nat) (m : Int) (ks : List Ky) : List Int := (ks.filter (fitK t h m)).map (lackK t h)
theorem lackKs_keys {t : WT} (nd : (t.map (·.1)).Nodup) (h : List Nat) (m : Int) : lackL t h m = lackKs t h m (t.map (·.1)) := by
  unfold lackKs lackL
  rw [List.filter_map, List.map_map]
  have e : ∀ p ∈ t, wd t p.1 = p.2 := fun p hp => wd_of nd hp
  have ef : t.filter (fun p => h.isPrefixOf p.2 && decide (need p.1 ≤ m)) = t.filter (fitK t h m ∘ fun x => x.1) := by
    refine List.filter_congr fun p hp => ?_
    show _ = (h.isPrefixOf (wd t p.1) && decide (need p.1 ≤ m))
    rw [e p hp]
  rw [ef]
  refine List.map_congr_left fun p hp => ?_
  show _ = ((wd t p.1).length : Int) - h.length + _
  rw [e p (List.mem_filter.mp hp).1]
theorem lackKs_perm {t : WT} {h : List Nat} {m : Int} {a b : List Ky} (p : a.Perm b) : (lackKs t h m a).Perm (lackKs t h m b) := (p.filter _).map _
theorem lackL_ne {t : WT} {h : List Nat} {m : Int} (hc : could t h m = true) : lackL t h m ≠ [] := by
  obtain ⟨k, w, h1, h2, h3⟩ := could_is hc
  intro e
  unfold lackL at e
  rw [List.map_eq_nil_iff, List.filter_eq_nil_iff] at e
  refine e _ h1 ?_
  rw [Bool.and_eq_true]
  exact ⟨List.isPrefixOf_iff_prefix.mpr h2, decide_eq_true h3⟩
section
variable {l : List Nat} {t : WT} {hd : Tb} (o : Obj l t hd)
include o
theorem price_fin : dDx (.dic (Tb.d ((ordOf l (t.map (·.1))).map fun k => (k, D.int ((wd t k).length : Int))))) (.str [101, 110, 100]) = some (.int ((wd t .fin).length : Int)) := by
  have := v_dx .fin ((ordOf l (t.map (·.1))).map fun k => (k, D.int ((wd t k).length : Int)))
  rw [price_at o o.finMem] at this
  exact this
theorem least_go {h : List Nat} {m : Int} (hh : h.length ≤ 1000) : ∀ {ks : List Ky} {acc : List Int} {o4 o5 o6 : Option U}, (∀ k ∈ ks, k ∈ t.map (·.1)) → acc.length + ks.length ≤ 1000 →
    ∃ o4' o5' o6', forGo (gN 4) b_least_due_0 ((ks.map Ky.d).map U.d) [some (.d (ob l t hd)), some (.d (.str h)), some (.d (.int m)), some (.c 0), o4, o5, o6] [some (.lst (acc.map D.int))] =
      .nx [some (.d (ob l t hd)), some (.d (.str h)), some (.d (.int m)), some (.c 0), o4', o5', o6'] [some (.lst ((acc ++ lackKs t h m ks).map D.int))]
  | [], acc, o4, o5, o6, _, _ => ⟨o4, o5, o6, by simp [forGo, lackKs]⟩
  | k :: r, acc, o4, o5, o6, hk, hl => by
    have hm := hk k List.mem_cons_self
    have hcd := coded_at o hm
    have hw := o.fmt.pf.hi _ (wd_mem hm)
    have cn := fun st => call_p1 (st := st) (needed k)
    have z1 : (wd t k).length ≤ sizeL := by unfold sizeL; omega
    have z2 : h.length ≤ sizeL := by unfold sizeL; omega
    have hf1 := mFld_run (c := "Format") (f := "coded_words") (m := mV 0) (env := [some (.d (ob l t hd)), some (.d (.str h)), some (.d (.int m)), some (.c 0), some (.d k.d), o5, o6]) (st := [some (.lst (acc.map D.int))]) (st1 := [some (.lst (acc.map D.int))]) (u := .d (ob l t hd)) (fs := fmtFs l t hd) (d := .dic (WT.tb ((ordOf l (t.map (·.1))).map fun k => (k, wd t k))).d) (by simp) (by simp) rfl
    have hpf := price_fin o
    have hne := ne_fin k
    by_cases hfit : fitK t h m k = true
    · have hf := hfit
      unfold fitK at hf
      rw [Bool.and_eq_true] at hf
      have hpre : h.isPrefixOf (wd t k) = true := hf.1
      have hnd : need k ≤ m := of_decide_eq_true hf.2
      obtain ⟨o4', o5', o6', ih⟩ := least_go (m := m) hh (ks := r) (acc := acc ++ [lackK t h k]) (o4 := some (.d k.d)) (o5 := some (.d (.str (wd t k)))) (o6 := some (.d (.int (lackK t h k)))) (fun q hq => hk q (List.mem_cons_of_mem _ hq)) (by simp at hl ⊢; omega)
      refine ⟨o4', o5', o6', ?_⟩
      have hap := append_at (st := [some (.lst (acc.map D.int))]) (k := 0) (xs := acc.map D.int) (d := .int (lackK t h k)) rfl (by simp at hl ⊢; unfold sizeL; omega)
      have hf2 := mFld_run (c := "Format") (f := "prices") (m := mV 0) (env := [some (.d (ob l t hd)), some (.d (.str h)), some (.d (.int m)), some (.c 0), some (.d k.d), some (.d (.str (wd t k))), some (.d (.int (((wd t k).length : Int) - h.length)))]) (st := [some (.lst (acc.map D.int))]) (st1 := [some (.lst (acc.map D.int))]) (u := .d (ob l t hd)) (fs := fmtFs l t hd) (d := .dic (Tb.d ((ordOf l (t.map (·.1))).map fun k => (k, .int ((wd t k).length : Int))))) (by simp) (by simp) rfl
      have hb : b_least_due_0 [some (.d (ob l t hd)), some (.d (.str h)), some (.d (.int m)), some (.c 0), some (.d k.d), o5, o6] [some (.lst (acc.map D.int))] = .nx [some (.d (ob l t hd)), some (.d (.str h)), some (.d (.int m)), some (.c 0), some (.d k.d), some (.d (.str (wd t k))), some (.d (.int (lackK t h k)))] [some (.lst ((acc ++ [lackK t h k]).map D.int))] := by
        unfold b_least_due_0
        by_cases hfn : k = .fin
        · have hl2 : lackK t h k = ((wd t k).length : Int) - h.length := by unfold lackK; rw [if_pos hfn]; omega
          rw [hl2] at hap ⊢
          have hne' : dNe k.d (.str [101, 110, 100]) = some (.bl false) := by rw [hne, decide_eq_true hfn]; rfl
          simp [hf1, hcd, oSw_run, hpre, cn, hnd, z1, z2, hne', hap]
        · have hl2 : ((wd t k).length : Int) - h.length + ((wd t .fin).length : Int) = lackK t h k := by unfold lackK; rw [if_neg hfn]
          simp [hf1, hcd, oSw_run, hpre, cn, hnd, z1, z2, hne, hfn, hf2, hpf, hl2, hap]
      rw [List.map_cons, List.map_cons]
      unfold forGo
      simp only [e_gN, List.set_cons_succ, List.set_cons_zero, hb]
      rw [ih]
      congr 4
      unfold lackKs
      rw [List.filter_cons_of_pos hfit]; simp
    · obtain ⟨o4', o5', o6', ih⟩ := least_go (m := m) hh (ks := r) (acc := acc) (o4 := some (.d k.d)) (o5 := some (.d (.str (wd t k)))) (o6 := o6) (fun q hq => hk q (List.mem_cons_of_mem _ hq)) (by simp at hl ⊢; omega)
      refine ⟨o4', o5', o6', ?_⟩
      have hb : b_least_due_0 [some (.d (ob l t hd)), some (.d (.str h)), some (.d (.int m)), some (.c 0), some (.d k.d), o5, o6] [some (.lst (acc.map D.int))] = .nx [some (.d (ob l t hd)), some (.d (.str h)), some (.d (.int m)), some (.c 0), some (.d k.d), some (.d (.str (wd t k))), o6] [some (.lst (acc.map D.int))] := by
        have hf := hfit
        unfold fitK at hf
        unfold b_least_due_0
        by_cases hpre : h.isPrefixOf (wd t k) = true
        · rw [hpre, Bool.true_and, decide_eq_true_iff] at hf
          simp [hf1, hcd, oSw_run, hpre, cn, hf, z1, z2]
        · have hpre' := Bool.eq_false_iff.mpr hpre
          simp [hf1, hcd, oSw_run, hpre', z1, z2]
      rw [List.map_cons, List.map_cons]
      unfold forGo
      simp only [e_gN, List.set_cons_succ, List.set_cons_zero, hb]
      rw [ih]
      congr 4
      unfold lackKs
      rw [List.filter_cons_of_neg hfit]
theorem least_due {h : List Nat} {m : Int} (hh : h.length ≤ 1000) (hc : could t h m = true) : F_least_due [.d (ob l t hd), .d (.str h), .d (.int m)] [] = .ok (.d (.int (minI (lackL t h m)))) [] := by
  have hol : (ordOf l (t.map (·.1))).length ≤ 40 := by rw [o.op.length_eq]; exact o.fmt.keys.len
  obtain ⟨o4', o5', o6', hg⟩ := least_go o (h := h) (m := m) hh (ks := ordOf l (t.map (·.1))) (acc := []) (o4 := none) (o5 := none) (o6 := none) (fun k hk => o.op.mem_iff.mp hk) (by simp; omega)
  rw [List.nil_append] at hg
  have hp : (lackKs t h m (ordOf l (t.map (·.1)))).Perm (lackL t h m) := by rw [lackKs_keys o.fmt.keys.nodup]; exact lackKs_perm o.op
  have hne : lackKs t h m (ordOf l (t.map (·.1))) ≠ [] := fun e => by rw [e] at hp; exact lackL_ne hc hp.symm.eq_nil
  have hmin := min_ints hne
  rw [minI_perm hp hne] at hmin
  have f1 := mFld_run (c := "Format") (f := "order") (m := mV 0) (env := [some (.d (ob l t hd)), some (.d (.str h)), some (.d (.int m)), some (.c 0), none, none, none]) (st := [some (.lst [])]) (st1 := [some (.lst [])]) (u := .d (ob l t hd)) (fs := fmtFs l t hd) (d := .lst ((ordOf l (t.map (·.1))).map Ky.d)) (by simp) (by simp) rfl
  have hg' : forGo (gN 4) b_least_due_0 (((ordOf l (t.map (·.1))).map Ky.d).map U.d) [some (.d (ob l t hd)), some (.d (.str h)), some (.d (.int m)), some (.c 0), none, none, none] [some (.lst [])] = _ := hg
  unfold F_least_due fnM m_least_due
  simp [-List.map_map, f1, hg', hmin]
end
end K13

/-! R8 -/
set_option Elab.async false
set_option linter.all false
set_option maxRecDepth 100000
set_option maxHeartbeats 1000000
namespace LV
def raiseU (c f : PySem.Str) (u : U) (env : EnvU) (st : Sto) : RS := match u with
  | .d d => .exc ⟨c, [(f, d)]⟩ env st
  | _ => .bad
@[simp] theorem e_sRaise (c f : PySem.Str) (m : ME) (env : EnvU) (st : Sto) : sRaise c f m env st = bs (m env st) env fun u st1 => raiseU c f u env st1 := Eq.trans rfl rfl
@[simp] theorem raiseU_d (c f : PySem.Str) (d : D) (env : EnvU) (st : Sto) : raiseU c f (.d d) env st = .exc ⟨c, [(f, d)]⟩ env st := rfl
@[simp] theorem e_sRaise0 (c : PySem.Str) (env : EnvU) (st : Sto) : sRaise0 c env st = .exc ⟨c, []⟩ env st := rfl
@[simp] theorem v_iaddS (p q : List Nat) : dIAddS (.str p) (.str q) = if p.length + q.length ≤ sizeL then some (.str (p ++ q)) else none := rfl
end LV
namespace K13
open LV
theorem bw_look {t : WT} (s : Sep t) {T : Tb} (h1 : ∀ q ∈ T, ∃ p ∈ t, q = (Ky.txt p.2, p.1.d)) (h2 : ∀ p ∈ t, (Ky.txt p.2, p.1.d) ∈ T) (nd : (T.map (·.1)).Nodup) (h : List Nat) : Tb.look T (.txt h) = (byW t h).map Ky.d := by
  cases e : byW t h with
  | none =>
    refine tlook_none fun hm => ?_
    obtain ⟨q, hq, hq2⟩ := List.mem_map.mp hm
    obtain ⟨p, hp, rfl⟩ := h1 q hq
    cases hq2
    rw [byW_some s (k := p.1) (h := p.2) hp] at e
    cases e
  | some k => exact tlook_mem nd (h2 _ (byW_mem e))
def ReadR (l : List Nat) (t : WT) (hd : Tb) (bits : List Nat) (r : Res) (x : RS) : Prop := match r with
  | .bad j => ∃ env st, x = .exc ⟨"BadBits", [("at", .int (j : Int))]⟩ env st
  | .left j => ∃ env st, x = .exc ⟨"Left", [("at", .int (j : Int))]⟩ env st
  | .ok way => ∃ st, x = .rt (.d (.lst (way.map Ky.d))) st
  | .few d => ∃ (h : List Nat) (m : Int) (o5 o6 o7 : Option U) (st : Sto), x = .nx [some (.d (ob l t hd)), some (.d (.str bits)), some (.c 0), some (.d (.int m)), some (.d (.str h)), o5, o6, o7] st ∧ could t h m = true ∧ d = minI (lackL t h m) ∧ h.length ≤ 1000
section
variable {l : List Nat} {t : WT} {hd : Tb} (o : Obj l t hd)
include o
theorem could_nil {m : Int} (hm : 0 ≤ m) : could t [] m = true := by
  have h1 := o.fmt.keys.l1
  cases hl : l with
  | nil => rw [hl] at h1; simp at h1
  | cons c r =>
    have hk : Ky.ltr c ∈ t.map (·.1) := o.fmt.keys.mem.mpr (.inl ⟨c, by rw [hl]; exact List.mem_cons_self, rfl⟩)
    exact could_of (mem_wd hk) List.nil_prefix (show (0 : Int) ≤ m from hm)
theorem byword_look (h : List Nat) : Tb.look ((ordOf l (t.map (·.1))).map fun k => (Ky.txt (wd t k), k.d)) (.txt h) = (byW t h).map Ky.d := by
  have hO := o.op
  have hn : (ordOf l (t.map (·.1))).Nodup := hO.nodup_iff.mpr o.fmt.keys.nodup
  refine bw_look o.sep (fun q hq => ?_) (fun p hp => ?_) ?_ h
  · obtain ⟨k, hk, rfl⟩ := List.mem_map.mp hq
    exact ⟨(k, wd t k), mem_wd (hO.mem_iff.mp hk), rfl⟩
  · refine List.mem_map.mpr ⟨p.1, hO.mem_iff.mpr (List.mem_map.mpr ⟨p, hp, rfl⟩), ?_⟩
    rw [wd_of o.fmt.keys.nodup (k := p.1) (w := p.2) hp]
  · have hKW := wd_keys o.fmt.keys.nodup
    have h2 : ((ordOf l (t.map (·.1))).map (wd t)).Nodup := (hKW ▸ hO.map (wd t)).nodup_iff.mpr (nodup_words o.sep)
    have h3 : (((ordOf l (t.map (·.1))).map (wd t)).map Ky.txt).Nodup := List.Pairwise.map _ (fun a b h e => h (Ky.txt.inj e)) h2
    rw [List.map_map] at h3 ⊢
    exact h3
theorem read_go {bits : List Nat} (hn : bits.length ≤ 500) : ∀ {rest : List Nat} {i : Nat} {h : List Nat} {m : Int} {f : List Ky} {o5 o6 o7 : Option U}, i + rest.length = bits.length → could t h m = true → 0 ≤ m → h.length + rest.length ≤ 600 → f.length + rest.length ≤ 600 →
    ReadR l t hd bits (parse t bits.length rest i h m f) (forGo (gTu 2 (gsC (gN 5) (gsC (gN 6) gsN))) b_read_0 ((enumF i (rest.map fun c => D.str [c])).map U.d) [some (.d (ob l t hd)), some (.d (.str bits)), some (.c 0), some (.d (.int m)), some (.d (.str h)), o5, o6, o7] [some (.lst (f.map Ky.d))])
  | [], i, h, m, f, o5, o6, o7, _, hc, _, hh, _ => ⟨h, m, o5, o6, o7, _, rfl, hc, rfl, by simp at hh; omega⟩
  | b :: r, i, h, m, f, o5, o6, o7, hi, hc, hm, hh, hf => by
    have z1 : h.length + 1 ≤ sizeL := by simp at hh; unfold sizeL; omega
    have z2 : bits.length ≤ sizeL := by unfold sizeL; omega
    have cc := fun st => call_p3 (st := st) (can_come o (h := h ++ [b]) (m := m))
    have fbw : ∀ (o7 : Option U) (st : Sto), mFld "Format" "by_word" (mV 0) [some (.d (ob l t hd)), some (.d (.str bits)), some (.c 0), some (.d (.int m)), some (.d (.str (h ++ [b]))), some (.d (.int (i : Int))), some (.d (.str [b])), o7] st = .ok (.d (.dic (Tb.d ((ordOf l (t.map (·.1))).map fun k => (Ky.txt (wd t k), k.d))))) st := fun o7 st =>
      mFld_run (u := .d (ob l t hd)) (fs := fmtFs l t hd) (by simp) (by simp) rfl
    have hbl := byword_look o (h ++ [b])
    have hin : dInK (.str (h ++ [b])) (.dic (Tb.d ((ordOf l (t.map (·.1))).map fun k => (Ky.txt (wd t k), k.d)))) = some (.bl ((byW t (h ++ [b])).map Ky.d).isSome) := by rw [← hbl]; exact v_in_k (.txt (h ++ [b])) _
    have hdx : dDx (.dic (Tb.d ((ordOf l (t.map (·.1))).map fun k => (Ky.txt (wd t k), k.d)))) (.str (h ++ [b])) = (byW t (h ++ [b])).map Ky.d := by rw [← hbl]; exact v_dx (.txt (h ++ [b])) _
    rw [List.map_cons, enumF, List.map_cons]
    unfold forGo
    simp only [gTu_2, List.set_cons_succ, List.set_cons_zero]
    rw [parse_cons]
    by_cases hcd : could t (h ++ [b]) m = true
    · rw [if_pos hcd]
      rw [hcd] at cc
      cases hb : byW t (h ++ [b]) with
      | none =>
        rw [hb] at hin hdx
        have hbody : b_read_0 [some (.d (ob l t hd)), some (.d (.str bits)), some (.c 0), some (.d (.int m)), some (.d (.str h)), some (.d (.int (i : Int))), some (.d (.str [b])), o7] [some (.lst (f.map Ky.d))] =
            .nx [some (.d (ob l t hd)), some (.d (.str bits)), some (.c 0), some (.d (.int m)), some (.d (.str (h ++ [b]))), some (.d (.int (i : Int))), some (.d (.str [b])), o7] [some (.lst (f.map Ky.d))] := by
          unfold b_read_0
          simp [z1, cc, fbw, hin]
        simp only [hbody]
        exact read_go hn (rest := r) (i := i + 1) (h := h ++ [b]) (by simp at hi; omega) hcd hm (by simp at hh ⊢; omega) (by simp at hf; omega)
      | some k =>
        rw [hb] at hin hdx
        have hkm := byW_mem hb
        have hk : k ∈ t.map (·.1) := List.mem_map.mpr ⟨_, hkm, rfl⟩
        have ef := eq_fin k
        by_cases hkf : k = .fin
        · rw [decide_eq_true hkf] at ef
          simp only [if_pos hkf]
          by_cases hlt : i + 1 < bits.length
          · rw [if_pos hlt]
            have hlt' : (i : Int) + 1 < bits.length := by omega
            have hbody : ∃ env st, b_read_0 [some (.d (ob l t hd)), some (.d (.str bits)), some (.c 0), some (.d (.int m)), some (.d (.str h)), some (.d (.int (i : Int))), some (.d (.str [b])), o7] [some (.lst (f.map Ky.d))] = .exc ⟨"Left", [("at", .int ((i + 1 : Nat) : Int))]⟩ env st := by
              unfold b_read_0
              simp [z1, cc, fbw, hin, hdx, ef, hlt', z2]
            obtain ⟨env, st, hbody⟩ := hbody
            simp only [hbody]
            exact ⟨_, _, rfl⟩
          · rw [if_neg hlt]
            have hlt' : ¬ (i : Int) + 1 < bits.length := by omega
            have hbody : ∃ st, b_read_0 [some (.d (ob l t hd)), some (.d (.str bits)), some (.c 0), some (.d (.int m)), some (.d (.str h)), some (.d (.int (i : Int))), some (.d (.str [b])), o7] [some (.lst (f.map Ky.d))] = .rt (.d (.lst (f.map Ky.d))) st := by
              unfold b_read_0
              simp [z1, cc, fbw, hin, hdx, ef, hlt', z2, fzU, isLk]
            obtain ⟨st, hbody⟩ := hbody
            simp only [hbody]
            exact ⟨_, rfl⟩
        · rw [decide_eq_false hkf] at ef
          simp only [if_neg hkf]
          have cr := fun st => call_p1 (st := st) (reach k)
          have hap := append_at (st := [some (.lst (f.map Ky.d))]) (k := 0) (xs := f.map Ky.d) (d := k.d) rfl (by simp at hf ⊢; unfold sizeL; omega)
          have hbody : b_read_0 [some (.d (ob l t hd)), some (.d (.str bits)), some (.c 0), some (.d (.int m)), some (.d (.str h)), some (.d (.int (i : Int))), some (.d (.str [b])), o7] [some (.lst (f.map Ky.d))] =
              .nx [some (.d (ob l t hd)), some (.d (.str bits)), some (.c 0), some (.d (.int (m + rch k))), some (.d (.str [])), some (.d (.int (i : Int))), some (.d (.str [b])), some (.d k.d)] [some (.lst ((f ++ [k]).map Ky.d))] := by
            unfold b_read_0
            simp [z1, cc, fbw, hin, hdx, ef, cr, hap]
          have hr := (rch_nonneg o.fmt.keys hk).1
          simp only [hbody]
          exact read_go hn (rest := r) (i := i + 1) (h := []) (by simp at hi; omega) (could_nil o (by omega)) (by omega) (by simp at hh ⊢; omega) (by simp at hf ⊢; omega)
    · rw [if_neg hcd]
      have hcd' := Bool.eq_false_iff.mpr hcd
      rw [hcd'] at cc
      have hbody : ∃ env st, b_read_0 [some (.d (ob l t hd)), some (.d (.str bits)), some (.c 0), some (.d (.int m)), some (.d (.str h)), some (.d (.int (i : Int))), some (.d (.str [b])), o7] [some (.lst (f.map Ky.d))] = .exc ⟨"BadBits", [("at", .int (i : Int))]⟩ env st := by
        unfold b_read_0
        simp [z1, cc]
      obtain ⟨env, st, hbody⟩ := hbody
      simp only [hbody]
      exact ⟨_, _, rfl⟩
def readO (r : Res) : R U := match r with
  | .bad j => .exc ⟨"BadBits", [("at", .int (j : Int))]⟩ []
  | .left j => .exc ⟨"Left", [("at", .int (j : Int))]⟩ []
  | .few d => .exc ⟨"TooFew", [("due", .int d)]⟩ []
  | .ok way => .ok (.d (.lst (way.map Ky.d))) []
theorem read {bits : List Nat} (hb : ∀ c ∈ bits, c = 48 ∨ c = 49) (hn : bits.length ≤ 500) : F_read [.d (ob l t hd), .d (.str bits)] [] = readO (parse t bits.length bits 0 [] 0 []) := by
  have c1 := fun st => call_p1 (st := st) (is_bits hb)
  have hg := read_go o hn (rest := bits) (i := 0) (h := []) (m := 0) (f := []) (o5 := none) (o6 := none) (o7 := none) (by simp) (could_nil o (by omega)) (by omega) (by simp; omega) (by simp; omega)
  have hg0 : ∀ x, forGo (gTu 2 (gsC (gN 5) (gsC (gN 6) gsN))) b_read_0 ((enumF 0 (bits.map fun c => D.str [c])).map U.d) [some (.d (ob l t hd)), some (.d (.str bits)), some (.c 0), some (.d (.int 0)), some (.d (.str [])), none, none, none] [some (.lst [])] = x → F_read [.d (ob l t hd), .d (.str bits)] [] = fin 0 (bn x fun e s => sRaise "TooFew" "due" (mCallA F_least_due 3 (aC (mV 0) (aC (mV 4) (aC (mV 3) aN)))) e s) := fun x hx => by
    unfold F_read fnM m_read
    simp [-List.map_map, -e_sRaise, c1, hx]
  generalize hx : forGo (gTu 2 (gsC (gN 5) (gsC (gN 6) gsN))) b_read_0 ((enumF 0 (bits.map fun c => D.str [c])).map U.d) [some (.d (ob l t hd)), some (.d (.str bits)), some (.c 0), some (.d (.int 0)), some (.d (.str [])), none, none, none] [some (.lst [])] = x at hg0
  have hg' : ReadR l t hd bits (parse t bits.length bits 0 [] 0 []) x := by rw [← hx]; exact hg
  rw [hg0 x rfl]
  cases e : parse t bits.length bits 0 [] 0 [] with
  | bad j => rw [e] at hg'; obtain ⟨env, st, rfl⟩ := hg'; rfl
  | left j => rw [e] at hg'; obtain ⟨env, st, rfl⟩ := hg'; rfl
  | ok way => rw [e] at hg'; obtain ⟨st, rfl⟩ := hg'; rfl
  | few d =>
    rw [e] at hg'
    obtain ⟨h, m, o5, o6, o7, st, rfl, hc, rfl, hh⟩ := hg'
    have cl := fun st => call_p3 (st := st) (least_due o hh hc)
    simp [cl, readO]
end
end K13

/-! R9 -/
set_option Elab.async false
set_option linter.all false
set_option maxRecDepth 100000
set_option maxHeartbeats 1000000
namespace LV
theorem rng_succ (lo : Int) (n : Nat) : rng lo (n + 1) = .int lo :: rng (lo + 1) n := by
  unfold rng
  rw [List.range_succ_eq_map, List.map_cons, List.map_map]
  congr 1
  · simp
  · refine List.map_congr_left fun i _ => ?_
    show D.int (lo + ((i + 1 : Nat) : Int)) = D.int (lo + 1 + (i : Int))
    congr 1; omega
theorem build_go2 {α : Type} {body : MS} {i : Nat} {pre : Sto} {E : EnvU} {g : α → D} {kf : α → Ky} {vf : α → D} : ∀ {xs : List α} {acc : Tb}, (∀ x ∈ xs, ∀ acc : Tb, kf x ∉ acc.map (·.1) → acc.length < 100 → body (E.set i (some (.d (g x)))) (pre ++ [some (.dic acc.d)]) = .nx (E.set i (some (.d (g x)))) (pre ++ [some (.dic (Tb.d (acc ++ [(kf x, vf x)])))])) →
    (acc.map (·.1) ++ xs.map kf).Nodup → acc.length + xs.length ≤ 100 → ∀ o, ∃ o', forGo (gN i) body ((xs.map g).map U.d) (E.set i o) (pre ++ [some (.dic acc.d)]) = .nx (E.set i o') (pre ++ [some (.dic (Tb.d (acc ++ xs.map fun x => (kf x, vf x))))])
  | [], acc, _, _, _, o => ⟨o, by simp [forGo]⟩
  | x :: r, acc, h, nd, hl, o => by
    have hb := h x List.mem_cons_self acc (fun q => (List.nodup_append.mp nd).2.2 _ q _ List.mem_cons_self rfl) (by simp at hl; omega)
    obtain ⟨o', ih⟩ := build_go2 (g := g) (kf := kf) (vf := vf) (xs := r) (acc := acc ++ [(kf x, vf x)]) (fun y hy => h y (List.mem_cons_of_mem _ hy)) (by simpa using nd) (by simp at hl ⊢; omega) (some (.d (g x)))
    refine ⟨o', ?_⟩
    rw [List.map_cons, List.map_cons]
    unfold forGo
    simp only [e_gN, List.set_set, hb]
    rw [ih, List.append_assoc]; rfl
end LV
namespace K13
open LV
abbrev pl (l : List Nat) (t : WT) : D := .lst [.str l, .dic t.tb.d]
section
variable {l : List Nat} {t : WT} {hd : Tb} (o : Obj l t hd)
include o
theorem tb_at {k : Ky} (hk : k ∈ t.map (·.1)) : dDx (.dic t.tb.d) k.d = some (.str (wd t k)) := by rw [v_dx]; exact look_wd hk
/-- a key's distance told from its kind -/
theorem may {k : Ky} (hk : k ∈ t.map (·.1)) {m : Int} (hm : 0 ≤ m) {i : Nat} {j : Nat} {env : EnvU} {st : Sto} (hi : env[i]? = some (some (.d k.d))) (hj : env[j]? = some (some (.d (.int m)))) :
    tOr' (tTr (mIsi "str" (mV i))) (cL dLe (oL dIx (mV i) (mC (.int 1))) (mV j)) env st = .ok (decide (need k ≤ m)) st := by
  cases k with
  | txt x =>
    have e : decide (need (.txt x) ≤ m) = true := decide_eq_true hm
    have ty : tyD (Ky.txt x).d = some "str" := rfl
    rw [e]
    simp [hi, ty]
  | cop p =>
    have ty : tyD (Ky.cop p).d = some "tuple" := rfl
    have hx : dIx (Ky.cop p).d (.int 1) = some (.int p.2) := rfl
    simp [hi, hj, ty, hx]
    rfl
theorem law_could_go {h : List Nat} {m : Int} (hm : 0 ≤ m) : ∀ {ks : List Ky} {o3 : Option U}, (∀ k ∈ ks, k ∈ t.map (·.1)) →
    ∃ o3', forGo (gN 3) b_law_could_0 ((ks.map Ky.d).map U.d) [some (.d (pl l t)), some (.d (.str h)), some (.d (.int m)), o3] [] = if ks.any (fitK t h m) = true then .rt (.d (.bl true)) [] else .nx [some (.d (pl l t)), some (.d (.str h)), some (.d (.int m)), o3'] []
  | [], o3, _ => ⟨o3, by simp [forGo]⟩
  | k :: r, o3, hk => by
    have hkm := hk k List.mem_cons_self
    obtain ⟨o3', ih⟩ := law_could_go hm (h := h) (ks := r) (o3 := some (.d k.d)) (fun q hq => hk q (List.mem_cons_of_mem _ hq))
    refine ⟨o3', ?_⟩
    have hta := tb_at o hkm
    have hmay := may o hkm hm (i := 3) (j := 2) (env := [some (.d (pl l t)), some (.d (.str h)), some (.d (.int m)), some (.d k.d)]) (st := []) rfl rfl
    have hsw : tTr (mMeth "str" oSw (oL dDx (oL dIx (mV 0) (mC (.int 1))) (mV 3)) (aC (mV 1) aN)) [some (.d (pl l t)), some (.d (.str h)), some (.d (.int m)), some (.d k.d)] [] = .ok (h.isPrefixOf (wd t k)) [] := by simp [hta, oSw_run]
    have hT : tAn (tTr (mMeth "str" oSw (oL dDx (oL dIx (mV 0) (mC (.int 1))) (mV 3)) (aC (mV 1) aN))) (tOr' (tTr (mIsi "str" (mV 3))) (cL dLe (oL dIx (mV 3) (mC (.int 1))) (mV 2))) [some (.d (pl l t)), some (.d (.str h)), some (.d (.int m)), some (.d k.d)] [] = .ok (fitK t h m k) [] := by
      rw [e_tAn, hsw, bd_ok, hmay]
      unfold fitK
      cases h.isPrefixOf (wd t k) <;> rfl
    have hb : b_law_could_0 [some (.d (pl l t)), some (.d (.str h)), some (.d (.int m)), some (.d k.d)] [] = if fitK t h m k = true then .rt (.d (.bl true)) [] else .nx [some (.d (pl l t)), some (.d (.str h)), some (.d (.int m)), some (.d k.d)] [] := by
      unfold b_law_could_0
      rw [e_sIf, hT]; rfl
    rw [List.map_cons, List.map_cons]
    unfold forGo
    simp only [e_gN, List.set_cons_succ, List.set_cons_zero, hb]
    by_cases hfit : fitK t h m k = true
    · rw [if_pos hfit, if_pos (by rw [List.any_cons, hfit]; rfl)]
    · have e : (k :: r).any (fitK t h m) = r.any (fitK t h m) := by rw [List.any_cons, Bool.eq_false_iff.mpr hfit, Bool.false_or]
      rw [if_neg hfit, e]
      exact ih
theorem could_any (h : List Nat) (m : Int) : (t.map (·.1)).any (fitK t h m) = could t h m := by
  unfold could
  rw [List.any_map]
  have e : ∀ p ∈ t, wd t p.1 = p.2 := fun p hp => wd_of o.fmt.keys.nodup hp
  refine Bool.eq_iff_iff.mpr ?_
  rw [List.any_eq_true, List.any_eq_true]
  constructor
  · rintro ⟨p, hp, h1⟩
    refine ⟨p, hp, ?_⟩
    have h1' : (h.isPrefixOf (wd t p.1) && decide (need p.1 ≤ m)) = true := h1
    rwa [e p hp] at h1'
  · rintro ⟨p, hp, h1⟩
    refine ⟨p, hp, ?_⟩
    show (h.isPrefixOf (wd t p.1) && decide (need p.1 ≤ m)) = true
    rwa [e p hp]
theorem tb_keys_d : t.tb.d.map Prod.fst = (t.map (·.1)).map Ky.d := by rw [Tb.keys_d]; unfold WT.tb; rw [List.map_map, List.map_map]; rfl
theorem law_could {h : List Nat} {m : Int} (hm : 0 ≤ m) : F_law_could [.d (pl l t), .d (.str h), .d (.int m)] [] = .ok (.d (.bl (could t h m))) [] := by
  obtain ⟨o3', hg⟩ := law_could_go o hm (h := h) (ks := t.map (·.1)) (o3 := none) (fun k hk => hk)
  rw [could_any o] at hg
  have hk := tb_keys_d o
  unfold F_law_could fnM m_law_could
  cases hc : could t h m
  · rw [hc, if_neg Bool.false_ne_true] at hg
    simp [-List.map_map, hk, hg]
  · rw [hc, if_pos rfl] at hg
    simp [-List.map_map, hk, hg]
theorem lack_go {h : List Nat} {m : Int} (hm : 0 ≤ m) (hh : h.length ≤ 1000) : ∀ {ks : List Ky} {acc : List Int} {o4 o5 o6 : Option U}, (∀ k ∈ ks, k ∈ t.map (·.1)) → acc.length + ks.length ≤ 1000 →
    ∃ o4' o5' o6', forGo (gN 4) b_law_lack_0 ((ks.map Ky.d).map U.d) [some (.d (pl l t)), some (.d (.str h)), some (.d (.int m)), some (.c 0), o4, o5, o6] [some (.lst (acc.map D.int))] =
      .nx [some (.d (pl l t)), some (.d (.str h)), some (.d (.int m)), some (.c 0), o4', o5', o6'] [some (.lst ((acc ++ lackKs t h m ks).map D.int))]
  | [], acc, o4, o5, o6, _, _ => ⟨o4, o5, o6, by simp [forGo, lackKs]⟩
  | k :: r, acc, o4, o5, o6, hk, hl => by
    have hkm := hk k List.mem_cons_self
    have hta := tb_at o hkm
    have hw := o.fmt.pf.hi _ (wd_mem hkm)
    have hwf := o.fmt.pf.hi _ (wd_mem o.finMem)
    have z1 : (wd t k).length ≤ sizeL := by unfold sizeL; omega
    have z2 : h.length ≤ sizeL := by unfold sizeL; omega
    have z3 : (wd t .fin).length ≤ sizeL := by unfold sizeL; omega
    have hmay := may o hkm hm (i := 4) (j := 2) (env := [some (.d (pl l t)), some (.d (.str h)), some (.d (.int m)), some (.c 0), some (.d k.d), some (.d (.str (wd t k))), o6]) (st := [some (.lst (acc.map D.int))]) rfl rfl
    have hpf : dDx (.dic t.tb.d) (.str [101, 110, 100]) = some (.str (wd t .fin)) := tb_at o o.finMem
    have hne := ne_fin k
    have hS1 : (sSet 5 (oL dDx (oL dIx (mV 0) (mC (.int 1))) (mV 4)) [some (.d (pl l t)), some (.d (.str h)), some (.d (.int m)), some (.c 0), some (.d k.d), o5, o6] [some (.lst (acc.map D.int))]) = .nx [some (.d (pl l t)), some (.d (.str h)), some (.d (.int m)), some (.c 0), some (.d k.d), some (.d (.str (wd t k))), o6] [some (.lst (acc.map D.int))] := by simp [hta]
    have hT : tAn (tTr (mMeth "str" oSw (mV 5) (aC (mV 1) aN))) (tOr' (tTr (mIsi "str" (mV 4))) (cL dLe (oL dIx (mV 4) (mC (.int 1))) (mV 2))) [some (.d (pl l t)), some (.d (.str h)), some (.d (.int m)), some (.c 0), some (.d k.d), some (.d (.str (wd t k))), o6] [some (.lst (acc.map D.int))] = .ok (fitK t h m k) [some (.lst (acc.map D.int))] := by
      have hsw : tTr (mMeth "str" oSw (mV 5) (aC (mV 1) aN)) [some (.d (pl l t)), some (.d (.str h)), some (.d (.int m)), some (.c 0), some (.d k.d), some (.d (.str (wd t k))), o6] [some (.lst (acc.map D.int))] = .ok (h.isPrefixOf (wd t k)) [some (.lst (acc.map D.int))] := by simp [oSw_run]
      rw [e_tAn, hsw, bd_ok, hmay]
      unfold fitK
      cases h.isPrefixOf (wd t k) <;> rfl
    by_cases hfit : fitK t h m k = true
    · obtain ⟨o4', o5', o6', ih⟩ := lack_go hm hh (ks := r) (acc := acc ++ [lackK t h k]) (o4 := some (.d k.d)) (o5 := some (.d (.str (wd t k)))) (o6 := some (.d (.int (lackK t h k)))) (fun q hq => hk q (List.mem_cons_of_mem _ hq)) (by simp at hl ⊢; omega)
      refine ⟨o4', o5', o6', ?_⟩
      have hap := append_at (st := [some (.lst (acc.map D.int))]) (k := 0) (xs := acc.map D.int) (d := .int (lackK t h k)) rfl (by simp at hl ⊢; unfold sizeL; omega)
      have hb : b_law_lack_0 [some (.d (pl l t)), some (.d (.str h)), some (.d (.int m)), some (.c 0), some (.d k.d), o5, o6] [some (.lst (acc.map D.int))] = .nx [some (.d (pl l t)), some (.d (.str h)), some (.d (.int m)), some (.c 0), some (.d k.d), some (.d (.str (wd t k))), some (.d (.int (lackK t h k)))] [some (.lst ((acc ++ [lackK t h k]).map D.int))] := by
        unfold b_law_lack_0
        rw [e_sSeq, hS1, bn_nx, e_sIf, hT, hfit]
        by_cases hfn : k = .fin
        · have hl2 : lackK t h k = ((wd t k).length : Int) - h.length := by unfold lackK; rw [if_pos hfn]; omega
          rw [hl2] at hap ⊢
          have hne' : dNe k.d (.str [101, 110, 100]) = some (.bl false) := by rw [hne, decide_eq_true hfn]; rfl
          simp [z1, z2, hne', hap]
        · have hl2 : ((wd t k).length : Int) - h.length + ((wd t .fin).length : Int) = lackK t h k := by unfold lackK; rw [if_neg hfn]
          have hne' : dNe k.d (.str [101, 110, 100]) = some (.bl true) := by rw [hne, decide_eq_false hfn]; rfl
          simp [z1, z2, z3, hne', hpf, hl2, hap]
      rw [List.map_cons, List.map_cons]
      unfold forGo
      simp only [e_gN, List.set_cons_succ, List.set_cons_zero, hb]
      rw [ih]
      congr 4
      unfold lackKs
      rw [List.filter_cons_of_pos hfit]; simp
    · obtain ⟨o4', o5', o6', ih⟩ := lack_go hm hh (ks := r) (acc := acc) (o4 := some (.d k.d)) (o5 := some (.d (.str (wd t k)))) (o6 := o6) (fun q hq => hk q (List.mem_cons_of_mem _ hq)) (by simp at hl ⊢; omega)
      refine ⟨o4', o5', o6', ?_⟩
      have hb : b_law_lack_0 [some (.d (pl l t)), some (.d (.str h)), some (.d (.int m)), some (.c 0), some (.d k.d), o5, o6] [some (.lst (acc.map D.int))] = .nx [some (.d (pl l t)), some (.d (.str h)), some (.d (.int m)), some (.c 0), some (.d k.d), some (.d (.str (wd t k))), o6] [some (.lst (acc.map D.int))] := by
        unfold b_law_lack_0
        rw [e_sSeq, hS1, bn_nx, e_sIf, hT, Bool.eq_false_iff.mpr hfit]
        simp
      rw [List.map_cons, List.map_cons]
      unfold forGo
      simp only [e_gN, List.set_cons_succ, List.set_cons_zero, hb]
      rw [ih]
      congr 4
      unfold lackKs
      rw [List.filter_cons_of_neg hfit]
theorem law_lack {h : List Nat} {m : Int} (hm : 0 ≤ m) (hh : h.length ≤ 1000) (hc : could t h m = true) : F_law_lack [.d (pl l t), .d (.str h), .d (.int m)] [] = .ok (.d (.int (minI (lackL t h m)))) [] := by
  have hol : (t.map (·.1)).length ≤ 40 := o.fmt.keys.len
  obtain ⟨o4', o5', o6', hg⟩ := lack_go o (h := h) (m := m) hm hh (ks := t.map (·.1)) (acc := []) (o4 := none) (o5 := none) (o6 := none) (fun k hk => hk) (by simp at hol ⊢; omega)
  rw [List.nil_append, ← lackKs_keys o.fmt.keys.nodup] at hg
  have hmin := min_ints (lackL_ne hc)
  have hk := tb_keys_d o
  have hg' : forGo (gN 4) b_law_lack_0 (((t.map (·.1)).map Ky.d).map U.d) [some (.d (pl l t)), some (.d (.str h)), some (.d (.int m)), some (.c 0), none, none, none] [some (.lst [])] = _ := hg
  unfold F_law_lack fnM m_law_lack
  simp [-List.map_map, hk, hg', hmin]
end
end K13

/-! R10 -/
set_option Elab.async false
set_option linter.all false
set_option maxRecDepth 100000
set_option maxHeartbeats 1000000
namespace K13
open LV
def sBad_ : List Nat := [98, 97, 100]
def sLeft : List Nat := [108, 101, 102, 116]
def sFew : List Nat := [102, 101, 119]
def sRead : List Nat := [114, 101, 97, 100]
def sText : List Nat := [116, 101, 120, 116]
def resD : Res → D
  | .bad j => .tup [.str sBad_, .int (j : Int)]
  | .left j => .tup [.str sLeft, .int (j : Int)]
  | .few d => .tup [.str sFew, .int d]
  | .ok way => .tup [.str sRead, .lst (way.map Ky.d)]
def ParR (l : List Nat) (t : WT) (row : List Nat) (r : Res) (x : RS) : Prop := match r with
  | .few d => ∃ (h : List Nat) (m : Int) (o3 o7 : Option U) (st : Sto), x = .nx [some (.d (pl l t)), some (.d (.str row)), some (.c 0), o3, some (.c 1), some (.d (.int m)), some (.d (.str h)), o7] st ∧ could t h m = true ∧ d = minI (lackL t h m) ∧ h.length ≤ 1000 ∧ 0 ≤ m
  | r => ∃ st, x = .rt (.d (resD r)) st
/-- the law's table of words -/
def bwT (t : WT) : Tb := t.map fun p => (Ky.txt p.2, p.1.d)
section
variable {l : List Nat} {t : WT} {hd : Tb} (o : Obj l t hd)
include o
theorem bwT_look (h : List Nat) : Tb.look (bwT t) (.txt h) = (byW t h).map Ky.d := by
  refine bw_look o.sep (fun q hq => ?_) (fun p hp => ?_) ?_ h
  · obtain ⟨p, hp, rfl⟩ := List.mem_map.mp hq
    exact ⟨p, hp, rfl⟩
  · exact List.mem_map.mpr ⟨p, hp, rfl⟩
  · unfold bwT
    rw [List.map_map]
    have h3 : ((t.map (·.2)).map Ky.txt).Nodup := List.Pairwise.map _ (fun a b h e => h (Ky.txt.inj e)) (nodup_words o.sep)
    rw [List.map_map] at h3
    exact h3
theorem par_go {row : List Nat} (hn : row.length ≤ 500) : ∀ {rest : List Nat} {i : Nat} {h : List Nat} {m : Int} {f : List Ky} {o3 o7 : Option U}, row.drop i = rest → could t h m = true → 0 ≤ m → h.length + rest.length ≤ 600 → f.length + rest.length ≤ 600 → i + rest.length = row.length →
    ParR l t row (parse t row.length rest i h m f) (forGo (gN 7) b_law_parsed_1 ((rng (i : Int) rest.length).map U.d) [some (.d (pl l t)), some (.d (.str row)), some (.c 0), o3, some (.c 1), some (.d (.int m)), some (.d (.str h)), o7] [some (.dic (bwT t).d), some (.lst (f.map Ky.d))])
  | [], i, h, m, f, o3, o7, _, hc, hm, hh, _, _ => ⟨h, m, o3, o7, _, rfl, hc, rfl, by simp at hh; omega, hm⟩
  | b :: r, i, h, m, f, o3, o7, hdr, hc, hm, hh, hf, hi => by
    have z1 : h.length + 1 ≤ sizeL := by simp at hh; unfold sizeL; omega
    have z2 : row.length ≤ sizeL := by unfold sizeL; omega
    have z4 : 2 ≤ sizeL := by unfold sizeL; omega
    have hb0 : row[i]? = some b := by rw [← List.head?_drop, hdr]; rfl
    have hdr2 : row.drop (i + 1) = r := by rw [← List.tail_drop, hdr]; rfl
    have hat : L2.atI row (i : Int) = some b := by rw [atI_nat]; exact hb0
    have cc := fun st => call_p3 (st := st) (law_could o (h := h ++ [b]) hm)
    have hbl := bwT_look o (h ++ [b])
    have hin : dInK (.str (h ++ [b])) (.dic (bwT t).d) = some (.bl ((byW t (h ++ [b])).map Ky.d).isSome) := by rw [← hbl]; exact v_in_k (.txt (h ++ [b])) _
    have hdx : dDx (.dic (bwT t).d) (.str (h ++ [b])) = (byW t (h ++ [b])).map Ky.d := by rw [← hbl]; exact v_dx (.txt (h ++ [b])) _
    rw [List.length_cons, rng_succ, List.map_cons]
    unfold forGo
    simp only [e_gN, List.set_cons_succ, List.set_cons_zero]
    rw [parse_cons]
    by_cases hcd : could t (h ++ [b]) m = true
    · rw [if_pos hcd]
      rw [hcd] at cc
      cases hb : byW t (h ++ [b]) with
      | none =>
        rw [hb] at hin hdx
        have hbody : b_law_parsed_1 [some (.d (pl l t)), some (.d (.str row)), some (.c 0), o3, some (.c 1), some (.d (.int m)), some (.d (.str h)), some (.d (.int (i : Int)))] [some (.dic (bwT t).d), some (.lst (f.map Ky.d))] =
            .nx [some (.d (pl l t)), some (.d (.str row)), some (.c 0), o3, some (.c 1), some (.d (.int m)), some (.d (.str (h ++ [b]))), some (.d (.int (i : Int)))] [some (.dic (bwT t).d), some (.lst (f.map Ky.d))] := by
          unfold b_law_parsed_1
          simp [z1, z2, hat, cc, hin]
        simp only [hbody]
        exact par_go hn (rest := r) (i := i + 1) (h := h ++ [b]) hdr2 hcd hm (by simp at hh ⊢; omega) (by simp at hf; omega) (by simp at hi; omega)
      | some k =>
        rw [hb] at hin hdx
        have hkm := byW_mem hb
        have hk : k ∈ t.map (·.1) := List.mem_map.mpr ⟨_, hkm, rfl⟩
        have ef := eq_fin k
        by_cases hkf : k = .fin
        · rw [decide_eq_true hkf] at ef
          simp only [if_pos hkf]
          by_cases hlt : i + 1 < row.length
          · rw [if_pos hlt]
            have hlt' : (i : Int) + 1 < row.length := by omega
            have hbody : ∃ st, b_law_parsed_1 [some (.d (pl l t)), some (.d (.str row)), some (.c 0), o3, some (.c 1), some (.d (.int m)), some (.d (.str h)), some (.d (.int (i : Int)))] [some (.dic (bwT t).d), some (.lst (f.map Ky.d))] = .rt (.d (resD (.left (i + 1)))) st := by
              unfold b_law_parsed_1
              simp [z1, z2, z4, hat, cc, hin, hdx, ef, hlt', resD, sLeft]
            obtain ⟨st, hbody⟩ := hbody
            simp only [hbody]
            exact ⟨_, rfl⟩
          · rw [if_neg hlt]
            have hlt' : ¬ (i : Int) + 1 < row.length := by omega
            have hbody : ∃ st, b_law_parsed_1 [some (.d (pl l t)), some (.d (.str row)), some (.c 0), o3, some (.c 1), some (.d (.int m)), some (.d (.str h)), some (.d (.int (i : Int)))] [some (.dic (bwT t).d), some (.lst (f.map Ky.d))] = .rt (.d (resD (.ok f))) st := by
              unfold b_law_parsed_1
              simp [z1, z2, z4, hat, cc, hin, hdx, ef, hlt', resD, sRead, fzU, isLk]
            obtain ⟨st, hbody⟩ := hbody
            simp only [hbody]
            exact ⟨_, rfl⟩
        · rw [decide_eq_false hkf] at ef
          simp only [if_neg hkf]
          have hap := append_at (st := [some (.dic (bwT t).d), some (.lst (f.map Ky.d))]) (k := 1) (xs := f.map Ky.d) (d := k.d) rfl (by simp at hf ⊢; unfold sizeL; omega)
          have hbody : b_law_parsed_1 [some (.d (pl l t)), some (.d (.str row)), some (.c 0), o3, some (.c 1), some (.d (.int m)), some (.d (.str h)), some (.d (.int (i : Int)))] [some (.dic (bwT t).d), some (.lst (f.map Ky.d))] =
              .nx [some (.d (pl l t)), some (.d (.str row)), some (.c 0), some (.d k.d), some (.c 1), some (.d (.int (m + rch k))), some (.d (.str [])), some (.d (.int (i : Int)))] [some (.dic (bwT t).d), some (.lst ((f ++ [k]).map Ky.d))] := by
            cases k with
            | txt x =>
              have ty : tyD (Ky.txt x).d = some "str" := rfl
              have hr : rch (.txt x) = 1 := (if_neg (fun e => hkf (congrArg Ky.txt e)) : (if x = [101, 110, 100] then (0 : Int) else 1) = 1)
              unfold b_law_parsed_1
              simp [z1, z2, hat, cc, hin, hdx, ef, hap, ty, hr]
            | cop p =>
              have ty : tyD (Ky.cop p).d = some "tuple" := rfl
              have hx : dIx (Ky.cop p).d (.int 0) = some (.int p.1) := rfl
              unfold b_law_parsed_1
              simp [z1, z2, hat, cc, hin, hdx, ef, hap, ty, hx, rch]
          have hr := (rch_nonneg o.fmt.keys hk).1
          simp only [hbody]
          exact par_go hn (rest := r) (i := i + 1) (h := []) hdr2 (could_nil o (by omega)) (by omega) (by simp at hh ⊢; omega) (by simp at hf ⊢; omega) (by simp at hi; omega)
    · rw [if_neg hcd]
      have hcd' := Bool.eq_false_iff.mpr hcd
      rw [hcd'] at cc
      have hbody : ∃ st, b_law_parsed_1 [some (.d (pl l t)), some (.d (.str row)), some (.c 0), o3, some (.c 1), some (.d (.int m)), some (.d (.str h)), some (.d (.int (i : Int)))] [some (.dic (bwT t).d), some (.lst (f.map Ky.d))] = .rt (.d (resD (.bad i))) st := by
        unfold b_law_parsed_1
        simp [z1, z2, z4, hat, cc, resD, sBad_]
      obtain ⟨st, hbody⟩ := hbody
      simp only [hbody]
      exact ⟨_, rfl⟩
theorem law_parsed {row : List Nat} (hn : row.length ≤ 500) : F_law_parsed [.d (pl l t), .d (.str row)] [] = .ok (.d (resD (parse t row.length row 0 [] 0 []))) [] := by
  have hkd := tb_keys_d o
  have ht : t.length ≤ 40 := by have := o.fmt.keys.len; rwa [List.length_map] at this
  have ekd : (t.map (·.1)).map Ky.d = t.map fun p => p.1.d := by rw [List.map_map]; rfl
  obtain ⟨o3, hb⟩ := build_go2 (body := b_law_parsed_0) (i := 3) (pre := []) (E := [some (.d (pl l t)), some (.d (.str row)), some (.c 0), none, none, none, none, none]) (g := fun p : Ky × List Nat => p.1.d) (kf := fun p => Ky.txt p.2) (vf := fun p => p.1.d) (xs := t) (acc := []) (fun p hp acc hni hal => by
    have hta := tb_at o (k := p.1) (List.mem_map.mpr ⟨p, hp, rfl⟩)
    rw [wd_of o.fmt.keys.nodup (k := p.1) (w := p.2) hp] at hta
    have hs := subK_new (st := [some (.dic acc.d)]) (k := 0) (t := acc) (ky := .txt p.2) (v := p.1.d) rfl hni (by unfold sizeL; omega)
    have hs' : ∀ env, subK (.d p.1.d) (.c 0) (.d (.str p.2)) env [some (.dic acc.d)] = .nx env [some (.dic (Tb.d (acc ++ [(.txt p.2, p.1.d)])))] := hs
    unfold b_law_parsed_0
    simp [hta, hs']) (by
      rw [List.map_nil, List.nil_append]
      have h3 : ((t.map (·.2)).map Ky.txt).Nodup := List.Pairwise.map _ (fun a b h e => h (Ky.txt.inj e)) (nodup_words o.sep)
      rwa [List.map_map] at h3) (by simp; omega) none
  rw [List.nil_append, List.nil_append, List.nil_append, ← ekd] at hb
  have hb' : forGo (gN 3) b_law_parsed_0 (((t.map (·.1)).map Ky.d).map U.d) [some (.d (pl l t)), some (.d (.str row)), some (.c 0), none, none, none, none, none] [some (.dic [])] = .nx [some (.d (pl l t)), some (.d (.str row)), some (.c 0), o3, none, none, none, none] [some (.dic (bwT t).d)] := hb
  have z2 : row.length ≤ sizeL := by unfold sizeL; omega
  have hit := iR1_n (r := aC (mFn fLn (aC (mV 1) aN)) aN) (env := [some (.d (pl l t)), some (.d (.str row)), some (.c 0), o3, some (.c 1), some (.d (.int 0)), some (.d (.str [])), none]) (st := [some (.dic (bwT t).d), some (.lst [])]) (st1 := [some (.dic (bwT t).d), some (.lst [])]) (n := row.length) (by simp [z2]) (by omega)
  have hg := par_go o hn (rest := row) (i := 0) (h := []) (m := 0) (f := []) (o3 := o3) (o7 := none) rfl (could_nil o (by omega)) (by omega) (by simp; omega) (by simp; omega) (by simp)
  have hg0 : ∀ x, forGo (gN 7) b_law_parsed_1 ((rng 0 row.length).map U.d) [some (.d (pl l t)), some (.d (.str row)), some (.c 0), o3, some (.c 1), some (.d (.int 0)), some (.d (.str [])), none] [some (.dic (bwT t).d), some (.lst [])] = x → F_law_parsed [.d (pl l t), .d (.str row)] [] = fin 0 (bn x fun e s => sRet (mTup (aC (mC (.str [102, 101, 119])) (aC (mCallA F_law_lack 3 (aC (mV 0) (aC (mV 6) (aC (mV 5) aN)))) aN))) e s) := fun x hx => by
    unfold F_law_parsed fnM m_law_parsed
    simp [-List.map_map, -e_sRet, hkd, hb', hit, hx]
  generalize hx : forGo (gN 7) b_law_parsed_1 ((rng 0 row.length).map U.d) [some (.d (pl l t)), some (.d (.str row)), some (.c 0), o3, some (.c 1), some (.d (.int 0)), some (.d (.str [])), none] [some (.dic (bwT t).d), some (.lst [])] = x at hg0
  have hg' : ParR l t row (parse t row.length row 0 [] 0 []) x := by rw [← hx]; exact hg
  rw [hg0 x rfl]
  have z4 : 2 ≤ sizeL := by unfold sizeL; omega
  cases e : parse t row.length row 0 [] 0 [] with
  | bad j => rw [e] at hg'; obtain ⟨st, rfl⟩ := hg'; rfl
  | left j => rw [e] at hg'; obtain ⟨st, rfl⟩ := hg'; rfl
  | ok way => rw [e] at hg'; obtain ⟨st, rfl⟩ := hg'; rfl
  | few d =>
    rw [e] at hg'
    obtain ⟨h, m, o3', o7, st, rfl, hc, rfl, hh, hm⟩ := hg'
    have cl := fun st => call_p3 (st := st) (law_lack o hm hh hc)
    have z5 : ¬ sizeL < 2 := by unfold sizeL; omega
    simp [cl, resD, sFew, z4, z5]
end
end K13

/-! R11 -/
set_option Elab.async false
set_option linter.all false
set_option maxRecDepth 100000
set_option maxHeartbeats 1000000
namespace LV
open PySem
def slU (u : U) (i j : Option Int) (st : Sto) : R U := match u with
  | .d (.str x) => if x.length ≤ sizeL then .ok (.d (.str (cutL x i j))) st else .bad
  | .d (.tup x) => .ok (.d (.tup (cutL x i j))) st
  | _ => .bad
@[simp] theorem e_mSl (m : ME) (lo hi : MO) (env : EnvU) (st : Sto) : mSl m lo hi env st = bd (m env st) fun u st1 => bd (lo env st1) fun i st2 => bd (hi env st2) fun j st3 => slU u i j st3 := Eq.trans rfl rfl
@[simp] theorem slU_str (x : List Nat) (i j : Option Int) (st : Sto) : slU (.d (.str x)) i j st = if x.length ≤ sizeL then .ok (.d (.str (cutL x i j))) st else .bad := rfl
@[simp] theorem e_oN (env : EnvU) (st : Sto) : oN env st = .ok none st := rfl
def oSU (u : U) (st : Sto) : R (Option Int) := match u with
  | .d (.int i) => .ok (some i) st
  | _ => .bad
@[simp] theorem oSU_int (i : Int) (st : Sto) : oSU (.d (.int i)) st = .ok (some i) st := rfl
@[simp] theorem e_oS (m : ME) (env : EnvU) (st : Sto) : oS m env st = bd (m env st) fun u st1 => oSU u st1 := Eq.trans rfl rfl
theorem cutL_drop {α : Type} {w : List α} {i : Nat} (hi : i ≤ w.length) : cutL w (some (i : Int)) none = w.drop i := by
  unfold cutL
  have h1 : HT.sIx w.length 0 (some (i : Int)) = i := by
    unfold HT.sIx
    simp
    rw [if_neg (by omega)]
    omega
  have h2 : HT.sIx w.length w.length none = w.length := rfl
  rw [h1, h2, List.take_of_length_le (by rw [List.length_drop]; omega)]
@[simp] theorem v_mulS (p : List Nat) (n : Int) : dMulS (.str p) (.int n) = if n.natAbs ≤ 1000 ∧ p.length ≤ 1000 then some (.str (List.replicate n.toNat p).flatten) else none := rfl
theorem tryMany_rt {hs : List Hd1} {mb : MS} {env : EnvU} {st s : Sto} {u : U} (h : mb env st = .rt u s) : sTryMany hs mb env st = .rt u s := by
  unfold sTryMany
  simp only [h]
theorem tryMany_exc {hs : List Hd1} {mb : MS} {env e : EnvU} {st s : Sto} {x : Xc} (h : mb env st = .exc x e s) : sTryMany hs mb env st = handle hs x e s := by
  unfold sTryMany
  simp only [h]
/-! keys in lists -/
theorem deq_ky (a b : Ky) : deq a.d b.d = decide (a = b) := by
  cases a with
  | txt x => cases b with
    | txt y =>
      show deq (.str x) (.str y) = _
      rw [deq_str]
      by_cases h : x = y
      · subst h; simp
      · rw [decide_eq_false h, decide_eq_false fun e => h (Ky.txt.inj e)]
    | cop q => rw [decide_eq_false (by intro e; cases e)]; rfl
  | cop p => cases b with
    | txt y => rw [decide_eq_false (by intro e; cases e)]; rfl
    | cop q =>
      show deq (prD p) (prD q) = _
      rw [eq_pr]
      by_cases h : p = q
      · subst h; simp
      · rw [decide_eq_false h, decide_eq_false fun e => h (Ky.cop.inj e)]
theorem eqv_kys : ∀ A B : List Ky, PyData.eqvAll (pds (A.map Ky.d)) (pds (B.map Ky.d)) = decide (A = B)
  | [], [] => rfl
  | [], b :: r => rfl
  | a :: r, [] => rfl
  | a :: r, b :: s => by
    show (PyData.eqv (pd a.d) (pd b.d) && PyData.eqvAll (pds (r.map Ky.d)) (pds (s.map Ky.d))) = _
    rw [eqv_kys r s, show PyData.eqv (pd a.d) (pd b.d) = decide (a = b) from deq_ky a b]
    by_cases h1 : a = b
    · subst h1; by_cases h2 : r = s <;> simp [h2]
    · simp [h1]
structure KyOk (k : Ky) : Prop where
  ok : ∀ x, k = .txt x → ∀ c ∈ x, c < 1114112
theorem lay_ky {k : Ky} (h : KyOk k) : PyData.canLay0 (pd k.d) = true ∧ plain k.d = true ∧ PyData.depth (pd k.d) ≤ 1 := by
  cases k with
  | txt x => exact ⟨lay_str (h.ok x rfl), rfl, Nat.zero_le _⟩
  | cop p => exact ⟨rfl, rfl, Nat.le_refl _⟩
theorem shp_kys {A : List Ky} (h : ∀ k ∈ A, KyOk k) : shp (.lst (A.map Ky.d)) = true := by
  have h1 : plains (A.map Ky.d) = true ∧ PyData.canLayAll0 (pds (A.map Ky.d)) = true ∧ PyData.depthAll (pds (A.map Ky.d)) ≤ 1 := by
    induction A with
    | nil => exact ⟨rfl, rfl, Nat.zero_le _⟩
    | cons a r ih =>
      obtain ⟨i1, i2, i3⟩ := ih fun k hk => h k (List.mem_cons_of_mem _ hk)
      obtain ⟨l1, l2, l3⟩ := lay_ky (h a List.mem_cons_self)
      refine ⟨?_, ?_, ?_⟩
      · show (plain a.d && plains (r.map Ky.d)) = true
        rw [l2, i1]; rfl
      · show (PyData.canLay0 (pd a.d) && PyData.canLayAll0 (pds (r.map Ky.d))) = true
        rw [l1, i2]; rfl
      · show max (PyData.depth (pd a.d)) (PyData.depthAll (pds (r.map Ky.d))) ≤ 1
        exact Nat.max_le.mpr ⟨l3, i3⟩
  show (plains (A.map Ky.d) && (PyData.canLayAll0 (pds (A.map Ky.d)) && decide (PyData.depthAll (pds (A.map Ky.d)) + 1 ≤ 64))) = true
  rw [h1.1, h1.2.1, Bool.true_and, Bool.true_and]
  have := h1.2.2
  exact decide_eq_true (by omega)
theorem ne_kys {A B : List Ky} (hA : ∀ k ∈ A, KyOk k) (hB : ∀ k ∈ B, KyOk k) : dNe (.lst (A.map Ky.d)) (.lst (B.map Ky.d)) = some (.bl (!decide (A = B))) := by
  show (if (shp (.lst (A.map Ky.d)) && shp (.lst (B.map Ky.d))) = true then some (D.bl (!deq (.lst (A.map Ky.d)) (.lst (B.map Ky.d)))) else none) = _
  have e : deq (.lst (A.map Ky.d)) (.lst (B.map Ky.d)) = decide (A = B) := by
    rw [← eqv_kys]
    unfold deq
    rw [show pd (.lst (A.map Ky.d)) = .list (pds (A.map Ky.d)) from rfl, show pd (.lst (B.map Ky.d)) = .list (pds (B.map Ky.d)) from rfl]
    simp [PyData.eqv]
  rw [shp_kys hA, shp_kys hB, e]; rfl
theorem strsOf_signs (x : List Nat) : strsOf (x.map fun c => D.str [c]) = some (x.map fun c => [c]) := by
  have := strsOf_map (x.map fun c => [c])
  rw [List.map_map] at this
  exact this
theorem flat_signs (x : List Nat) : (x.map fun c => [c]).flatten = x := by
  induction x with
  | nil => rfl
  | cons a r ih => simp [ih]
end LV
namespace K13
open LV
theorem same_list {n : Nat} {ds : List D} (h : ∀ a ∈ ds, F_law_same n [.d a, .d a] [] = .ok (.d (.bl true)) []) (hl : ds.length < 4000000) : F_law_same (n + 1) [.d (.lst ds), .d (.lst ds)] [] = .ok (.d (.bl true)) [] := by
  have hit := iR1_n (r := aC (mFn fLn (aC (mV 1) aN)) aN) (env := [some (.d (.lst ds)), some (.d (.lst ds)), none]) (st := []) (st1 := []) (n := ds.length) (by simp) (by omega)
  obtain ⟨o, ho⟩ := forGo_keep (g := fun (i : Nat) => D.int (i : Int)) (i := 2) (body := b_law_same_0 (F_law_same n)) (st := []) (xs := List.range ds.length) (env := [some (.d (.lst ds)), some (.d (.lst ds)), none]) (fun j hj => by
    have hj := List.mem_range.mp hj
    have g1 : ds[j]? = some ds[j] := List.getElem?_eq_getElem hj
    have hat : L2.atI ds (j : Int) = some ds[j] := by rw [atI_nat, g1]
    have c1 := fun st => call_p2 (st := st) (h ds[j] (List.getElem_mem hj))
    unfold b_law_same_0
    simp [hat, c1]) (by simp)
  rw [rng_map] at hit
  unfold F_law_same fnM m_law_same
  simp [-List.map_map, hit, ho]
theorem same_tup {n : Nat} {ds : List D} (h : ∀ a ∈ ds, F_law_same n [.d a, .d a] [] = .ok (.d (.bl true)) []) (hl : ds.length < 4000000) : F_law_same (n + 1) [.d (.tup ds), .d (.tup ds)] [] = .ok (.d (.bl true)) [] := by
  have hit := iR1_n (r := aC (mFn fLn (aC (mV 1) aN)) aN) (env := [some (.d (.tup ds)), some (.d (.tup ds)), none]) (st := []) (st1 := []) (n := ds.length) (by simp) (by omega)
  obtain ⟨o, ho⟩ := forGo_keep (g := fun (i : Nat) => D.int (i : Int)) (i := 2) (body := b_law_same_0 (F_law_same n)) (st := []) (xs := List.range ds.length) (env := [some (.d (.tup ds)), some (.d (.tup ds)), none]) (fun j hj => by
    have hj := List.mem_range.mp hj
    have g1 : ds[j]? = some ds[j] := List.getElem?_eq_getElem hj
    have hat : L2.atI ds (j : Int) = some ds[j] := by rw [atI_nat, g1]
    have c1 := fun st => call_p2 (st := st) (h ds[j] (List.getElem_mem hj))
    unfold b_law_same_0
    simp [hat, c1]) (by simp)
  rw [rng_map] at hit
  unfold F_law_same fnM m_law_same
  simp [-List.map_map, hit, ho]
theorem same_ky (n : Nat) (k : Ky) : F_law_same (n + 2) [.d k.d, .d k.d] [] = .ok (.d (.bl true)) [] := by
  cases k with
  | txt x => exact same_str (n + 1) x
  | cop p => exact same_tup (ds := [.int p.1, .int p.2]) (by intro a ha; simp at ha; rcases ha with rfl | rfl <;> exact same_int n _) (by simp)
theorem same_res (r : Res) (hr : ∀ way, r = .ok way → way.length < 1000) : F_law_same 6 [.d (resD r), .d (resD r)] [] = .ok (.d (.bl true)) [] := by
  have two : ∀ (s : List Nat) (d : D), F_law_same 5 [.d d, .d d] [] = .ok (.d (.bl true)) [] → F_law_same 6 [.d (.tup [.str s, d]), .d (.tup [.str s, d])] [] = .ok (.d (.bl true)) [] := fun s d h =>
    same_tup (by intro a ha; simp at ha; rcases ha with rfl | rfl; exact same_str 4 _; exact h) (by simp)
  cases r with
  | bad j => exact two _ _ (same_int 4 _)
  | left j => exact two _ _ (same_int 4 _)
  | few d => exact two _ _ (same_int 4 _)
  | ok way =>
    refine two _ _ (same_list (fun a ha => ?_) (by have := hr way rfl; rw [List.length_map]; omega))
    obtain ⟨k, _, rfl⟩ := List.mem_map.mp ha
    exact same_ky 2 k
theorem same_text (x : List Nat) : F_law_same 6 [.d (.tup [.str sText, .str x]), .d (.tup [.str sText, .str x])] [] = .ok (.d (.bl true)) [] :=
  same_tup (by intro a ha; simp at ha; rcases ha with rfl | rfl <;> exact same_str 4 _) (by simp)
theorem put_by_cop {p : Int × Int} {x : List Nat} (h1 : 2 ≤ p.1) (h2 : p.1 ≤ 8) (h3 : 1 ≤ p.2) (h4 : p.2 ≤ 8) (h5 : p.2 ≤ x.length) (hx : x.length ≤ 10000) : F_put_by [.d (prD p), .d (.str x)] [] = .ok (.d (.str (piece x (.cop p)))) [] := by
  obtain ⟨a, b⟩ := p
  simp only at h1 h2 h3 h4 h5
  obtain ⟨d, rfl⟩ : ∃ d : Nat, b = d := ⟨b.toNat, by omega⟩
  obtain ⟨n, rfl⟩ : ∃ n : Nat, a = n := ⟨a.toNat, by omega⟩
  have z1 : x.length ≤ sizeL := by unfold sizeL; omega
  have e1 : (x.length : Int) - (d : Int) = ((x.length - d : Nat) : Int) := by omega
  have hcut : cutL x (some ((x.length : Int) - (d : Int))) none = x.drop (x.length - d) := by rw [e1]; exact cutL_drop (by omega)
  have hdl : (x.drop (x.length - d)).length = d := by rw [List.length_drop]; omega
  have hm : n ≤ 1000 ∧ (x.drop (x.length - d)).length ≤ 1000 := by omega
  have hfl : ((List.replicate n (x.drop (x.length - d))).flatten).length ≤ sizeL := by
    rw [List.length_flatten, List.map_replicate, List.sum_replicate_nat, hdl]
    have : n * d ≤ 8 * 8 := Nat.mul_le_mul (by omega) (by omega)
    unfold sizeL; omega
  have hta := cutL_take ((List.replicate n (x.drop (x.length - d))).flatten) n
  have hpc : piece x (.cop ((n : Int), (d : Int))) = ((List.replicate n (x.drop (x.length - d))).flatten).take n := rfl
  rw [hpc]
  have hm2 : n ≤ 1000 ∧ x.length - (x.length - d) ≤ 1000 := by omega
  have hfl2 : n * (x.length - (x.length - d)) ≤ sizeL := by
    rw [show x.length - (x.length - d) = d by omega]
    have : n * d ≤ 8 * 8 := Nat.mul_le_mul (by omega) (by omega)
    unfold sizeL; omega
  unfold F_put_by fnM m_put_by
  simp [prD, z1, hcut, hm2, hfl2, hta]
theorem put_by_ltr {c : Nat} {x : List Nat} : F_put_by [.d (.str [c]), .d (.str x)] [] = .ok (.d (.str (piece x (.ltr c)))) [] := by
  have hp : piece x (.ltr c) = [c] := if_neg (by simp)
  rw [hp]
  unfold F_put_by fnM m_put_by
  simp
end K13

/-! R12 -/
set_option Elab.async false
set_option linter.all false
set_option maxRecDepth 100000
set_option maxHeartbeats 1000000
namespace K13
open LV
theorem sum_signs : ∀ T : List Nat, ((T.map fun c => [c]).map List.length).sum = T.length
  | [] => rfl
  | a :: r => by rw [List.map_cons, List.map_cons, List.sum_cons, sum_signs r, List.length_singleton, List.length_cons, Nat.add_comm]
theorem cyc_ln {x : List Nat} {d n : Nat} (h1 : 1 ≤ d) (h2 : d ≤ x.length) : (cyc (x.drop (x.length - d)) n).length = n := cyc_len (by rw [List.length_drop]; omega) n
section
variable {l : List Nat} {t : WT} {hd : Tb} (o : Obj l t hd)
include o
theorem piece_len {k : Ky} {x : List Nat} (hk : k ∈ t.map (·.1)) (hn : need k ≤ x.length) : ((piece x k).length : Int) = rch k := by
  rcases o.fmt.keys.mem.mp hk with ⟨c, _, rfl⟩ | rfl | ⟨p, rfl, hp⟩
  · have hp : piece x (.ltr c) = [c] := if_neg (by simp)
    have hr : rch (.ltr c) = 1 := if_neg (by simp)
    rw [hp, hr]; rfl
  · rfl
  · have ok := o.fmt.keys.cop hp
    have hn' : p.2 ≤ x.length := hn
    show ((cyc (x.drop (x.length - p.2.toNat)) p.1.toNat).length : Int) = p.1
    rw [cyc_ln (by omega) (by omega)]; omega
theorem put_by {k : Ky} {x : List Nat} (hk : k ∈ t.map (·.1)) (hf : k ≠ .fin) (hn : need k ≤ x.length) (hx : x.length ≤ 10000) : F_put_by [.d k.d, .d (.str x)] [] = .ok (.d (.str (piece x k))) [] := by
  rcases o.fmt.keys.mem.mp hk with ⟨c, _, rfl⟩ | rfl | ⟨p, rfl, hp⟩
  · exact put_by_ltr
  · exact absurd rfl hf
  · obtain ⟨a1, a2, a3, a4⟩ := o.fmt.keys.cop hp
    exact put_by_cop a1 a2 a3 a4 hn hx
theorem spread_go {W : D} : ∀ {way : List Ky} {x : List Nat} {o3 : Option U}, WayOk t (x.length : Int) way → x.length + 8 * way.length ≤ 10000 →
    (textOf x way).length ≤ x.length + 8 * way.length ∧ ∃ o3', forGo (gN 3) b_spread_0 ((way.map Ky.d).map U.d) [some (.d (ob l t hd)), some (.d W), some (.d (.str x)), o3] [] = .nx [some (.d (ob l t hd)), some (.d W), some (.d (.str (textOf x way))), o3'] []
  | [], x, o3, _, _ => ⟨by simp [textOf], o3, rfl⟩
  | k :: r, x, o3, ⟨h1, h2, h3, h4⟩, hl => by
    have hpl := piece_len o h1 h3
    have hr := rch_nonneg o.fmt.keys h1
    have el : ((x ++ piece x k).length : Int) = (x.length : Int) + rch k := by rw [List.length_append]; omega
    have el2 : (piece x k).length ≤ 8 := by omega
    obtain ⟨hle, o3', ih⟩ := spread_go (W := W) (way := r) (x := x ++ piece x k) (o3 := some (.d k.d)) (by rw [el]; exact h4) (by simp at hl ⊢; omega)
    refine ⟨by simp only [textOf, List.length_cons]; rw [List.length_append] at hle; omega, o3', ?_⟩
    have cp := fun st => call_p2 (st := st) (put_by o h1 h2 h3 (by simp at hl; omega))
    have z : x.length + (piece x k).length ≤ sizeL := by simp at hl; unfold sizeL; omega
    have hb : b_spread_0 [some (.d (ob l t hd)), some (.d W), some (.d (.str x)), some (.d k.d)] [] = .nx [some (.d (ob l t hd)), some (.d W), some (.d (.str (x ++ piece x k))), some (.d k.d)] [] := by
      unfold b_spread_0
      simp [cp, z]
    rw [List.map_cons, List.map_cons]
    unfold forGo
    simp only [e_gN, List.set_cons_succ, List.set_cons_zero, hb]
    exact ih
theorem spread {way : List Ky} (h : WayOk t 0 way) (hl : way.length ≤ 1000) : F_spread [.d (ob l t hd), .d (.lst (way.map Ky.d))] [] = .ok (.d (.str (textOf [] way))) [] := by
  have c1 := fun st => call_p2 (st := st) (check_way o h)
  obtain ⟨_, o3', hg⟩ := spread_go o (W := .lst (way.map Ky.d)) (way := way) (x := []) (o3 := none) h (by simp; omega)
  unfold F_spread fnM m_spread
  simp [-List.map_map, c1, hg]
theorem ext_go {p : Int × Int} {W : D} (h1 : 1 ≤ p.2) {x : List Nat} (h2 : p.2 ≤ x.length) : ∀ {n i j : Nat} {o3 : Option U}, x.length + i + n ≤ 20000 →
    ∃ o3', forGo (gN 3) b_law_put_0 ((rng (j : Int) n).map U.d) [some (.d W), some (.c 0), some (.d (prD p)), o3] [some (.lst ((extN p.2.toNat i x).map fun c => D.str [c]))] = .nx [some (.d W), some (.c 0), some (.d (prD p)), o3'] [some (.lst ((extN p.2.toNat (i + n) x).map fun c => D.str [c]))]
  | 0, i, j, o3, _ => ⟨o3, rfl⟩
  | n + 1, i, j, o3, hl => by
    obtain ⟨o3', ih⟩ := ext_go (p := p) (W := W) h1 h2 (n := n) (i := i + 1) (j := j + 1) (o3 := some (.d (.int (j : Int)))) (by omega)
    refine ⟨o3', ?_⟩
    have hlen : (extN p.2.toNat i x).length = x.length + i := by
      rw [extN_cyc (by omega) (by omega), List.length_append, cyc_ln (by omega) (by omega)]
    have hex : extN p.2.toNat (i + 1) x = extN p.2.toNat i x ++ [(extN p.2.toNat i x).getD ((extN p.2.toNat i x).length - p.2.toNat) 0] := rfl
    generalize extN p.2.toNat i x = R at hlen hex
    have hg : R[R.length - p.2.toNat]? = some (R.getD (R.length - p.2.toNat) 0) := by
      rw [List.getD_eq_getElem?_getD, List.getElem?_eq_getElem (by omega)]; rfl
    generalize R.getD (R.length - p.2.toNat) 0 = c at hg hex
    have hat : L2.atI (R.map fun c => D.str [c]) ((R.length : Int) - p.2) = some (.str [c]) := by
      rw [show (R.length : Int) - p.2 = ((R.length - p.2.toNat : Nat) : Int) by omega, atI_nat, List.getElem?_map, hg]; rfl
    have hap := append_at (st := [some (.lst (R.map fun c => D.str [c]))]) (k := 0) (xs := R.map fun c => D.str [c]) (d := .str [c]) rfl (by rw [List.length_map]; unfold sizeL; omega)
    have hx1 : dIx (prD p) (.int 1) = some (.int p.2) := rfl
    have hb : b_law_put_0 [some (.d W), some (.c 0), some (.d (prD p)), some (.d (.int (j : Int)))] [some (.lst (R.map fun c => D.str [c]))] = .nx [some (.d W), some (.c 0), some (.d (prD p)), some (.d (.int (j : Int)))] [some (.lst ((extN p.2.toNat (i + 1) x).map fun c => D.str [c]))] := by
      rw [hex]
      unfold b_law_put_0
      simp [hat, hap, hx1]
    rw [rng_succ, List.map_cons]
    unfold forGo
    simp only [e_gN, List.set_cons_succ, List.set_cons_zero, hb]
    rw [show i + (n + 1) = i + 1 + n by omega]
    exact ih
theorem put_go {W : D} : ∀ {way : List Ky} {x : List Nat} {o2 o3 : Option U}, WayOk t (x.length : Int) way → x.length + 8 * way.length ≤ 10000 →
    ∃ o2' o3', forGo (gN 2) b_law_put_1 ((way.map Ky.d).map U.d) [some (.d W), some (.c 0), o2, o3] [some (.lst (x.map fun c => D.str [c]))] = .nx [some (.d W), some (.c 0), o2', o3'] [some (.lst ((textOf x way).map fun c => D.str [c]))]
  | [], x, o2, o3, _, _ => ⟨o2, o3, rfl⟩
  | k :: r, x, o2, o3, ⟨h1, h2, h3, h4⟩, hl => by
    have hpl := piece_len o h1 h3
    have hr := rch_nonneg o.fmt.keys h1
    have el : ((x ++ piece x k).length : Int) = (x.length : Int) + rch k := by rw [List.length_append]; omega
    have hb : ∃ o3', b_law_put_1 [some (.d W), some (.c 0), some (.d k.d), o3] [some (.lst (x.map fun c => D.str [c]))] = .nx [some (.d W), some (.c 0), some (.d k.d), o3'] [some (.lst ((x ++ piece x k).map fun c => D.str [c]))] := by
      rcases o.fmt.keys.mem.mp h1 with ⟨c, _, rfl⟩ | rfl | ⟨p, rfl, hp⟩
      · have hpc : piece x (.ltr c) = [c] := if_neg (by simp)
        have hap := append_at (st := [some (.lst (x.map fun c => D.str [c]))]) (k := 0) (xs := x.map fun c => D.str [c]) (d := .str [c]) rfl (by simp at hl ⊢; unfold sizeL; omega)
        have ty : tyD (Ky.ltr c).d = some "str" := rfl
        have hap' : oAppend (U.c 0) [U.d (Ky.ltr c).d] [some (.lst (x.map fun c => D.str [c]))] = _ := hap
        refine ⟨o3, ?_⟩
        rw [hpc]
        unfold b_law_put_1
        simp [ty, hap']
      · exact absurd rfl h2
      · obtain ⟨a1, a2, a3, a4⟩ := o.fmt.keys.cop hp
        have hn : p.2 ≤ x.length := h3
        obtain ⟨o3', hg⟩ := ext_go o (p := p) (W := W) a3 hn (n := p.1.toNat) (i := 0) (j := 0) (o3 := o3) (by simp at hl; omega)
        have hx0 : dIx (prD p) (.int 0) = some (.int p.1) := rfl
        have hit := iR1_n (r := aC (oL dIx (mV 2) (mC (.int 0))) aN) (env := [some (.d W), some (.c 0), some (.d (prD p)), o3]) (st := [some (.lst (x.map fun c => D.str [c]))]) (st1 := [some (.lst (x.map fun c => D.str [c]))]) (n := p.1.toNat) (by simp [hx0]; omega) (by omega)
        have ee : extN p.2.toNat p.1.toNat x = x ++ piece x (.cop p) := extN_cyc (by omega) (by omega) _
        rw [Nat.zero_add, ee] at hg
        have hg' : forGo (gN 3) b_law_put_0 ((rng 0 p.1.toNat).map U.d) [some (.d W), some (.c 0), some (.d (prD p)), o3] [some (.lst (x.map fun c => D.str [c]))] = _ := hg
        have ty : tyD (prD p) = some "tuple" := rfl
        refine ⟨o3', ?_⟩
        show b_law_put_1 [some (.d W), some (.c 0), some (.d (prD p)), o3] _ = _
        unfold b_law_put_1
        rw [e_sIf]
        have ht : tTr (mIsi "tuple" (mV 2)) [some (.d W), some (.c 0), some (.d (prD p)), o3] [some (.lst (x.map fun c => D.str [c]))] = .ok true [some (.lst (x.map fun c => D.str [c]))] := by simp [ty]
        rw [ht, bs_ok, if_pos rfl, e_sFor, hit, bs_ok, hg']
        rfl
    obtain ⟨o3', hb⟩ := hb
    obtain ⟨o2', o3'', ih⟩ := put_go (W := W) (way := r) (x := x ++ piece x k) (o2 := some (.d k.d)) (o3 := o3') (by rw [el]; exact h4) (by simp at hl ⊢; omega)
    refine ⟨o2', o3'', ?_⟩
    rw [List.map_cons, List.map_cons]
    unfold forGo
    simp only [e_gN, List.set_cons_succ, List.set_cons_zero, hb]
    exact ih
theorem law_put {way : List Ky} (h : WayOk t 0 way) (hl : way.length ≤ 1000) : F_law_put [.d (.lst (way.map Ky.d))] [] = .ok (.d (.str (textOf [] way))) [] := by
  obtain ⟨o2', o3', hg⟩ := put_go o (W := .lst (way.map Ky.d)) (way := way) (x := []) (o2 := none) (o3 := none) h (by simp; omega)
  obtain ⟨hle, _⟩ := spread_go o (W := .non) (way := way) (x := []) (o3 := none) h (by simp; omega)
  generalize hT : textOf [] way = T at *
  have hg' : forGo (gN 2) b_law_put_1 ((way.map Ky.d).map U.d) [some (.d (.lst (way.map Ky.d))), some (.c 0), none, none] [some (.lst [])] = _ := hg
  have hj : oJoin (.d (.str [])) [.c 0] [some (.lst (T.map fun c => D.str [c]))] = .ok (.d (.str T)) [some (.lst (T.map fun c => D.str [c]))] := by
    have hs := sum_signs T
    unfold oJoin
    have hg1 : get [some (D.lst (T.map fun c => D.str [c]))] (.c 0) = some (.lst (T.map fun c => D.str [c])) := rfl
    simp only [e_get_d, hg1, strsOf_signs, List.length_nil, Nat.mul_zero, Nat.add_zero, hs]
    rw [if_pos (by simp at hle; omega), joinL_nil, flat_signs]
  unfold F_law_put fnM m_law_put
  simp [-List.map_map, hg', hj]
end
end K13

/-! R13 -/
set_option Elab.async false
set_option linter.all false
set_option maxRecDepth 100000
set_option maxHeartbeats 1000000
namespace K13
open LV
/-- what the law is told of a text -/
def resT : Res → D
  | .ok way => .tup [.str sText, .str (textOf [] way)]
  | r => resD r
def tuples (puts : Bool) (r : Res) : D := if puts = true then resT r else resD r
section
variable {l : List Nat} {t : WT} {hd : Tb} (o : Obj l t hd)
include o
/-- a row of bits -/
abbrev parsed (t : WT) (row : List Nat) : Res := parse t row.length row 0 [] 0 []
theorem parsed_way {row : List Nat} {way : List Ky} (e : parsed t row = .ok way) : row = wordsOf t way ++ wd t .fin ∧ WayOk t 0 way ∧ way.length ≤ row.length := by
  obtain ⟨g, h1, h2, h3⟩ := parse_ok o.sep (by simp) e
  rw [List.nil_append] at h1 h2
  subst h1
  refine ⟨h2, h3, ?_⟩
  have : ∀ w : List Ky, (∀ k ∈ w, k ∈ t.map (·.1)) → w.length ≤ (wordsOf t w).length := by
    intro w
    induction w with
    | nil => intro _; simp
    | cons a r ih =>
      intro hw
      have h1 := ih fun k hk => hw k (List.mem_cons_of_mem _ hk)
      have h2 := o.fmt.pf.lo _ (wd_mem (hw a List.mem_cons_self))
      have e : wordsOf t (a :: r) = wd t a ++ wordsOf t r := rfl
      rw [e, List.length_append, List.length_cons]; omega
  have h4 := this way (wayMem o h3)
  rw [h2, List.length_append]; omega
theorem text_of {row : List Nat} (hb : ∀ c ∈ row, c = 48 ∨ c = 49) (hn : row.length ≤ 500) : F_text_of [.d (ob l t hd), .d (.str row)] [] = match parsed t row with
    | .ok way => .ok (.d (.str (textOf [] way))) []
    | r => readO r := by
  have hr := read o hb hn
  unfold F_text_of fnM m_text_of
  cases e : parse t row.length row 0 [] 0 [] with
  | bad j => rw [e] at hr; have c1 := fun st => call_x2 (st := st) hr; simp [c1, e, readO]
  | left j => rw [e] at hr; have c1 := fun st => call_x2 (st := st) hr; simp [c1, e, readO]
  | few j => rw [e] at hr; have c1 := fun st => call_x2 (st := st) hr; simp [c1, e, readO]
  | ok way =>
    rw [e] at hr
    have c1 := fun st => call_p2 (st := st) hr
    obtain ⟨h1, h2, h3⟩ := parsed_way o e
    have c2 := fun st => call_p2 (st := st) (spread o h2 (by omega))
    simp [c1, c2, e]
theorem law_read {row : List Nat} (hb : ∀ c ∈ row, c = 48 ∨ c = 49) (hn : row.length ≤ 500) (puts : Bool) : F_law_read [.d (ob l t hd), .d (.str row), .d (.bl puts)] [] = .ok (.d (tuples puts (parsed t row))) [] := by
  have hr : F_read [.d (ob l t hd), .d (.str row)] [] = readO (parsed t row) := read o hb hn
  have ht := text_of o hb hn
  have z1 : ¬ sizeL < 2 := by unfold sizeL; omega
  have z2 : 2 ≤ sizeL := by unfold sizeL; omega
  generalize hE : ([some (.d (ob l t hd)), some (.d (.str row)), some (.d (.bl puts)), none] : EnvU) = E
  have hEx : F_law_read [.d (ob l t hd), .d (.str row), .d (.bl puts)] [] = fin 0 (m_law_read E []) := by rw [← hE]; rfl
  rw [hEx]
  have exc : ∀ (x : Xc) (d : D), (handle [(mt_BadBits, some 3, sRet (mTup (aC (mC (.str [98, 97, 100])) (aC (mXg ["BadBits"] 3 "at") aN)))), (mt_TooFew, some 3, sRet (mTup (aC (mC (.str [102, 101, 119])) (aC (mXg ["TooFew"] 3 "due") aN)))), (mt_Left, some 3, sRet (mTup (aC (mC (.str [108, 101, 102, 116])) (aC (mXg ["Left"] 3 "at") aN)))), (mt_NoBits, none, sRet (mTup (aC (mC (.str [110, 111, 110, 101])) aN)))] x E ([] : Sto) = .rt (.d d) []) →
      (∀ st, callA F_text_of 2 [.d (ob l t hd), .d (.str row)] st = .exc x st) → (∀ st, callA F_read 2 [.d (ob l t hd), .d (.str row)] st = .exc x st) → fin 0 (m_law_read E []) = .ok (.d d) [] := fun x d hx h1 h2 => by
    unfold m_law_read
    rw [tryMany_exc (x := x) (e := E) (s := []) (by
      rw [← hE]
      cases puts <;> simp [h1, h2, ord_text_of_bits_coding, ord_read_bits_coding]), hx]
    rfl
  cases e : parsed t row with
  | bad j =>
    rw [e] at hr ht
    have c1 := fun st => call_x2 (st := st) hr
    have c2 := fun st => call_x2 (st := st) ht
    have := exc ⟨"BadBits", [("at", .int (j : Int))]⟩ (resD (.bad j)) (by
      rw [← hE]
      show endO (some 3) (sRet (mTup (aC (mC (.str [98, 97, 100])) (aC (mXg ["BadBits"] 3 "at") aN))) [some (.d (ob l t hd)), some (.d (.str row)), some (.d (.bl puts)), some (.x ⟨"BadBits", [("at", .int (j : Int))]⟩)] []) = _
      have hx : mXg ["BadBits"] 3 "at" [some (.d (ob l t hd)), some (.d (.str row)), some (.d (.bl puts)), some (.x ⟨"BadBits", [("at", .int (j : Int))]⟩)] [] = .ok (.d (.int (j : Int))) [] := rfl
      simp [hx, z1, z2, endO, tryEnd, resD, sBad_]) c2 c1
    rw [this]
    cases puts <;> rfl
  | left j =>
    rw [e] at hr ht
    have c1 := fun st => call_x2 (st := st) hr
    have c2 := fun st => call_x2 (st := st) ht
    have := exc ⟨"Left", [("at", .int (j : Int))]⟩ (resD (.left j)) (by
      rw [← hE]
      show endO (some 3) (sRet (mTup (aC (mC (.str [108, 101, 102, 116])) (aC (mXg ["Left"] 3 "at") aN))) [some (.d (ob l t hd)), some (.d (.str row)), some (.d (.bl puts)), some (.x ⟨"Left", [("at", .int (j : Int))]⟩)] []) = _
      have hx : mXg ["Left"] 3 "at" [some (.d (ob l t hd)), some (.d (.str row)), some (.d (.bl puts)), some (.x ⟨"Left", [("at", .int (j : Int))]⟩)] [] = .ok (.d (.int (j : Int))) [] := rfl
      simp [hx, z1, z2, endO, tryEnd, resD, sLeft]) c2 c1
    rw [this]
    cases puts <;> rfl
  | few j =>
    rw [e] at hr ht
    have c1 := fun st => call_x2 (st := st) hr
    have c2 := fun st => call_x2 (st := st) ht
    have := exc ⟨"TooFew", [("due", .int j)]⟩ (resD (.few j)) (by
      rw [← hE]
      show endO (some 3) (sRet (mTup (aC (mC (.str [102, 101, 119])) (aC (mXg ["TooFew"] 3 "due") aN))) [some (.d (ob l t hd)), some (.d (.str row)), some (.d (.bl puts)), some (.x ⟨"TooFew", [("due", .int j)]⟩)] []) = _
      have hx : mXg ["TooFew"] 3 "due" [some (.d (ob l t hd)), some (.d (.str row)), some (.d (.bl puts)), some (.x ⟨"TooFew", [("due", .int j)]⟩)] [] = .ok (.d (.int j)) [] := rfl
      simp [hx, z1, z2, endO, tryEnd, resD, sFew]) c2 c1
    rw [this]
    cases puts <;> rfl
  | ok way =>
    rw [e] at hr ht
    have c1 := fun st => call_p2 (st := st) hr
    have c2 := fun st => call_p2 (st := st) ht
    unfold m_law_read
    rw [tryMany_rt (u := .d (tuples puts (.ok way))) (s := []) (by
      rw [← hE]
      cases puts
      · simp [c1, z1, z2, ord_read_bits_coding, tuples, resD, sRead]
      · simp [c2, z1, z2, ord_text_of_bits_coding, tuples, resT, sText])]
    rfl
theorem law_both {row : List Nat} (hb : ∀ c ∈ row, c = 48 ∨ c = 49) (hn : row.length ≤ 500) : F_law_both [.d (ob l t hd), .d (.str row), .d (resD (parsed t row))] [] = .ok (.d (.bl true)) [] := by
  have r0 := fun st => call_p3 (st := st) (law_read o hb hn false)
  have r1 := fun st => call_p3 (st := st) (law_read o hb hn true)
  have hw : ∀ way, parsed t row = .ok way → way.length < 1000 := fun way e => by obtain ⟨_, _, h3⟩ := parsed_way o e; omega
  have s0 := fun st => call_p2 (st := st) (same_res (parsed t row) hw)
  have z1 : ¬ sizeL < 2 := by unfold sizeL; omega
  unfold F_law_both fnM m_law_both
  cases e : parsed t row with
  | ok way =>
    obtain ⟨h1, h2, h3⟩ := parsed_way o e
    have cp := fun st => call_p1 (st := st) (law_put o h2 (by omega))
    have s1 := fun st => call_p2 (st := st) (same_text (textOf [] way))
    rw [e] at r0 r1 s0
    have r1' : ∀ st, callA F_law_read 3 [.d (ob l t hd), .d (.str row), .d (.bl true)] st = .ok (.d (.tup [.str sText, .str (textOf [] way)])) st := r1
    have r0' : ∀ st, callA F_law_read 3 [.d (ob l t hd), .d (.str row), .d (.bl false)] st = .ok (.d (resD (.ok way))) st := r0
    unfold resD at r0' s0 ⊢
    unfold sText at r1' s1
    unfold sRead at r0' s0 ⊢
    simp [cp, r0', r1', s0, s1, z1]
  | bad j =>
    rw [e] at r0 r1 s0
    have r1' : ∀ st, callA F_law_read 3 [.d (ob l t hd), .d (.str row), .d (.bl true)] st = .ok (.d (resD (.bad j))) st := r1
    have r0' : ∀ st, callA F_law_read 3 [.d (ob l t hd), .d (.str row), .d (.bl false)] st = .ok (.d (resD (.bad j))) st := r0
    unfold resD sBad_ at r0' r1' s0 ⊢
    simp [r0', r1', s0]
  | left j =>
    rw [e] at r0 r1 s0
    have r1' : ∀ st, callA F_law_read 3 [.d (ob l t hd), .d (.str row), .d (.bl true)] st = .ok (.d (resD (.left j))) st := r1
    have r0' : ∀ st, callA F_law_read 3 [.d (ob l t hd), .d (.str row), .d (.bl false)] st = .ok (.d (resD (.left j))) st := r0
    unfold resD sLeft at r0' r1' s0 ⊢
    simp [r0', r1', s0]
  | few j =>
    rw [e] at r0 r1 s0
    have r1' : ∀ st, callA F_law_read 3 [.d (ob l t hd), .d (.str row), .d (.bl true)] st = .ok (.d (resD (.few j))) st := r1
    have r0' : ∀ st, callA F_law_read 3 [.d (ob l t hd), .d (.str row), .d (.bl false)] st = .ok (.d (resD (.few j))) st := r0
    unfold resD sFew at r0' r1' s0 ⊢
    simp [r0', r1', s0]
end
end K13

/-! R14 -/
set_option Elab.async false
set_option linter.all false
set_option maxRecDepth 100000
set_option maxHeartbeats 1000000
namespace K13
open LV
def wayT : MT := tOr' (cL dEq (mV 3) (mC (.str [101, 110, 100]))) (tAn (tTr (mIsi "tuple" (mV 3))) (cL dGt (oL dIx (mV 3) (mC (.int 1))) (mV 6)))
def wayS : MS := sSet 3 (oL dIx (oL dIx (mV 1) (mC (.int 0))) (mCallA F_law_pull 2 (aC (mV 0) (aC (mFn fLn (aC (oL dIx (mV 1) (mC (.int 0))) aN)) aN))))
def wayE (l : List Nat) (t : WT) (n : Nat) (k : Ky) (K : List Ky) (s : Int) (j : Nat) : EnvU := [some (.c 0), some (.d (pl l t)), some (.d (.int (n : Int))), some (.d k.d), some (.d (.lst (K.map Ky.d))), some (.c 1), some (.d (.int s)), some (.d (.int (j : Int))), none]
theorem wayOk_snoc {t : WT} : ∀ {g : List Ky} {m : Int} {k : Ky}, WayOk t m g → k ∈ t.map (·.1) → k ≠ .fin → need k ≤ m + (g.map rch).sum → WayOk t m (g ++ [k])
  | [], m, k, _, h1, h2, h3 => ⟨h1, h2, by simpa using h3, trivial⟩
  | a :: r, m, k, ⟨a1, a2, a3, a4⟩, h1, h2, h3 => ⟨a1, a2, a3, wayOk_snoc a4 h1 h2 (by rw [List.map_cons, List.sum_cons] at h3; omega)⟩
section
variable {l : List Nat} {t : WT} {hd : Tb} (o : Obj l t hd)
include o
theorem ky_ok {k : Ky} (hk : k ∈ t.map (·.1)) : KyOk k := by
  rcases o.fmt.keys.mem.mp hk with ⟨c, hc, rfl⟩ | rfl | ⟨p, rfl, hp⟩
  · exact ⟨fun x e d hd => by cases e; have := o.fmt.keys.az.az c hc; simp at hd; omega⟩
  · exact ⟨fun x e d hd => by cases e; simp at hd; omega⟩
  · exact ⟨fun x e => by cases e⟩
theorem changed {row : List Nat} {items : List Ky} {j : Nat} (hb : ∀ c ∈ row, c = 48 ∨ c = 49) (hn : row.length ≤ 500) (h1 : ∀ i, parsed t row = .bad i → j ≤ i) (h2 : ∀ way, parsed t row = .ok way → way ≠ items) (hi : ∀ k ∈ items, k ∈ t.map (·.1)) :
    F_law_changed_holds [.d (ob l t hd), .d (pl l t), .d (.str row), .d (.int (j : Int)), .d (.lst (items.map Ky.d))] [] = .ok (.d (.bl true)) [] := by
  have cp := fun st => call_p2 (st := st) (law_parsed o hn)
  have cb := fun st => call_p3 (st := st) (law_both o hb hn)
  have hr : F_read [.d (ob l t hd), .d (.str row)] [] = readO (parsed t row) := read o hb hn
  have z1 : ¬ sizeL < 2 := by unfold sizeL; omega
  unfold F_law_changed_holds fnM m_law_changed_holds
  cases e : parsed t row with
  | ok way =>
    rw [show parse t row.length row 0 [] 0 [] = .ok way from e] at cp
    rw [e] at cb hr
    obtain ⟨w1, w2, w3⟩ := parsed_way o e
    have cr := fun st => call_p2 (st := st) (show F_read [.d (ob l t hd), .d (.str row)] [] = .ok (.d (.lst (way.map Ky.d))) [] from hr)
    have cw := fun st => call_p2 (st := st) (written o w2 (by omega))
    rw [← w1] at cw
    have hne := ne_kys (A := way) (B := items) (fun k hk => ky_ok o (wayMem o w2 k hk)) (fun k hk => ky_ok o (hi k hk))
    rw [decide_eq_false (h2 way e)] at hne
    have cs := fun st => call_p2 (st := st) (same_str 5 row)
    unfold resD sRead at cp cb
    simp [cp, cb, cr, cw, hne, cs]
  | bad i =>
    rw [show parse t row.length row 0 [] 0 [] = .bad i from e] at cp
    rw [e] at cb
    have hi' : ¬ (i : Int) < (j : Int) := by have := h1 i e; omega
    unfold resD sBad_ at cp cb
    simp [cp, cb, hi']
    try omega
  | left i =>
    rw [show parse t row.length row 0 [] 0 [] = .left i from e] at cp
    rw [e] at cb
    unfold resD sLeft at cp cb
    simp [cp, cb]
  | few i =>
    rw [show parse t row.length row 0 [] 0 [] = .few i from e] at cp
    rw [e] at cb
    unfold resD sFew at cp cb
    simp [cp, cb]
theorem law_way {x : D} (hx : StA x) {n : Nat} (hn : n ≤ 8) : ∃ items x', StA x' ∧ WayOk t 0 items ∧ items.length = n ∧ F_law_way [.c 0, .d (pl l t), .d (.int (n : Int))] [some x] = .ok (.d (.lst (items.map Ky.d))) [some x'] := by
  have hkl : (t.map (·.1)).length ≤ 40 := o.fmt.keys.len
  have hk0 : 0 < (t.map (·.1)).length := List.length_pos_of_mem o.finMem
  have h1 := o.fmt.keys.l1
  have h4 := o.fmt.keys.l4
  have hkd := tb_keys_d o
  have lc := nLc_all (it := iKs (oL dIx (mV 1) (mC (.int 1)))) (env := [some (.c 0), some (.d (pl l t)), some (.d (.int (n : Int))), none, none, none, none, none, none]) (vs := [8, 3]) (i := 3) (st := [some x]) (st1 := [some x]) (g := Ky.d) (xs := t.map (·.1)) (f := Ky.d) (elt := mV 3)
    (by simp [-List.map_map, hkd]) (fun k hk a => by simp [wipeE]) (by unfold sizeL; omega)
  generalize hK : t.map (·.1) = K at *
  have loop := forGo_inv (t := gN 7) (body := b_law_way_0)
    (I := fun k env st => ∃ y g o3 o7, env = [some (.c 0), some (.d (pl l t)), some (.d (.int (n : Int))), o3, some (.d (.lst (K.map Ky.d))), some (.c 1), some (.d (.int ((g : List Ky).map rch).sum)), o7, none] ∧ st = [some y, some (.lst (g.map Ky.d))] ∧ StA y ∧ WayOk t 0 g ∧ g.length = k ∧ 0 ≤ (g.map rch).sum)
    (ds := rng 0 n) (i := 0) (env := [some (.c 0), some (.d (pl l t)), some (.d (.int (n : Int))), none, some (.d (.lst (K.map Ky.d))), some (.c 1), some (.d (.int 0)), none, none]) (st := [some x, some (.lst [])]) ?_ ⟨x, [], none, none, rfl, rfl, hx, trivial, rfl, by simp⟩
  · obtain ⟨e, s, hg, y, g, o3, o7, rfl, rfl, hy, hw, hl, _⟩ := loop
    rw [rng_length] at hl
    refine ⟨g, y, hy, hw, by omega, ?_⟩
    have hit := iR1_n (r := aC (mV 2) aN) (env := [some (.c 0), some (.d (pl l t)), some (.d (.int (n : Int))), none, some (.d (.lst (K.map Ky.d))), some (.c 1), some (.d (.int 0)), none, none]) (st := [some x, some (.lst [])]) (st1 := [some x, some (.lst [])]) (n := n) (by simp) (by omega)
    unfold F_law_way fnM m_law_way
    simp [-List.map_map, lc, hit, hg, fzU, isLk]
  · rintro j d env st hj ⟨y, g, o3, o7, rfl, rfl, hy, hw, hl, hs⟩
    obtain ⟨hj1, rfl⟩ := rng_get hj
    obtain ⟨v, y1, hy1, v0, v1, c1⟩ := pullA hy (m := (K.length : Int)) (by omega) (by omega)
    obtain ⟨v, rfl⟩ : ∃ i : Nat, v = i := ⟨v.toNat, by omega⟩
    have gK : K[v]? = some K[v] := List.getElem?_eq_getElem (by omega)
    have mK : K[v] ∈ K := List.getElem_mem (by omega)
    generalize K[v] = k at gK mK
    have hat : L2.atI (K.map Ky.d) (v : Int) = some k.d := by rw [atI_nat, List.getElem?_map, gK]; rfl
    have z1 : l.length ≤ sizeL := by unfold sizeL; omega
    -- the key that is taken
    have key : ∃ (k' : Ky) (y2 : D), StA y2 ∧ k' ∈ K ∧ k' ≠ .fin ∧ need k' ≤ (g.map rch).sum ∧ sIf wayT wayS sNx (wayE l t n k K (g.map rch).sum j) [some y1, some (.lst (g.map Ky.d))] = .nx (wayE l t n k' K (g.map rch).sum j) [some y2, some (.lst (g.map Ky.d))] := by
      have viaL : wayT (wayE l t n k K (g.map rch).sum j) [some y1, some (.lst (g.map Ky.d))] = .ok true [some y1, some (.lst (g.map Ky.d))] → ∃ (k' : Ky) (y2 : D), StA y2 ∧ k' ∈ K ∧ k' ≠ .fin ∧ need k' ≤ (g.map rch).sum ∧ sIf wayT wayS sNx (wayE l t n k K (g.map rch).sum j) [some y1, some (.lst (g.map Ky.d))] = .nx (wayE l t n k' K (g.map rch).sum j) [some y2, some (.lst (g.map Ky.d))] := fun h => by
        obtain ⟨u, y2, hy2, u0, u1, c2⟩ := pullA hy1 (m := (l.length : Int)) (by omega) (by omega)
        obtain ⟨u, rfl⟩ : ∃ i : Nat, u = i := ⟨u.toNat, by omega⟩
        have gl : l[u]? = some l[u] := List.getElem?_eq_getElem (by omega)
        have ml : l[u] ∈ l := List.getElem_mem (by omega)
        generalize l[u] = c at gl ml
        have hal : L2.atI l (u : Int) = some c := by rw [atI_nat]; exact gl
        refine ⟨Ky.ltr c, y2, hy2, by rw [← hK]; exact o.fmt.keys.mem.mpr (.inl ⟨c, ml, rfl⟩), (by intro e; cases e), hs, ?_⟩
        rw [e_sIf, h, bs_ok, if_pos rfl]
        unfold wayS wayE
        simp [c2, hal, z1, Ky.d]
      have ef := eq_fin k
      by_cases hf : k = .fin
      · rw [decide_eq_true hf] at ef
        exact viaL (by unfold wayT wayE; simp [ef])
      · rw [decide_eq_false hf] at ef
        cases k with
        | txt w =>
          have ty : tyD (Ky.txt w).d = some "str" := rfl
          exact ⟨.txt w, y1, hy1, mK, hf, hs, by unfold wayT wayE; simp [ef, ty]⟩
        | cop p =>
          have ty : tyD (Ky.cop p).d = some "tuple" := rfl
          have hx1 : dIx (Ky.cop p).d (.int 1) = some (.int p.2) := rfl
          by_cases hq : (g.map rch).sum < p.2
          · exact viaL (by unfold wayT wayE; simp [ef, ty, hx1, hq])
          · exact ⟨.cop p, y1, hy1, mK, hf, show p.2 ≤ _ by omega, by unfold wayT wayE; simp [ef, ty, hx1, hq]⟩
    obtain ⟨k', y2, hy2, mk', hf', hnd, hS⟩ := key
    have hr := rch_nonneg o.fmt.keys (k := k') (by rw [hK]; exact mk')
    have hap := append_at (st := [some y2, some (.lst (g.map Ky.d))]) (k := 1) (xs := g.map Ky.d) (d := k'.d) rfl (by rw [List.length_map]; unfold sizeL; omega)
    refine ⟨_, _, [some (.c 0), some (.d (pl l t)), some (.d (.int (n : Int))), some (.d k'.d), some (.d (.lst (K.map Ky.d))), some (.c 1), some (.d (.int (((g ++ [k']).map rch).sum))), some (.d (.int (j : Int))), none], [some y2, some (.lst ((g ++ [k']).map Ky.d))], rfl, ?_, ⟨y2, g ++ [k'], _, _, rfl, rfl, hy2, wayOk_snoc hw (by rw [hK]; exact mk') hf' (by omega), by simp; omega, by rw [List.map_append, List.sum_append]; simp; omega⟩⟩
    have hsum : ((g ++ [k']).map rch).sum = (g.map rch).sum + rch k' := by rw [List.map_append, List.sum_append]; simp
    rw [hsum]
    have hS1 : (sSet 3 (oL dIx (mV 4) (mCallA F_law_pull 2 (aC (mV 0) (aC (mFn fLn (aC (mV 4) aN)) aN)))) [some (.c 0), some (.d (pl l t)), some (.d (.int (n : Int))), o3, some (.d (.lst (K.map Ky.d))), some (.c 1), some (.d (.int ((g.map rch).sum))), some (.d (.int (0 + (j : Int)))), none] [some y, some (.lst (g.map Ky.d))]) = .nx (wayE l t n k K (g.map rch).sum j) [some y1, some (.lst (g.map Ky.d))] := by
      unfold wayE
      simp [-List.map_map, c1, hat]
    show bn (sSet 3 (oL dIx (mV 4) (mCallA F_law_pull 2 (aC (mV 0) (aC (mFn fLn (aC (mV 4) aN)) aN)))) [some (.c 0), some (.d (pl l t)), some (.d (.int (n : Int))), o3, some (.d (.lst (K.map Ky.d))), some (.c 1), some (.d (.int ((g.map rch).sum))), some (.d (.int (0 + (j : Int)))), none] [some y, some (.lst (g.map Ky.d))]) (fun e s => bn (sIf wayT wayS sNx e s) (fun e s => sSeq (sExpr (mMeth "list" oAppend (mV 5) (aC (mV 3) aN))) (sIf (tTr (mIsi "tuple" (mV 3))) (sSet 6 (oL dAdd (mV 6) (oL dIx (mV 3) (mC (.int 0))))) (sSet 6 (oL dAdd (mV 6) (mC (.int 1))))) e s)) = _
    rw [hS1, bn_nx, hS, bn_nx]
    unfold wayE
    cases k' with
    | txt w =>
      have ty : tyD (Ky.txt w).d = some "str" := rfl
      have hr1 : rch (.txt w) = 1 := (if_neg (fun e => hf' (congrArg Ky.txt e)) : (if w = [101, 110, 100] then (0 : Int) else 1) = 1)
      rw [hr1]
      simp [hap, ty]
    | cop p =>
      have ty : tyD (Ky.cop p).d = some "tuple" := rfl
      have hx0 : dIx (Ky.cop p).d (.int 0) = some (.int p.1) := rfl
      simp [hap, ty, hx0, rch]
end
end K13

/-! K13p -/
set_option Elab.async false
set_option linter.all false
set_option maxRecDepth 100000
set_option maxHeartbeats 1000000
namespace K13
open LV
section
variable {l : List Nat} {t : WT} {hd : Tb} (o : Obj l t hd)
include o
/-- a changed row -/
theorem changed_row {items : List Ky} (hw : WayOk t 0 items) {file : List Nat} (hf : file = wordsOf t items ++ wd t .fin) {row : List Nat} {j : Nat} (hb : ∀ c ∈ row, c = 48 ∨ c = 49) (hn : row.length ≤ 500) (hj : j ≤ row.length) (hp : row.take j = file.take j) (hne : row ≠ file) :
    F_law_changed_holds [.d (ob l t hd), .d (pl l t), .d (.str row), .d (.int (j : Int)), .d (.lst (items.map Ky.d))] [] = .ok (.d (.bl true)) [] := by
  have hpar : parsed t file = .ok items := by
    have := parse_way o.sep o.finMem (n := file.length) (g := items) (i := 0) (m := 0) (f := []) hw (by omega) (fun k hk => (rch_nonneg o.fmt.keys hk).1) (by rw [hf]; simp)
    rw [← hf, List.nil_append] at this; exact this
  refine changed o hb hn (fun i hi => ?_) (fun way e h => ?_) (wayMem o hw)
  · refine Classical.byContradiction fun hlt => ?_
    obtain ⟨_, _, h3⟩ := parse_bad hi
    have := h3 file.length file (by
      rw [Nat.sub_zero]
      have e1 : file.take (i + 1) = (file.take j).take (i + 1) := by rw [List.take_take, Nat.min_eq_left (by omega)]
      have e2 : row.take (i + 1) = (row.take j).take (i + 1) := by rw [List.take_take, Nat.min_eq_left (by omega)]
      rw [e1, e2, hp])
    rw [show parse t file.length file 0 [] 0 [] = .ok items from hpar] at this
    cases this
  · obtain ⟨h1, _, _⟩ := parsed_way o e
    rw [h, ← hf] at h1
    exact hne h1
end
theorem F_law_holds (ns : List Int) : ∃ st, F_law [.d (.lsx (ns.map D.int))] [] = .ok (.d (.bl true)) st := by
  have hs0 := call_dc (st := []) (F := F_law_start) (ds := [.lsx (ns.map D.int)]) (n := 1) (law_start ns) rfl
  have hs : callA F_law_start 1 [.d (.lsx (ns.map D.int))] [] = .ok (.c 0) [some (stD ns 0 0 1234577)] := hs0
  have hA : StA (stD ns 0 0 1234577) := ⟨ns, 0, 0, 1234577, rfl, by decide, by decide, by decide⟩
  obtain ⟨u, x1, hx1, u0, u1, c1⟩ := pullA hA (m := 4) (by omega) (by omega)
  obtain ⟨u, rfl⟩ : ∃ i : Nat, u = i := ⟨u.toNat, by omega⟩
  obtain ⟨l, x2, hx2, ll, hl, c2⟩ := alphabet hx1 (n := u + 1) (by omega)
  have e1 : (1 : Int) + u = ((u + 1 : Nat) : Int) := by omega
  have c2' : ∀ rest, callA F_law_alphabet 2 [.c 0, .d (.int (1 + (u : Int)))] (some x1 :: rest) = .ok (.d (.str l)) (some x2 :: rest) := fun rest => by rw [e1, call_s2 c2, List.append_nil]
  obtain ⟨v, x3, hx3, v0, v1, c3⟩ := pullA hx2 (m := 2) (by omega) (by omega)
  obtain ⟨v, rfl⟩ : ∃ i : Nat, v = i := ⟨v.toNat, by omega⟩
  -- the greatest length of a copy
  obtain ⟨a, ha, ha2, ha3⟩ : ∃ a : Nat, L2.atI [D.int 4, D.int 8] (v : Int) = some (.int (a : Int)) ∧ 2 ≤ a ∧ a ≤ 8 := by
    have : v = 0 ∨ v = 1 := by omega
    rcases this with rfl | rfl
    · exact ⟨4, rfl, by omega, by omega⟩
    · exact ⟨8, rfl, by omega, by omega⟩
  obtain ⟨w, x4, hx4, w0, w1, c4⟩ := pullA hx3 (m := 7) (by omega) (by omega)
  obtain ⟨w, rfl⟩ : ∃ i : Nat, w = i := ⟨w.toNat, by omega⟩
  obtain ⟨cs, x5, hx5, hc, c5⟩ := copies hx4 (n := w) (a := a) (b := 3) (by omega) ha2 ha3 (by omega) (by omega)
  have c5' : ∀ rest, callA F_law_copies 4 [.c 0, .d (.int (w : Int)), .d (.int (a : Int)), .d (.int 3)] (some x4 :: rest) = .ok (.d (.lst (cs.map prD))) (some x5 :: rest) := fun rest => by
    have := call_s4 (rest := rest) c5
    rw [List.append_nil] at this
    exact this
  obtain ⟨t, x6, hx6, ht, c6⟩ := plain hx5 hl (by omega) (by omega) (cs := cs) ⟨hc.nd, by have := hc.len; omega, hc.ok⟩
  have c6' : ∀ rest, callA F_law_plain 3 [.c 0, .d (.str l), .d (.lst (cs.map prD))] (some x5 :: rest) = .ok (.d (pl l t)) (some x6 :: rest) := fun rest => by rw [call_s3 c6, List.append_nil]
  obtain ⟨hd, hok, hinit⟩ := init ht.keys ht.pf
  have o : Obj l t hd := ⟨ht, hok⟩
  have hkl : (t.map (·.1)).length ≤ 40 := ht.keys.len
  have htl : t.length ≤ 40 := by rwa [List.length_map] at hkl
  have hndtb : (t.tb.map (·.1)).Nodup := by rw [WT.keys]; exact ht.keys.nodup
  have htbl : t.tb.length ≤ 100 := by rw [WT.len]; omega
  have hmk : mkA "Format" F_Format_init 3 [.d (.str l), .d (.dic t.tb.d)] [some x6, none] = .ok (.c 2) [some x6, none, some (ob l t hd)] := mkA_run (c := "Format") (F := F_Format_init) (n := 3) (ds := [.str l, .dic t.tb.d]) (st := [some x6, none]) hinit rfl
  obtain ⟨q, x7, hx7, q0, q1, c7⟩ := pullA hx6 (m := 9) (by omega) (by omega)
  obtain ⟨q, rfl⟩ : ∃ i : Nat, q = i := ⟨q.toNat, by omega⟩
  obtain ⟨items, x8, hx8, hw, hil, c8⟩ := law_way o hx7 (n := q) (by omega)
  have c8' : ∀ rest, callA F_law_way 3 [.c 0, .d (pl l t), .d (.int (q : Int))] (some x7 :: rest) = .ok (.d (.lst (items.map Ky.d))) (some x8 :: rest) := fun rest => by
    have := call_s3 (rest := rest) c8
    rw [List.append_nil] at this
    exact this
  have c9 := fun st => call_p2 (st := st) (written o hw (by omega))
  generalize hF : wordsOf t items ++ wd t .fin = file at c9
  have hbits : ∀ c ∈ file, c = 48 ∨ c = 49 := by
    rw [← hF]
    intro c hc
    rcases List.mem_append.mp hc with hc | hc
    · unfold wordsOf at hc
      obtain ⟨L, hL, hcL⟩ := List.mem_flatten.mp hc
      obtain ⟨k, hk, rfl⟩ := List.mem_map.mp hL
      exact ht.pf.bits _ (wd_mem (wayMem o hw k hk)) c hcL
    · exact ht.pf.bits _ (wd_mem o.finMem) c hc
  have hlen : file.length ≤ 200 := by
    have : ∀ g : List Ky, (∀ k ∈ g, k ∈ t.map (·.1)) → (wordsOf t g).length ≤ 12 * g.length := by
      intro g
      induction g with
      | nil => intro _; simp [wordsOf]
      | cons a r ih =>
        intro hg
        have h1 := ih fun k hk => hg k (List.mem_cons_of_mem _ hk)
        have h2 := ht.pf.hi _ (wd_mem (hg a List.mem_cons_self))
        have e : wordsOf t (a :: r) = wd t a ++ wordsOf t r := rfl
        rw [e, List.length_append, List.length_cons]; omega
    have h1 := this items (wayMem o hw)
    have h2 := ht.pf.hi _ (wd_mem o.finMem)
    rw [← hF, List.length_append]; omega
  have hpar : parsed t file = .ok items := by
    have := parse_way o.sep o.finMem (n := file.length) (g := items) (i := 0) (m := 0) (f := []) hw (by omega) (fun k hk => (rch_nonneg o.fmt.keys hk).1) (by rw [← hF]; simp)
    rw [hF, List.nil_append] at this; exact this
  have c10 := fun st => call_p3 (st := st) (law_both o hbits (by omega))
  rw [hpar] at c10
  have z1 : file.length ≤ sizeL := by unfold sizeL; omega
  have z2 : ¬ sizeL < 2 := by unfold sizeL; omega
  have z3 : 2 ≤ sizeL := by unfold sizeL; omega
  generalize hNS : D.lsx (ns.map D.int) = NS at *
  obtain ⟨os, hloop⟩ : ∃ o9, ∃ o8, forGo (gN 8) b_law_0 ((rng 0 file.length).map U.d) [some (.d NS), some (.c 0), some (.d (.str l)), some (.d (.int (a : Int))), some (.d (pl l t)), some (.d (ob l t hd)), some (.d (.lst (items.map Ky.d))), some (.d (.str file)), none, none] [some x8, none, none] =
      .nx [some (.d NS), some (.c 0), some (.d (.str l)), some (.d (.int (a : Int))), some (.d (pl l t)), some (.d (ob l t hd)), some (.d (.lst (items.map Ky.d))), some (.d (.str file)), o8, o9] [some x8, none, none] := by
    have loop := forGo_inv (t := gN 8) (body := b_law_0)
      (I := fun _ env st => ∃ o8 o9, env = [some (.d NS), some (.c 0), some (.d (.str l)), some (.d (.int (a : Int))), some (.d (pl l t)), some (.d (ob l t hd)), some (.d (.lst (items.map Ky.d))), some (.d (.str file)), o8, o9] ∧ st = [some x8, none, none])
      (ds := rng 0 file.length) (i := 0) (env := [some (.d NS), some (.c 0), some (.d (.str l)), some (.d (.int (a : Int))), some (.d (pl l t)), some (.d (ob l t hd)), some (.d (.lst (items.map Ky.d))), some (.d (.str file)), none, none]) (st := [some x8, none, none]) ?_ ⟨none, none, rfl, rfl⟩
    · obtain ⟨e, s, hg, o8, o9, rfl, rfl⟩ := loop
      exact ⟨o9, o8, hg⟩
    · rintro j d env st hj ⟨o8, o9, rfl, rfl⟩
      obtain ⟨hj1, rfl⟩ := rng_get hj
      have gb : file[j]? = some file[j] := List.getElem?_eq_getElem hj1
      have hbj := hbits file[j] (List.getElem_mem hj1)
      generalize hb : file[j] = b at gb hbj
      have hat : L2.atI file (j : Int) = some b := by rw [atI_nat]; exact gb
      -- the other bit
      obtain ⟨b', hb', hb'2, hbb⟩ : ∃ b', (b' = 48 ∨ b' = 49) ∧ b' ≠ b ∧ L2.atI [49, 48] (if b = 49 then 1 else 0) = some b' := by
        rcases hbj with rfl | rfl
        · exact ⟨49, .inr rfl, by decide, rfl⟩
        · exact ⟨48, .inl rfl, by decide, rfl⟩
      have t1 : cutL file none (some (j : Int)) = file.take j := cutL_take file j
      have t2 : cutL file (some ((j : Int) + 1)) none = file.drop (j + 1) := cutL_drop (i := j + 1) (by omega)
      have t3 : cutL file (some (j : Int)) none = file.drop j := cutL_drop (by omega)
      have htl2 : (file.take j).length = j := by rw [List.length_take]; omega
      have bits1 : ∀ c ∈ file.take j ++ [b'] ++ file.drop (j + 1), c = 48 ∨ c = 49 := fun c hc => by
        rcases List.mem_append.mp hc with hc | hc
        · rcases List.mem_append.mp hc with hc | hc
          · exact hbits c (List.mem_of_mem_take hc)
          · rw [List.mem_singleton] at hc; subst hc; exact hb'
        · exact hbits c (List.mem_of_mem_drop hc)
      have bits2 : ∀ c ∈ file.take j ++ file.drop (j + 1), c = 48 ∨ c = 49 := fun c hc => by
        rcases List.mem_append.mp hc with hc | hc
        · exact hbits c (List.mem_of_mem_take hc)
        · exact hbits c (List.mem_of_mem_drop hc)
      have bits3 : ∀ c ∈ file.take j ++ [b'] ++ file.drop j, c = 48 ∨ c = 49 := fun c hc => by
        rcases List.mem_append.mp hc with hc | hc
        · rcases List.mem_append.mp hc with hc | hc
          · exact hbits c (List.mem_of_mem_take hc)
          · rw [List.mem_singleton] at hc; subst hc; exact hb'
        · exact hbits c (List.mem_of_mem_drop hc)
      have k1 := fun st => call_d (st := st) (n := 5) (ds := [ob l t hd, pl l t, .str (file.take j ++ [b'] ++ file.drop (j + 1)), .int (j : Int), .lst (items.map Ky.d)]) (changed_row o hw hF.symm bits1 (by simp; omega) (by simp; omega) (by rw [List.append_assoc, List.take_append_of_le_length (by omega), List.take_take, Nat.min_self]) (fun e => by
        have h := congrArg (fun L : List Nat => L[j]?) e
        rw [List.append_assoc, List.getElem?_append_right (by omega), htl2, Nat.sub_self, gb] at h
        simp at h
        exact hb'2 h)) rfl
      have k2 := fun st => call_d (st := st) (n := 5) (ds := [ob l t hd, pl l t, .str (file.take j ++ file.drop (j + 1)), .int (j : Int), .lst (items.map Ky.d)]) (changed_row o hw hF.symm bits2 (by simp; omega) (by simp; omega) (by rw [List.take_append_of_le_length (by omega), List.take_take, Nat.min_self]) (fun e => by
        have h := congrArg List.length e
        rw [List.length_append, htl2, List.length_drop] at h
        omega)) rfl
      have k3 := fun st => call_d (st := st) (n := 5) (ds := [ob l t hd, pl l t, .str (file.take j ++ [b'] ++ file.drop j), .int (j : Int), .lst (items.map Ky.d)]) (changed_row o hw hF.symm bits3 (by simp; omega) (by simp; omega) (by rw [List.append_assoc, List.take_append_of_le_length (by omega), List.take_take, Nat.min_self]) (fun e => by
        have h := congrArg List.length e
        rw [List.length_append, List.length_append, htl2, List.length_drop, List.length_singleton] at h
        omega)) rfl
      simp only [List.append_nil, List.map_cons, List.map_nil] at k1 k2 k3
      have y1 : (file.take j).length + 1 ≤ sizeL := by rw [htl2]; unfold sizeL; omega
      have y2 : (file.take j ++ [b']).length + (file.drop (j + 1)).length ≤ sizeL := by rw [List.length_append, htl2, List.length_drop, List.length_singleton]; unfold sizeL; omega
      have y3 : (file.take j).length + (file.drop (j + 1)).length ≤ sizeL := by rw [htl2, List.length_drop]; unfold sizeL; omega
      have y4 : (file.take j ++ [b']).length + (file.drop j).length ≤ sizeL := by rw [List.length_append, htl2, List.length_drop, List.length_singleton]; unfold sizeL; omega
      refine ⟨_, _, [some (.d NS), some (.c 0), some (.d (.str l)), some (.d (.int (a : Int))), some (.d (pl l t)), some (.d (ob l t hd)), some (.d (.lst (items.map Ky.d))), some (.d (.str file)), some (.d (.int (j : Int))), some (.d (.str [b']))], [some x8, none, none], rfl, ?_, ⟨_, _, rfl, rfl⟩⟩
      have hS : sSet 9 (oL dIx (mC (.str [49, 48])) (mFn fInt (aC (oL dEq (oL dIx (mV 7) (mV 8)) (mC (.str [49]))) aN))) [some (.d NS), some (.c 0), some (.d (.str l)), some (.d (.int (a : Int))), some (.d (pl l t)), some (.d (ob l t hd)), some (.d (.lst (items.map Ky.d))), some (.d (.str file)), some (.d (.int (0 + (j : Int)))), o9] [some x8, none, none] =
          .nx [some (.d NS), some (.c 0), some (.d (.str l)), some (.d (.int (a : Int))), some (.d (pl l t)), some (.d (ob l t hd)), some (.d (.lst (items.map Ky.d))), some (.d (.str file)), some (.d (.int (j : Int))), some (.d (.str [b']))] [some x8, none, none] := by
        have hfi : fInt [.bl (decide (b = 49))] = some (.int (if b = 49 then 1 else 0)) := by by_cases h : b = 49 <;> simp [h, fInt]
        simp [hat, z1, z2, hfi, hbb]
      have hT1 : oL dAdd (oL dAdd (mSl (mV 7) oN (oS (mV 8))) (mV 9)) (mSl (mV 7) (oS (oL dAdd (mV 8) (mC (.int 1)))) oN) [some (.d NS), some (.c 0), some (.d (.str l)), some (.d (.int (a : Int))), some (.d (pl l t)), some (.d (ob l t hd)), some (.d (.lst (items.map Ky.d))), some (.d (.str file)), some (.d (.int (j : Int))), some (.d (.str [b']))] [some x8, none, none] = .ok (.d (.str (file.take j ++ [b'] ++ file.drop (j + 1)))) [some x8, none, none] := by
        simp only [e_mB, e_mSl, e_mV, List.getElem?_cons_zero, List.getElem?_cons_succ, Option.join_some, oR_some, bd_ok, e_oN, e_oS, oSU_int, slU_str, if_pos z1, e_lift2, e_get_d, o2_some, v_add_i, v_add_s, e_mC, Option.map_some, t1, t2, List.length_singleton, if_pos y1, if_pos y2]
      have hT2 : oL dAdd (mSl (mV 7) oN (oS (mV 8))) (mSl (mV 7) (oS (oL dAdd (mV 8) (mC (.int 1)))) oN) [some (.d NS), some (.c 0), some (.d (.str l)), some (.d (.int (a : Int))), some (.d (pl l t)), some (.d (ob l t hd)), some (.d (.lst (items.map Ky.d))), some (.d (.str file)), some (.d (.int (j : Int))), some (.d (.str [b']))] [some x8, none, none] = .ok (.d (.str (file.take j ++ file.drop (j + 1)))) [some x8, none, none] := by
        simp only [e_mB, e_mSl, e_mV, List.getElem?_cons_zero, List.getElem?_cons_succ, Option.join_some, oR_some, bd_ok, e_oN, e_oS, oSU_int, slU_str, if_pos z1, e_lift2, e_get_d, o2_some, v_add_i, v_add_s, e_mC, Option.map_some, t1, t2, if_pos y3]
      have hT3 : oL dAdd (oL dAdd (mSl (mV 7) oN (oS (mV 8))) (mV 9)) (mSl (mV 7) (oS (mV 8)) oN) [some (.d NS), some (.c 0), some (.d (.str l)), some (.d (.int (a : Int))), some (.d (pl l t)), some (.d (ob l t hd)), some (.d (.lst (items.map Ky.d))), some (.d (.str file)), some (.d (.int (j : Int))), some (.d (.str [b']))] [some x8, none, none] = .ok (.d (.str (file.take j ++ [b'] ++ file.drop j))) [some x8, none, none] := by
        simp only [e_mB, e_mSl, e_mV, List.getElem?_cons_zero, List.getElem?_cons_succ, Option.join_some, oR_some, bd_ok, e_oN, e_oS, oSU_int, slU_str, if_pos z1, e_lift2, e_get_d, o2_some, v_add_i, v_add_s, e_mC, Option.map_some, t1, t3, List.length_singleton, if_pos y1, if_pos y4]
      generalize file.take j ++ [b'] ++ file.drop (j + 1) = R1 at *
      generalize file.take j ++ file.drop (j + 1) = R2 at *
      generalize file.take j ++ [b'] ++ file.drop j = R3 at *
      unfold b_law_0
      rw [e_sSeq]
      show bn (sSet 9 _ [some (.d NS), some (.c 0), some (.d (.str l)), some (.d (.int (a : Int))), some (.d (pl l t)), some (.d (ob l t hd)), some (.d (.lst (items.map Ky.d))), some (.d (.str file)), some (.d (.int (0 + (j : Int)))), o9] _) _ = _
      rw [hS, bn_nx]
      simp [-e_mB, hT1, hT2, hT3, k1, k2, k3]
  obtain ⟨o8, hloop⟩ := hloop
  have hcp := frz_copied (t := t.tb) hndtb htbl (m := oL dIx (mV 4) (mC (.int 1))) (env := [some (.d NS), some (.c 0), some (.d (.str l)), some (.d (.int (a : Int))), some (.d (pl l t)), none, none, none, none, none]) (st := [some x6]) (by simp)
  have hfr : mFrz (mMake "Format" F_Format_init 3 (aC (oL dIx (mV 4) (mC (.int 0))) (aC (mFrz (mCallA F_law_copied 1 (aC (oL dIx (mV 4) (mC (.int 1))) aN))) aN))) [some (.d NS), some (.c 0), some (.d (.str l)), some (.d (.int (a : Int))), some (.d (pl l t)), none, none, none, none, none] [some x6] = .ok (.d (ob l t hd)) [some x6, none, none] := by
    rw [e_mFrz]
    simp [-e_mFrz, hcp, hmk, fzU, isLk]
  have hit := iR1_n (r := aC (mFn fLn (aC (mV 7) aN)) aN) (env := [some (.d NS), some (.c 0), some (.d (.str l)), some (.d (.int (a : Int))), some (.d (pl l t)), some (.d (ob l t hd)), some (.d (.lst (items.map Ky.d))), some (.d (.str file)), none, none]) (st := [some x8, none, none]) (st1 := [some x8, none, none]) (n := file.length) (by simp [z1]) (by omega)
  refine ⟨[], ?_⟩
  unfold resD sRead at c10
  unfold F_law fnM m_law
  simp [-List.map_map, -e_mFrz, hs, c1, c2', c3, ha, c4, c5', c6', hfr, c7, c8', c9, hit, hloop, c10, z2, z3]
theorem law_holds : ∀ ns : List Int, ns.length ≤ 63 → ∃ st, F_law [.d (.lsx (ns.map D.int))] [] = .ok (.d (.bl true)) st := fun ns _ => F_law_holds ns
end K13

/-! K13e -/
set_option Elab.async false
set_option maxRecDepth 100000
open PySem PySem.W PyProof.Rows
set_option maxRecDepth 100000 in
set_option maxHeartbeats 0 in
theorem PySem.Challenge.cw_leastfile_k13_whole_one_bit_changed_holds : PySem.Challenge.rw_leastfile_k13_whole_one_bit_changed.Holds := by
  w_on; o_law; k_head; (case hw => w_witness2)
  k_fill
  refine K13.walk (l := PySem.Challenge.rw_leastfile_k13_whole_one_bit_changed) K13.law_holds rfl rfl (fun w h Y => PySem.W.kIn_of Y) ?F
  case F =>
    intro w mg fa h KX G hmg
    refine' K13.all_mk KX G hmg ?n_BadBits ?n_BadFormat ?n_BadWay ?n_Format ?n_Left ?n_NoBits ?n_TooFew ?a_is_letters ?l_is_letters ?c_is_letters ?k_is_letters ?a_is_bits ?l_is_bits ?c_is_bits ?k_is_bits ?a_is_integer ?l_is_integer ?c_is_integer ?k_is_integer ?a_is_copy ?l_is_copy ?c_is_copy ?k_is_copy ?a_is_letter ?l_is_letter ?c_is_letter ?k_is_letter ?a_has_keys ?l_has_keys ?c_has_keys ?k_has_keys ?a_are_words ?l_are_words ?c_are_words ?k_are_words ?a_in_order ?l_in_order ?c_in_order ?k_in_order ?a_needed ?l_needed ?c_needed ?k_needed ?a_reach ?l_reach ?c_reach ?k_reach ?a_heads_of ?l_heads_of ?c_heads_of ?k_heads_of ?a_Format_init ?l_Format_init ?c_Format_init ?k_Format_init ?a_Format_has ?i_Format_has ?l_Format_has ?c_Format_has ?k_Format_has ?a_check_way ?l_check_way ?c_check_way ?k_check_way ?a_written ?l_written ?c_written ?k_written ?a_law_start ?l_law_start ?c_law_start ?k_law_start ?a_law_pull ?l_law_pull ?c_law_pull ?k_law_pull ?a_law_alphabet ?l_law_alphabet ?c_law_alphabet ?k_law_alphabet ?a_law_copies ?l_law_copies ?c_law_copies ?k_law_copies ?a_law_leaves ?l_law_leaves ?c_law_leaves ?k_law_leaves ?a_law_plain ?l_law_plain ?c_law_plain ?k_law_plain ?a_law_way ?l_law_way ?c_law_way ?k_law_way ?a_law_copied ?l_law_copied ?c_law_copied ?k_law_copied ?a_law_is_int ?l_law_is_int ?c_law_is_int ?k_law_is_int ?a_law_same ?l_law_same ?c_law_same ?k_law_same ?a_law_put ?l_law_put ?c_law_put ?k_law_put ?a_can_come ?l_can_come ?c_can_come ?k_can_come ?a_least_due ?l_least_due ?c_least_due ?k_least_due ?a_read ?l_read ?c_read ?k_read ?a_put_by ?l_put_by ?c_put_by ?k_put_by ?a_spread ?l_spread ?c_spread ?k_spread ?a_text_of ?l_text_of ?c_text_of ?k_text_of ?a_law_read ?l_law_read ?c_law_read ?k_law_read ?a_law_both ?l_law_both ?c_law_both ?k_law_both ?a_law_lack ?l_law_lack ?c_law_lack ?k_law_lack ?a_law_could ?l_law_could ?c_law_could ?k_law_could ?a_law_parsed ?l_law_parsed ?c_law_parsed ?k_law_parsed ?a_law_changed_holds ?l_law_changed_holds ?c_law_changed_holds ?k_law_changed_holds ?a_law ?l_law ?c_law ?k_law ?a_BadBits_init ?l_BadBits_init ?c_BadBits_init ?k_BadBits_init ?a_BadFormat_init ?l_BadFormat_init ?c_BadFormat_init ?k_BadFormat_init ?a_BadWay_init ?l_BadWay_init ?c_BadWay_init ?k_BadWay_init ?a_Left_init ?l_Left_init ?c_Left_init ?k_Left_init ?a_TooFew_init ?l_TooFew_init ?c_TooFew_init ?k_TooFew_init ?i_Format ?pg_Format ?hd_Format ?po_Format ?sa_Format ?mk_Format ?kc_Format ?ha_Format ?hn_Format ?ht_Format ?hm_Format ?na_by_word ?na_coded_words ?na_copy_list ?na_heads ?na_letters ?na_longest ?na_order ?na_prices ?na_window ?xL_BadBits ?sa_BadBits ?ga_BadBits ?gg_BadBits ?nf_BadBits ?ti_BadBits ?kc_BadBits ?eC_BadBits ?tC_BadBits ?hC_BadBits ?iC_BadBits ?xL_BadFormat ?sa_BadFormat ?ga_BadFormat ?gg_BadFormat ?nf_BadFormat ?ti_BadFormat ?kc_BadFormat ?eC_BadFormat ?tC_BadFormat ?hC_BadFormat ?iC_BadFormat ?xL_BadWay ?sa_BadWay ?ga_BadWay ?gg_BadWay ?nf_BadWay ?ti_BadWay ?kc_BadWay ?eC_BadWay ?tC_BadWay ?hC_BadWay ?iC_BadWay ?xL_Left ?sa_Left ?ga_Left ?gg_Left ?nf_Left ?ti_Left ?kc_Left ?eC_Left ?tC_Left ?hC_Left ?iC_Left ?xL_TooFew ?sa_TooFew ?ga_TooFew ?gg_TooFew ?nf_TooFew ?ti_TooFew ?kc_TooFew ?eC_TooFew ?tC_TooFew ?hC_TooFew ?iC_TooFew ?xP_NoBits ?kc_NoBits ?eC_NoBits ?tC_NoBits ?iC_NoBits ?sC_BadBits_BadBits ?sC_BadFormat_BadBits ?sC_BadWay_BadBits ?sC_Left_BadBits ?sC_NoBits_BadBits ?sC_TooFew_BadBits ?sC_BadBits_Left ?sC_BadFormat_Left ?sC_BadWay_Left ?sC_Left_Left ?sC_NoBits_Left ?sC_TooFew_Left ?sC_BadBits_NoBits ?sC_BadFormat_NoBits ?sC_BadWay_NoBits ?sC_Left_NoBits ?sC_NoBits_NoBits ?sC_TooFew_NoBits ?sC_BadBits_TooFew ?sC_BadFormat_TooFew ?sC_BadWay_TooFew ?sC_Left_TooFew ?sC_NoBits_TooFew ?sC_TooFew_TooFew ?v_LETTERS ?v_LONGEST_WORD ?v_MOST_COMMANDS ?z_bool ?z_dict ?z_enumerate ?z_int ?z_isinstance ?z_len ?z_list ?z_max ?z_min ?z_range ?z_sorted ?z_str ?z_tuple
    (case n_BadBits => k_is)
    (case n_BadFormat => k_is)
    (case n_BadWay => k_is)
    (case n_Format => k_is)
    (case n_Left => k_is)
    (case n_NoBits => k_is)
    (case n_TooFew => k_is)
    (case a_is_letters => k_is)
    (case l_is_letters => k_is)
    (case c_is_letters => k_is)
    (case k_is_letters => k_is)
    (case a_is_bits => k_is)
    (case l_is_bits => k_is)
    (case c_is_bits => k_is)
    (case k_is_bits => k_is)
    (case a_is_integer => k_is)
    (case l_is_integer => k_is)
    (case c_is_integer => k_is)
    (case k_is_integer => k_is)
    (case a_is_copy => k_is)
    (case l_is_copy => k_is)
    (case c_is_copy => k_is)
    (case k_is_copy => k_is)
    (case a_is_letter => k_is)
    (case l_is_letter => k_is)
    (case c_is_letter => k_is)
    (case k_is_letter => k_is)
    (case a_has_keys => k_is)
    (case l_has_keys => k_is)
    (case c_has_keys => k_is)
    (case k_has_keys => k_is)
    (case a_are_words => k_is)
    (case l_are_words => k_is)
    (case c_are_words => k_is)
    (case k_are_words => k_is)
    (case a_in_order => k_is)
    (case l_in_order => k_is)
    (case c_in_order => k_is)
    (case k_in_order => k_is)
    (case a_needed => k_is)
    (case l_needed => k_is)
    (case c_needed => k_is)
    (case k_needed => k_is)
    (case a_reach => k_is)
    (case l_reach => k_is)
    (case c_reach => k_is)
    (case k_reach => k_is)
    (case a_heads_of => k_is)
    (case l_heads_of => k_is)
    (case c_heads_of => k_is)
    (case k_heads_of => k_is)
    (case a_Format_init => k_is)
    (case l_Format_init => k_is)
    (case c_Format_init => k_is)
    (case k_Format_init => k_is)
    (case a_Format_has => k_is)
    (case i_Format_has => k_is)
    (case l_Format_has => k_is)
    (case c_Format_has => k_is)
    (case k_Format_has => k_is)
    (case a_check_way => k_is)
    (case l_check_way => k_is)
    (case c_check_way => k_is)
    (case k_check_way => k_is)
    (case a_written => k_is)
    (case l_written => k_is)
    (case c_written => k_is)
    (case k_written => k_is)
    (case a_law_start => k_is)
    (case l_law_start => k_is)
    (case c_law_start => k_is)
    (case k_law_start => k_is)
    (case a_law_pull => k_is)
    (case l_law_pull => k_is)
    (case c_law_pull => k_is)
    (case k_law_pull => k_is)
    (case a_law_alphabet => k_is)
    (case l_law_alphabet => k_is)
    (case c_law_alphabet => k_is)
    (case k_law_alphabet => k_is)
    (case a_law_copies => k_is)
    (case l_law_copies => k_is)
    (case c_law_copies => k_is)
    (case k_law_copies => k_is)
    (case a_law_leaves => k_is)
    (case l_law_leaves => k_is)
    (case c_law_leaves => k_is)
    (case k_law_leaves => k_is)
    (case a_law_plain => k_is)
    (case l_law_plain => k_is)
    (case c_law_plain => k_is)
    (case k_law_plain => k_is)
    (case a_law_way => k_is)
    (case l_law_way => k_is)
    (case c_law_way => k_is)
    (case k_law_way => k_is)
    (case a_law_copied => k_is)
    (case l_law_copied => k_is)
    (case c_law_copied => k_is)
    (case k_law_copied => k_is)
    (case a_law_is_int => k_is)
    (case l_law_is_int => k_is)
    (case c_law_is_int => k_is)
    (case k_law_is_int => k_is)
    (case a_law_same => k_is)
    (case l_law_same => k_is)
    (case c_law_same => k_is)
    (case k_law_same => k_is)
    (case a_law_put => k_is)
    (case l_law_put => k_is)
    (case c_law_put => k_is)
    (case k_law_put => k_is)
    (case a_can_come => k_is)
    (case l_can_come => k_is)
    (case c_can_come => k_is)
    (case k_can_come => k_is)
    (case a_least_due => k_is)
    (case l_least_due => k_is)
    (case c_least_due => k_is)
    (case k_least_due => k_is)
    (case a_read => k_is)
    (case l_read => k_is)
    (case c_read => k_is)
    (case k_read => k_is)
    (case a_put_by => k_is)
    (case l_put_by => k_is)
    (case c_put_by => k_is)
    (case k_put_by => k_is)
    (case a_spread => k_is)
    (case l_spread => k_is)
    (case c_spread => k_is)
    (case k_spread => k_is)
    (case a_text_of => k_is)
    (case l_text_of => k_is)
    (case c_text_of => k_is)
    (case k_text_of => k_is)
    (case a_law_read => k_is)
    (case l_law_read => k_is)
    (case c_law_read => k_is)
    (case k_law_read => k_is)
    (case a_law_both => k_is)
    (case l_law_both => k_is)
    (case c_law_both => k_is)
    (case k_law_both => k_is)
    (case a_law_lack => k_is)
    (case l_law_lack => k_is)
    (case c_law_lack => k_is)
    (case k_law_lack => k_is)
    (case a_law_could => k_is)
    (case l_law_could => k_is)
    (case c_law_could => k_is)
    (case k_law_could => k_is)
    (case a_law_parsed => k_is)
    (case l_law_parsed => k_is)
    (case c_law_parsed => k_is)
    (case k_law_parsed => k_is)
    (case a_law_changed_holds => k_is)
    (case l_law_changed_holds => k_is)
    (case c_law_changed_holds => k_is)
    (case k_law_changed_holds => k_is)
    (case a_law => k_is)
    (case l_law => k_is)
    (case c_law => k_is)
    (case k_law => k_is)
    (case a_BadBits_init => k_is)
    (case l_BadBits_init => k_is)
    (case c_BadBits_init => k_is)
    (case k_BadBits_init => k_is)
    (case a_BadFormat_init => k_is)
    (case l_BadFormat_init => k_is)
    (case c_BadFormat_init => k_is)
    (case k_BadFormat_init => k_is)
    (case a_BadWay_init => k_is)
    (case l_BadWay_init => k_is)
    (case c_BadWay_init => k_is)
    (case k_BadWay_init => k_is)
    (case a_Left_init => k_is)
    (case l_Left_init => k_is)
    (case c_Left_init => k_is)
    (case k_Left_init => k_is)
    (case a_TooFew_init => k_is)
    (case l_TooFew_init => k_is)
    (case c_TooFew_init => k_is)
    (case k_TooFew_init => k_is)
    (case i_Format => k_is)
    (case pg_Format => k_is)
    (case hd_Format => k_is)
    (case po_Format => k_is)
    (case sa_Format => k_is)
    (case mk_Format => k_is)
    (case kc_Format => k_is)
    (case ha_Format => k_is)
    (case hn_Format => k_is)
    (case ht_Format => k_is)
    (case hm_Format => k_is)
    (case na_by_word => k_is)
    (case na_coded_words => k_is)
    (case na_copy_list => k_is)
    (case na_heads => k_is)
    (case na_letters => k_is)
    (case na_longest => k_is)
    (case na_order => k_is)
    (case na_prices => k_is)
    (case na_window => k_is)
    (case xL_BadBits => k_is)
    (case sa_BadBits => k_is)
    (case ga_BadBits => k_is)
    (case gg_BadBits => k_is)
    (case nf_BadBits => k_is)
    (case ti_BadBits => k_is)
    (case kc_BadBits => k_is)
    (case eC_BadBits => k_is)
    (case tC_BadBits => k_is)
    (case hC_BadBits => k_is)
    (case iC_BadBits => k_is)
    (case xL_BadFormat => k_is)
    (case sa_BadFormat => k_is)
    (case ga_BadFormat => k_is)
    (case gg_BadFormat => k_is)
    (case nf_BadFormat => k_is)
    (case ti_BadFormat => k_is)
    (case kc_BadFormat => k_is)
    (case eC_BadFormat => k_is)
    (case tC_BadFormat => k_is)
    (case hC_BadFormat => k_is)
    (case iC_BadFormat => k_is)
    (case xL_BadWay => k_is)
    (case sa_BadWay => k_is)
    (case ga_BadWay => k_is)
    (case gg_BadWay => k_is)
    (case nf_BadWay => k_is)
    (case ti_BadWay => k_is)
    (case kc_BadWay => k_is)
    (case eC_BadWay => k_is)
    (case tC_BadWay => k_is)
    (case hC_BadWay => k_is)
    (case iC_BadWay => k_is)
    (case xL_Left => k_is)
    (case sa_Left => k_is)
    (case ga_Left => k_is)
    (case gg_Left => k_is)
    (case nf_Left => k_is)
    (case ti_Left => k_is)
    (case kc_Left => k_is)
    (case eC_Left => k_is)
    (case tC_Left => k_is)
    (case hC_Left => k_is)
    (case iC_Left => k_is)
    (case xL_TooFew => k_is)
    (case sa_TooFew => k_is)
    (case ga_TooFew => k_is)
    (case gg_TooFew => k_is)
    (case nf_TooFew => k_is)
    (case ti_TooFew => k_is)
    (case kc_TooFew => k_is)
    (case eC_TooFew => k_is)
    (case tC_TooFew => k_is)
    (case hC_TooFew => k_is)
    (case iC_TooFew => k_is)
    (case xP_NoBits => k_exc)
    (case kc_NoBits => k_is)
    (case eC_NoBits => k_is)
    (case tC_NoBits => k_is)
    (case iC_NoBits => k_is)
    (case sC_BadBits_BadBits => first | rfl | k_is)
    (case sC_BadFormat_BadBits => first | rfl | k_is)
    (case sC_BadWay_BadBits => first | rfl | k_is)
    (case sC_Left_BadBits => first | rfl | k_is)
    (case sC_NoBits_BadBits => first | rfl | k_is)
    (case sC_TooFew_BadBits => first | rfl | k_is)
    (case sC_BadBits_Left => first | rfl | k_is)
    (case sC_BadFormat_Left => first | rfl | k_is)
    (case sC_BadWay_Left => first | rfl | k_is)
    (case sC_Left_Left => first | rfl | k_is)
    (case sC_NoBits_Left => first | rfl | k_is)
    (case sC_TooFew_Left => first | rfl | k_is)
    (case sC_BadBits_NoBits => first | rfl | k_is)
    (case sC_BadFormat_NoBits => first | rfl | k_is)
    (case sC_BadWay_NoBits => first | rfl | k_is)
    (case sC_Left_NoBits => first | rfl | k_is)
    (case sC_NoBits_NoBits => first | rfl | k_is)
    (case sC_TooFew_NoBits => first | rfl | k_is)
    (case sC_BadBits_TooFew => first | rfl | k_is)
    (case sC_BadFormat_TooFew => first | rfl | k_is)
    (case sC_BadWay_TooFew => first | rfl | k_is)
    (case sC_Left_TooFew => first | rfl | k_is)
    (case sC_NoBits_TooFew => first | rfl | k_is)
    (case sC_TooFew_TooFew => first | rfl | k_is)
    (case v_LETTERS => k_is)
    (case v_LONGEST_WORD => k_is)
    (case v_MOST_COMMANDS => k_is)
    (case z_bool => k_is)
    (case z_dict => k_is)
    (case z_enumerate => k_is)
    (case z_int => k_is)
    (case z_isinstance => k_is)
    (case z_len => k_is)
    (case z_list => k_is)
    (case z_max => k_is)
    (case z_min => k_is)
    (case z_range => k_is)
    (case z_sorted => k_is)
    (case z_str => k_is)
    (case z_tuple => k_is)
