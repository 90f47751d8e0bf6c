import PyProof.Rows.All
import Wide.All
import OpenK.AllK
import Wide.FinOn
import HandS.ForMost
import HandS.ForExc
import KE.KeyNested
import PyProof.ToksMono
import HandS.TupAny
import HandS.TupMul
import HandS.Style
import HandS.Deep
import HandS.IsInst
import HandS.Replace
import HandS.ReplaceLit
import HandS.TryMany
import HandS.ReplaceDef
import HandS.ExcOwn
import KE.GoesZip
import KE.GoesEnum
import KE.GoesMore
import HandS.Comp
import PyProof.SetRoads
import PyProof.Rows.SetFrom
import HandS.SetTxtIn
import HandS.Codes
import HandS.Words
import HandS.Defaults
import HandS.Head0
import HandS.Head1
import HandS.Head2
import HandS.HeadEnd
import HandS.HeadHook1
import HandS.HeadHook2
import HandS.HeadHook4
import PyProof.ExcBaseAll.ValueError
import KE.KStateDown
import PySem.Challenge.RW_cleanordirty_k11_what_deeds_do
/-! Dn1 -/
set_option Elab.async false
set_option linter.all false
set_option maxRecDepth 100000
set_option maxHeartbeats 1000000
namespace Dn
open PySem PySem.Spec PyProof.Rows L2

/-! ### values -/
inductive D where
  | non | bl (b : Bool) | int (i : Int) | str (s : Str) | tup (l : List D) | lst (l : List D) | dct (l : List (D × D)) | ref (n : Nat)
  deriving Inhabited

mutual
/-- a value as a key, up to == -/
def keyOf : D → Option NestedKey
  | .non => some .none
  | .bl b => some (.num (if b then 1 else 0))
  | .int i => some (.num i)
  | .str s => some (.text s)
  | .tup l => match keysOf l with | some ks => some (.tup ks) | none => none
  | _ => none
def keysOf : List D → Option (List NestedKey)
  | [] => some []
  | d :: l => match keyOf d, keysOf l with
    | some k, some ks => some (k :: ks)
    | _, _ => none
end

/-- the module: what is written, the world, the module's names -/
structure Gm where
  K : PySem.W.Frag
  w : World
  mg : Str → Option Value

/-- the ghost: frozen addresses, the addresses of the store's objects -/
structure Gh where
  F : Addr → Prop
  ρ : List Addr

def KTup (K : PySem.W.Frag) (a : Addr) (xs : List V) : Prop := ∃ (o : Obj) (its : Array Value) (n : Nat), K.lookup a = some o ∧ o.cls = .type "tuple" ∧ o.data = .seq its n ∧ its.size ≤ sizeLine ∧ Vals xs its.toList
def KLst (K : PySem.W.Frag) (a : Addr) (xs : List V) : Prop := ∃ (o : Obj) (its : Array Value) (n : Nat), K.lookup a = some o ∧ o.cls = .type "list" ∧ o.dict = none ∧ o.data = .seq its n ∧ its.size ≤ sizeLine ∧ Vals xs its.toList
def KDct (K : PySem.W.Frag) (a : Addr) (es : List DictEntry) : Prop := ∃ (ep : Nat), K.lookup a = some { cls := .type "dict", data := .dict es.toArray ep }
/-- a dict's object -/
def DRaw (a : Addr) (es : List DictEntry) : Heap → Prop := fun h => ∃ ep, h.get? a = some { cls := .type "dict", data := .dict es.toArray ep }
def TupAt (G : Gm) (g : Gh) (H : Hp) (a : Addr) (xs : List V) : Prop := (g.F a ∧ Rd H a (.tup xs)) ∨ KTup G.K a xs
def LstAt (G : Gm) (g : Gh) (H : Hp) (a : Addr) (xs : List V) : Prop := (g.F a ∧ Rd H a (.lst xs)) ∨ KLst G.K a xs
def DctAt (G : Gm) (g : Gh) (H : Hp) (a : Addr) (es : List DictEntry) : Prop := (g.F a ∧ es.length ≤ sizeLine ∧ H a = some (.ext (DRaw a es))) ∨ KDct G.K a es
/-- a dict with texts as keys, or an empty one -/
def DkAt (g : Gh) (H : Hp) (a : Addr) (kvs : List (Key × V)) : Prop := g.F a ∧ H a = some (.dK kvs)
theorem TupAt.sq {G : Gm} {g : Gh} {H : Hp} {a : Addr} {xs : List V} (h : TupAt G g H a xs) : SqT G.K H a xs := by
  rcases h with ⟨_, h⟩ | h
  · exact .inl h
  · exact .inr h
theorem LstAt.sq {G : Gm} {g : Gh} {H : Hp} {a : Addr} {xs : List V} (h : LstAt G g H a xs) : SqL G.K H a xs := by
  rcases h with ⟨_, h⟩ | h
  · exact .inl h
  · exact .inr h

mutual
/-- the value v is d -/
def Rep (G : Gm) (g : Gh) (H : Hp) : D → V → Prop
  | .non, v => v = .non
  | .bl b, v => v = .bl b
  | .int i, v => v = .int i
  | .str s, v => v = .str s
  | .tup l, v => ∃ a xs, v = .ref a ∧ TupAt G g H a xs ∧ Reps G g H l xs
  | .lst l, v => ∃ a xs, v = .ref a ∧ LstAt G g H a xs ∧ Reps G g H l xs
  | .dct l, v => ∃ a es kvs, v = .ref a ∧ ((DctAt G g H a es ∧ RepE G g H l es) ∨ (DkAt g H a kvs ∧ RepK G g H l kvs))
  | .ref n, v => ∃ a, v = .ref a ∧ g.ρ[n]? = some a
def Reps (G : Gm) (g : Gh) (H : Hp) : List D → List V → Prop
  | [], xs => xs = []
  | d :: l, xs => ∃ x r, xs = x :: r ∧ Rep G g H d x ∧ Reps G g H l r
def RepK (G : Gm) (g : Gh) (H : Hp) : List (D × D) → List (Key × V) → Prop
  | [], xs => xs = []
  | (k, d) :: l, xs => ∃ z y r, k = .str z ∧ xs = (.inr z, y) :: r ∧ Rep G g H d y ∧ RepK G g H l r
def RepE (G : Gm) (g : Gh) (H : Hp) : List (D × D) → List DictEntry → Prop
  | [], xs => xs = []
  | (k, d) :: l, xs => ∃ e r x y n, xs = e :: r ∧ Rep G g H k x ∧ RelV x e.key ∧ Rep G g H d y ∧ RelV y e.val ∧ keyOf k = some n ∧ e.hash = n.hash G.w ∧ RepE G g H l r ∧ ∃ ks, k = .tup ks
end

/-- what is known stays known -/
structure MonoG (g : Gh) (H : Hp) (g' : Gh) (H' : Hp) : Prop where
  F : ∀ a, g.F a → g'.F a
  H : ∀ a o, g.F a → H a = some o → H' a = some o
  ρ : ∀ (n : Nat) a, g.ρ[n]? = some a → g'.ρ[n]? = some a
theorem MonoG.refl {g : Gh} {H : Hp} : MonoG g H g H := ⟨fun _ h => h, fun _ _ _ h => h, fun _ _ h => h⟩
theorem MonoG.trans {g g' g'' : Gh} {H H' H'' : Hp} (a : MonoG g H g' H') (b : MonoG g' H' g'' H'') : MonoG g H g'' H'' :=
  ⟨fun x h => b.F x (a.F x h), fun x o h e => b.H x o (a.F x h) (a.H x o h e), fun n x h => b.ρ n x (a.ρ n x h)⟩

section
variable {G : Gm} {g g' : Gh} {H H' : Hp} {a : Addr} {xs : List V}
theorem Rd.mono (m : MonoG g H g' H') (f : g.F a) {u : HO} (h : Rd H a u) : Rd H' a u := by
  rcases h with h | ⟨o, h⟩
  · exact .inl (m.H _ _ f h)
  · exact .inr ⟨o, m.H _ _ f h⟩
theorem TupAt.mono (m : MonoG g H g' H') (h : TupAt G g H a xs) : TupAt G g' H' a xs := by
  rcases h with ⟨f, h⟩ | h
  · exact .inl ⟨m.F _ f, Rd.mono m f h⟩
  · exact .inr h
theorem LstAt.mono (m : MonoG g H g' H') (h : LstAt G g H a xs) : LstAt G g' H' a xs := by
  rcases h with ⟨f, h⟩ | h
  · exact .inl ⟨m.F _ f, Rd.mono m f h⟩
  · exact .inr h
theorem DctAt.mono {es : List DictEntry} (m : MonoG g H g' H') (h : DctAt G g H a es) : DctAt G g' H' a es := by
  rcases h with ⟨f, z, h⟩ | h
  · exact .inl ⟨m.F _ f, z, m.H _ _ f h⟩
  · exact .inr h
mutual
theorem Rep.mono (m : MonoG g H g' H') : ∀ {d : D} {v : V}, Rep G g H d v → Rep G g' H' d v
  | .non, _, h => h
  | .bl _, _, h => h
  | .int _, _, h => h
  | .str _, _, h => h
  | .tup l, _, h => by
    obtain ⟨a, xs, e, t, r⟩ := h
    exact ⟨a, xs, e, t.mono m, Reps.mono m r⟩
  | .lst l, _, h => by
    obtain ⟨a, xs, e, t, r⟩ := h
    exact ⟨a, xs, e, t.mono m, Reps.mono m r⟩
  | .dct l, _, h => by
    obtain ⟨a, xs, ys, e, t⟩ := h
    refine ⟨a, xs, ys, e, ?_⟩
    rcases t with ⟨t, r⟩ | ⟨t, r⟩
    · exact .inl ⟨t.mono m, RepE.mono m r⟩
    · exact .inr ⟨⟨m.F _ t.1, m.H _ _ t.1 t.2⟩, RepK.mono m r⟩
  | .ref n, _, h => by
    obtain ⟨a, e, t⟩ := h
    exact ⟨a, e, m.ρ _ _ t⟩
theorem Reps.mono (m : MonoG g H g' H') : ∀ {l : List D} {xs : List V}, Reps G g H l xs → Reps G g' H' l xs
  | [], _, h => h
  | d :: l, _, h => by
    obtain ⟨x, r, e, h1, h2⟩ := h
    exact ⟨x, r, e, Rep.mono m h1, Reps.mono m h2⟩
theorem RepK.mono (m : MonoG g H g' H') : ∀ {l : List (D × D)} {es : List (Key × V)}, RepK G g H l es → RepK G g' H' l es
  | [], _, h => h
  | (k, d) :: l, _, h => by
    obtain ⟨z, y, r, h0, h1, h2, h3⟩ := h
    exact ⟨z, y, r, h0, h1, Rep.mono m h2, RepK.mono m h3⟩
theorem RepE.mono (m : MonoG g H g' H') : ∀ {l : List (D × D)} {es : List DictEntry}, RepE G g H l es → RepE G g' H' l es
  | [], _, h => h
  | (k, d) :: l, _, h => by
    obtain ⟨e, r, x, y, n, h0, h1, h2, h3, h4, h5, h6, h7, h8⟩ := h
    exact ⟨e, r, x, y, n, h0, Rep.mono m h1, h2, Rep.mono m h3, h4, h5, h6, RepE.mono m h7, h8⟩
end
theorem Reps.length : ∀ {l : List D} {xs : List V}, Reps G g H l xs → xs.length = l.length
  | [], _, h => by cases h; rfl
  | d :: l, _, h => by
    obtain ⟨x, r, rfl, h1, h2⟩ := h
    simp [Reps.length h2]
theorem Reps.get : ∀ {l : List D} {xs : List V} {i : Nat} {d : D}, Reps G g H l xs → l[i]? = some d → ∃ x, xs[i]? = some x ∧ Rep G g H d x
  | [], _, _, _, _, e => by simp at e
  | d :: l, _, 0, _, h, e => by
    obtain ⟨x, r, rfl, h1, h2⟩ := h
    simp at e; subst e
    exact ⟨x, rfl, h1⟩
  | d :: l, _, i + 1, d', h, e => by
    obtain ⟨x, r, rfl, h1, h2⟩ := h
    obtain ⟨y, a, b⟩ := Reps.get (i := i) h2 (by simpa using e)
    exact ⟨y, by simpa using a, b⟩
theorem Reps.append : ∀ {l m : List D} {xs ys : List V}, Reps G g H l xs → Reps G g H m ys → Reps G g H (l ++ m) (xs ++ ys)
  | [], _, _, _, h, h' => by cases h; exact h'
  | d :: l, _, _, _, h, h' => by
    obtain ⟨x, r, rfl, h1, h2⟩ := h
    exact ⟨x, _, rfl, h1, Reps.append h2 h'⟩
theorem Reps.one {d : D} {x : V} (h : Rep G g H d x) : Reps G g H [d] [x] := ⟨x, [], rfl, h, rfl⟩
theorem Reps.take : ∀ {l : List D} {xs : List V} (n : Nat), Reps G g H l xs → Reps G g H (l.take n) (xs.take n)
  | _, _, 0, _ => by simp [Reps]
  | [], _, n + 1, h => by cases h; simp [Reps]
  | d :: l, _, n + 1, h => by
    obtain ⟨x, r, rfl, h1, h2⟩ := h
    exact ⟨x, _, rfl, h1, Reps.take n h2⟩
theorem Reps.drop : ∀ {l : List D} {xs : List V} (n : Nat), Reps G g H l xs → Reps G g H (l.drop n) (xs.drop n)
  | _, _, 0, h => by simpa using h
  | [], _, n + 1, h => by cases h; simp [Reps]
  | d :: l, _, n + 1, h => by
    obtain ⟨x, r, rfl, h1, h2⟩ := h
    simpa using Reps.drop n h2
theorem Reps.set : ∀ {l : List D} {xs : List V} (n : Nat) {d : D} {x : V}, Reps G g H l xs → Rep G g H d x → Reps G g H (l.set n d) (xs.set n x)
  | [], _, _, _, _, h, _ => by cases h; simp [Reps]
  | d :: l, _, 0, _, _, h, h' => by
    obtain ⟨x, r, rfl, h1, h2⟩ := h
    exact ⟨_, _, rfl, h', h2⟩
  | d :: l, _, n + 1, _, _, h, h' => by
    obtain ⟨x, r, rfl, h1, h2⟩ := h
    exact ⟨_, _, rfl, h1, Reps.set n h2 h'⟩
theorem Reps.reverse : ∀ {l : List D} {xs : List V}, Reps G g H l xs → Reps G g H l.reverse xs.reverse
  | [], _, h => by cases h; simp [Reps]
  | d :: l, _, h => by
    obtain ⟨x, r, rfl, h1, h2⟩ := h
    simp only [List.reverse_cons]
    exact Reps.append (Reps.reverse h2) (Reps.one h1)
end

/-! ### states, results -/
inductive Slot where
  | un | val (d : D) | own (d : D)
  deriving Inhabited
/-- an object of the store -/
inductive SO where
  | lst (l : List D) | ins (C : Str) (fs : List (Str × D))
  deriving Inhabited
structure S where
  env : List Slot
  st : List SO
structure Exc where
  cls : Str
  fld : Option (Str × D)
inductive Res (α : Type) where
  | ok (a : α) (s : S) | exc (x : Exc) (s : S) | stuck
abbrev M (α : Type) := S → Res α
/-- an expression's result: a value; a thing lent (read, not kept); a new one -/
inductive R where
  | val (d : D) | tmp (d : D) | own (d : D)
  deriving Inhabited
def R.d : R → D
  | .val d => d
  | .tmp d => d
  | .own d => d
def Res.bind {α β : Type} : Res α → (α → M β) → Res β
  | .ok a s, k => k a s
  | .exc x s, _ => .exc x s
  | .stuck, _ => .stuck
def bindM {α β : Type} (f : M α) (k : α → M β) : M β := fun s => (f s).bind k
def retM {α : Type} (a : α) : M α := fun s => .ok a s
def stuckM {α : Type} : M α := fun _ => .stuck

/-- at the entry of the def that runs -/
structure Ent where
  F : Addr → Prop
  ρ : List Addr
  H : Hp

/-- a list, a dict of one's own at a -/
def OwnAt (G : Gm) (g : Gh) (H : Hp) (a : Addr) : D → Prop
  | .lst l => ∃ xs, H a = some (.lst xs) ∧ Reps G g H l xs
  | .dct l => ∃ es kvs, (es.length ≤ sizeLine ∧ H a = some (.ext (DRaw a es)) ∧ RepE G g H l es) ∨ (H a = some (.dK kvs) ∧ RepK G g H l kvs)
  | _ => False
/-- what of a lent thing may be read -/
def TmpAt (G : Gm) (g : Gh) (H : Hp) (a : Addr) (d : D) : Prop := OwnAt G g H a d
def FldsAt (G : Gm) (g : Gh) (H : Hp) : List (Str × D) → List (Str × V) → Prop
  | [], xs => xs = []
  | (f, d) :: l, xs => ∃ x r, xs = (f, x) :: r ∧ Rep G g H d x ∧ FldsAt G g H l r
def SOAt (G : Gm) (g : Gh) (H : Hp) (a : Addr) : SO → Prop
  | .lst l => ∃ xs, H a = some (.lst xs) ∧ Reps G g H l xs
  | .ins C fs => ∃ c dx vs, G.mg C = some (.ref c) ∧ H a = some (.ins c dx vs) ∧ FldsAt G g H fs vs
theorem FldsAt.mono {G : Gm} {g g' : Gh} {H H' : Hp} (m : MonoG g H g' H') : ∀ {l : List (Str × D)} {xs : List (Str × V)}, FldsAt G g H l xs → FldsAt G g' H' l xs
  | [], _, h => h
  | (f, d) :: l, _, h => by
    obtain ⟨x, r, e, h1, h2⟩ := h
    exact ⟨x, r, e, h1.mono m, FldsAt.mono m h2⟩

def OwnedAt (env : List Slot) (σ : L2.St) (a : Addr) : Prop := ∃ (i : Nat) (d : D), env[i]? = some (.own d) ∧ σ[i]? = some (some (.ref a))

/-- the state is told -/
structure Sim (G : Gm) (e : Ent) (g : Gh) (σ : L2.St) (H : Hp) (env : List Slot) (st : List SO) : Prop where
  keep : ∀ a o, e.H a = some o → a ∉ e.ρ → H a = some o
  fNew : ∀ a, g.F a → e.F a ∨ e.H a = none
  fOld : ∀ a, e.F a → g.F a
  ρx : ∃ more, g.ρ = e.ρ ++ more ∧ ∀ a ∈ more, e.H a = none
  ρnd : g.ρ.Nodup
  ρF : ∀ a ∈ g.ρ, ¬ g.F a
  fIn : ∀ a, g.F a → H a ≠ none
  len : env.length = σ.length
  val : ∀ (i : Nat) (d : D), env[i]? = some (.val d) → ∃ v, σ[i]? = some (some v) ∧ Rep G g H d v
  own : ∀ (i : Nat) (d : D), env[i]? = some (.own d) → ∃ a, σ[i]? = some (some (.ref a)) ∧ OwnAt G g H a d ∧ ¬ g.F a ∧ a ∉ g.ρ ∧ e.H a = none
  ownNe : ∀ (i j : Nat) (d d' : D) (a : Addr), i ≠ j → env[i]? = some (.own d) → env[j]? = some (.own d') → σ[i]? = some (some (.ref a)) → σ[j]? ≠ some (some (.ref a))
  slen : st.length = g.ρ.length
  sto : ∀ (n : Nat) o a, st[n]? = some o → g.ρ[n]? = some a → SOAt G g H a o

/-- an expression's step -/
structure Step (σ : L2.St) (g : Gh) (H : Hp) (env : List Slot) (g' : Gh) (H' : Hp) (env' : List Slot) : Prop where
  F : ∀ a, g.F a → g'.F a
  ρ : ∃ more, g'.ρ = g.ρ ++ more ∧ ∀ a ∈ more, H a = none
  keep : ∀ a o, H a = some o → a ∉ g.ρ → H' a = some o
  fnew : ∀ a, g'.F a → g.F a ∨ H a = none ∨ OwnedAt env σ a
  owned : ∀ a, OwnedAt env' σ a → OwnedAt env σ a
theorem Step.refl {σ : L2.St} {g : Gh} {H : Hp} {env : List Slot} : Step σ g H env g H env :=
  ⟨fun _ h => h, ⟨[], by simp, by simp⟩, fun _ _ h _ => h, fun _ h => .inl h, fun _ h => h⟩

section
variable {G : Gm} {e : Ent} {g g' g1 : Gh} {σ : L2.St} {H H' H1 : Hp} {env env' env1 : List Slot} {st st' st1 : List SO}
theorem Sim.mg (S : Sim G e g σ H env st) (x : Step σ g H env g' H' env') : MonoG g H g' H' := by
  refine ⟨x.F, fun a o f h => x.keep a o h fun m => S.ρF a m f, fun n a h => ?_⟩
  obtain ⟨more, e1, _⟩ := x.ρ
  rw [e1, List.getElem?_append_left (List.getElem?_eq_some_iff.mp h).1]
  exact h
theorem Sim.ρIn (S : Sim G e g σ H env st) {a : Addr} (h : a ∈ g.ρ) : H a ≠ none := by
  obtain ⟨n, hn⟩ := List.mem_iff_getElem?.mp h
  have hl : n < st.length := by
    rw [S.slen]
    exact (List.getElem?_eq_some_iff.mp hn).1
  have q := S.sto n st[n] a (by simp [hl]) hn
  intro z
  cases h1 : st[n] with
  | lst l =>
    rw [h1] at q
    obtain ⟨xs, q, _⟩ := q
    rw [z] at q; cases q
  | ins C fs =>
    rw [h1] at q
    obtain ⟨c, dx, vs, _, q, _⟩ := q
    rw [z] at q; cases q
theorem Sim.ownedIn (S : Sim G e g σ H env st) {a : Addr} (h : OwnedAt env σ a) : H a ≠ none ∧ ¬ g.F a ∧ a ∉ g.ρ ∧ e.H a = none := by
  obtain ⟨i, d, h1, h2⟩ := h
  obtain ⟨b, e1, o, h3, h4, h5⟩ := S.own i d h1
  rw [e1] at h2; cases h2
  refine ⟨?_, h3, h4, h5⟩
  cases d with
  | lst l => obtain ⟨xs, q, _⟩ := o; rw [q]; simp
  | dct l =>
    obtain ⟨xs, ys, ⟨_, q, _⟩ | ⟨q, _⟩⟩ := o
    · rw [q]; simp
    · rw [q]; simp
  | _ => exact (o : False).elim
theorem Step.up (S1 : Sim G e g1 σ H1 env1 st1) (x : Step σ g H env g1 H1 env1) {a : Addr} (h : H1 a = none) : H a = none := by
  cases q : H a with
  | none => rfl
  | some o =>
    exfalso
    by_cases z : a ∈ g.ρ
    · obtain ⟨m1, e1, _⟩ := x.ρ
      exact S1.ρIn (by rw [e1]; exact List.mem_append_left _ z) h
    · have q1 := x.keep a o q z
      rw [h] at q1; cases q1
theorem Step.trans (S1 : Sim G e g1 σ H1 env1 st1) (x : Step σ g H env g1 H1 env1) (y : Step σ g1 H1 env1 g' H' env') : Step σ g H env g' H' env' := by
  obtain ⟨m1, e1, n1⟩ := x.ρ
  obtain ⟨m2, e2, n2⟩ := y.ρ
  refine ⟨fun a h => y.F a (x.F a h), ⟨m1 ++ m2, by rw [e2, e1, List.append_assoc], fun a h => ?_⟩, fun a o h z => ?_, fun a h => ?_, fun a h => x.owned a (y.owned a h)⟩
  · rcases List.mem_append.mp h with h | h
    · exact n1 a h
    · exact x.up S1 (n2 a h)
  · have h1 := x.keep a o h z
    refine y.keep a o h1 fun z1 => ?_
    rw [e1] at z1
    rcases List.mem_append.mp z1 with z1 | z1
    · exact z z1
    · have := n1 a z1
      rw [h] at this; cases this
  · rcases y.fnew a h with h | h | h
    · exact x.fnew a h
    · exact .inr (.inl (x.up S1 h))
    · exact .inr (.inr (x.owned a h))
end
end Dn


/-! Dn2 -/
set_option Elab.async false
set_option linter.all false
set_option maxRecDepth 100000
set_option maxHeartbeats 1000000
namespace Dn
open PySem PySem.Spec PyProof.Rows L2

abbrev gm (X : Cx) : Gm := ⟨X.K, X.w, X.mg⟩
def ExcRep (G : Gm) (g : Gh) (H : Hp) (x : Exc) (cls : Value) (d : Option Addr) : Prop :=
  (∃ a, G.mg x.cls = some (.ref a) ∧ cls = .ref a) ∧ match x.fld with
    | none => d = none
    | some (f, v) => ∃ dd vv, d = some dd ∧ g.F dd ∧ H dd = some (.xd [(f, vv)]) ∧ Rep G g H v vv
/-- new since the start, or owned there -/
abbrev New (H : Hp) (env : List Slot) (σ : L2.St) : Addr → Prop := fun a => H a = none ∨ OwnedAt env σ a
abbrev RelT (α β : Type) := (Addr → Prop) → Ent → Gh → L2.St → Hp → List Slot → Gm → α → β → Prop
def RRep (N : Addr → Prop) (e : Ent) (g : Gh) (σ : L2.St) (H : Hp) (env : List Slot) (G : Gm) : R → V → Prop
  | .val d, v => Rep G g H d v
  | .tmp d, v => ∃ a, v = .ref a ∧ OwnAt G g H a d ∧ a ∉ g.ρ
  | .own d, v => ∃ a, v = .ref a ∧ OwnAt G g H a d ∧ a ∉ g.ρ ∧ ¬ g.F a ∧ ¬ OwnedAt env σ a ∧ e.H a = none ∧ N a
def relV : RelT R Value := fun N e g σ H env G r u => ∃ v, RelV v u ∧ RRep N e g σ H env G r v
def relD : RelT D Value := fun _ _ g _ H _ G d u => ∃ v, RelV v u ∧ Rep G g H d v
def relL : RelT (List D) (List Value) := fun _ _ g _ H _ G d u => ∃ v, Vals v u ∧ Reps G g H d v
def relB : RelT Bool Bool := fun _ _ _ _ _ _ _ b c => b = c
class Up {α β : Type} (rel : RelT α β) : Prop where
  up : ∀ {N N' : Addr → Prop} {e g σ H env G r u}, (∀ a, N a → N' a) → rel N e g σ H env G r u → rel N' e g σ H env G r u
theorem RRep.up {N N' : Addr → Prop} {e g σ H env G v} (h : ∀ a, N a → N' a) : ∀ {r : R}, RRep N e g σ H env G r v → RRep N' e g σ H env G r v
  | .val d, q => q
  | .tmp d, q => q
  | .own d, ⟨a, h1, h2, h3, h4, h5, h6, h7⟩ => ⟨a, h1, h2, h3, h4, h5, h6, h a h7⟩
instance : Up relV := ⟨fun h ⟨v, r, q⟩ => ⟨v, r, q.up h⟩⟩
instance : Up relD := ⟨fun h q => q⟩
instance : Up relL := ⟨fun h q => q⟩
instance : Up relB := ⟨fun h q => q⟩

/-- the hand layer's invariant, and a token is out -/
structure Iv (X : Cx) (pins : List (Addr × Obj)) (σ : L2.St) (H : Hp) (s : Shared) : Prop where
  i : Inv X pins σ H s
  t : 0 < s.toks
theorem tkn {α : Type} {M : Model} {A : Around} {t : Sem α} {Q Q' : α → Shared → Prop} {E : Value → Shared → Prop} {s : Shared} (h0 : 0 < s.toks) (h : wpAny M A t Q E s) (k : ∀ a s', 0 < s'.toks → Q a s' → Q' a s') : wpAny M A t Q' E s :=
  wpAny_mono (wpAny_toks_of h0 h) (fun a s' x => k a s' x.1 x.2) fun _ _ x => x.2
def Wish (X : Cx) (W : WX) (e : Ent) (g : Gh) (H : Hp) (σ : L2.St) (x : Exc) (s' : S) : Prop := ∀ cls d g' H', Sim (gm X) e g' σ H' s'.env s'.st → ExcRep (gm X) g' H' x cls d → MonoG g H g' H' → W cls d σ H'
theorem mono_of {G : Gm} {e : Ent} {g g1 : Gh} {σ : L2.St} {H H1 : Hp} {env env1 : List Slot} {st1 : List SO} (S1 : Sim G e g1 σ H1 env1 st1) (x : Step σ g H env g1 H1 env1) : MonoG g H g1 H1 := by
  obtain ⟨more, e1, _⟩ := x.ρ
  refine ⟨x.F, fun a o f h => x.keep a o h fun m => S1.ρF a (by rw [e1]; exact List.mem_append_left _ m) (x.F a f), fun n a h => ?_⟩
  rw [e1, List.getElem?_append_left (List.getElem?_eq_some_iff.mp h).1]
  exact h
theorem Wish.on {X : Cx} {W : WX} {e : Ent} {g g1 : Gh} {H H1 : Hp} {σ : L2.St} {env env1 : List Slot} {st1 : List SO} {x : Exc} {s' : S} (S1 : Sim (gm X) e g1 σ H1 env1 st1) (st : Step σ g H env g1 H1 env1) (w : Wish X W e g H σ x s') : Wish X W e g1 H1 σ x s' :=
  fun cls d g' H' S er m => w cls d g' H' S er ((mono_of S1 st).trans m)
def Done {α β : Type} (X : Cx) (pins : List (Addr × Obj)) (σ : L2.St) (e : Ent) (g : Gh) (H : Hp) (env : List Slot) (rel : RelT α β) (r : α) (s' : S) (u : β) (s1 : Shared) : Prop :=
  ∃ g1 H1, Iv X pins σ H1 s1 ∧ Sim (gm X) e g1 σ H1 s'.env s'.st ∧ Step σ g H env g1 H1 s'.env ∧ rel (New H env σ) e g1 σ H1 s'.env (gm X) r u
def EndOk {α β : Type} (X : Cx) (pins : List (Addr × Obj)) (σ : L2.St) (e : Ent) (g : Gh) (H : Hp) (env : List Slot) (rel : RelT α β) (res : Res α) (u : β) (s1 : Shared) : Prop :=
  match res with
  | .ok r s' => Done X pins σ e g H env rel r s' u s1
  | .exc _ _ => False
  | .stuck => True
abbrev Tr (β : Type) := (β → Shared → Prop) → Prop
def WPt {α β : Type} (X : Cx) (W : WX) (pins : List (Addr × Obj)) (σ : L2.St) (e : Ent) (g : Gh) (H : Hp) (env : List Slot) (rel : RelT α β) (res : Res α) (tr : Tr β) : Prop :=
  match res with
  | .ok r s' => tr (Done X pins σ e g H env rel r s')
  | .exc x s' => Wish X W e g H σ x s' → tr fun _ _ => False
  | .stuck => True
class MonoT {β : Type} (tr : Tr β) : Prop where
  mono : ∀ {Q Q' : β → Shared → Prop}, (∀ u s, Q u s → Q' u s) → tr Q → tr Q'
instance {β : Type} {M : Model} {A : Around} {t : Sem β} {E : Value → Shared → Prop} {s : Shared} : MonoT (fun Q => wpAny M A t Q E s) := ⟨fun h x => thn x h⟩

section
variable {α β γ δ : Type} {X : Cx} {W : WX} {pins : List (Addr × Obj)} {σ : L2.St} {e : Ent} {g : Gh} {H : Hp} {env : List Slot} {st : List SO} {rel : RelT α β} {rel2 : RelT γ δ}
theorem WPt.imp {res : Res α} {tr tr' : Tr β} (h : WPt X W pins σ e g H env rel res tr) (hi : ∀ Q, tr Q → tr' Q) : WPt X W pins σ e g H env rel res tr' := by
  cases res with
  | ok r s' => exact hi _ h
  | exc x s' => exact fun w => hi _ (h w)
  | stuck => trivial
theorem WPt.relTo {res : Res α} {tr : Tr β} [MonoT tr] {rel' : RelT α β} (h : WPt X W pins σ e g H env rel res tr) (hi : ∀ e' g' H' env' G r u, rel (New H env σ) e' g' σ H' env' G r u → rel' (New H env σ) e' g' σ H' env' G r u) : WPt X W pins σ e g H env rel' res tr := by
  cases res with
  | ok r s' =>
    refine MonoT.mono (fun u s1 hd => ?_) (show tr _ from h)
    obtain ⟨g1, H1, I1, S1, x1, re⟩ := hd
    exact ⟨g1, H1, I1, S1, x1, hi _ _ _ _ _ _ _ re⟩
  | exc x s' => exact h
  | stuck => trivial
theorem new_up {g1 : Gh} {H1 : Hp} {env1 : List Slot} {st1 : List SO} (S1 : Sim (gm X) e g1 σ H1 env1 st1) (x : Step σ g H env g1 H1 env1) : ∀ a, New H1 env1 σ a → New H env σ a := fun a h => by
  rcases h with h | h
  · exact .inl (x.up S1 h)
  · exact .inr (x.owned a h)
theorem WPt.chain [Up rel2] {res : Res α} {k : α → M γ} {tr1 : Tr β} {tr2 : β → Shared → Tr δ} [MonoT tr1] [hm : ∀ u s, MonoT (tr2 u s)] (h1 : WPt X W pins σ e g H env rel res tr1)
    (h2 : ∀ r s' u s1 g1 H1, res = .ok r s' → Iv X pins σ H1 s1 → Sim (gm X) e g1 σ H1 s'.env s'.st → Step σ g H env g1 H1 s'.env → rel (New H env σ) e g1 σ H1 s'.env (gm X) r u →
      WPt X W pins σ e g1 H1 s'.env rel2 (k r s') (tr2 u s1)) : WPt X W pins σ e g H env rel2 (res.bind k) (fun Q => tr1 fun u s1 => tr2 u s1 Q) := by
  cases res with
  | ok r s' =>
    show WPt X W pins σ e g H env rel2 (k r s') _
    cases q : k r s' with
    | ok r2 s2 =>
      refine MonoT.mono (fun u s1 hd => ?_) (show tr1 _ from h1)
      obtain ⟨g1, H1, I1, S1, x1, re⟩ := hd
      have z := h2 r s' u s1 g1 H1 rfl I1 S1 x1 re
      rw [q] at z
      refine MonoT.mono (fun u2 s2' hd2 => ?_) (show tr2 u s1 _ from z)
      obtain ⟨g2, H2, I2, S2, x2, re2⟩ := hd2
      exact ⟨g2, H2, I2, S2, x1.trans S1 x2, Up.up (new_up S1 x1) re2⟩
    | exc x s2 =>
      intro w
      refine MonoT.mono (fun u s1 hd => ?_) (show tr1 _ from h1)
      obtain ⟨g1, H1, I1, S1, x1, re⟩ := hd
      have z := h2 r s' u s1 g1 H1 rfl I1 S1 x1 re
      rw [q] at z
      exact z (w.on S1 x1)
    | stuck => trivial
  | exc x s' => exact fun w => MonoT.mono (fun _ _ z => z.elim) (h1 w)
  | stuck => trivial
/-- the end of a chain: another result, another ghost -/
theorem WPt.last {res : Res α} {k : α → M γ} {tr : Tr β} [MonoT tr] {rel2 : RelT γ β} (h1 : WPt X W pins σ e g H env rel res tr)
    (h2 : ∀ r s' u s1 g1 H1, res = .ok r s' → Iv X pins σ H1 s1 → Sim (gm X) e g1 σ H1 s'.env s'.st → Step σ g H env g1 H1 s'.env → rel (New H env σ) e g1 σ H1 s'.env (gm X) r u →
      EndOk X pins σ e g H env rel2 (k r s') u s1) : WPt X W pins σ e g H env rel2 (res.bind k) tr := by
  cases res with
  | ok r s' =>
    show WPt X W pins σ e g H env rel2 (k r s') _
    cases q : k r s' with
    | ok r2 s2 =>
      refine MonoT.mono (fun u s1 hd => ?_) (show tr _ from h1)
      obtain ⟨g1, H1, I1, S1, x1, re⟩ := hd
      have z := h2 r s' u s1 g1 H1 rfl I1 S1 x1 re
      rw [q] at z
      exact z
    | exc x s2 =>
      intro w
      refine MonoT.mono (fun u s1 hd => ?_) (show tr _ from h1)
      obtain ⟨g1, H1, I1, S1, x1, re⟩ := hd
      have z := h2 r s' u s1 g1 H1 rfl I1 S1 x1 re
      rw [q] at z
      exact z
    | stuck => trivial
  | exc x s' => exact h1
  | stuck => trivial
end

def RunsE {α β : Type} (X : Cx) (W : WX) (t : Sem β) (rel : RelT α β) (f : M α) : Prop :=
  ∀ (pins : List (Addr × Obj)) (s : Shared) (σ : L2.St) (H : Hp) (e : Ent) (g : Gh) (env : List Slot) (st : List SO), Iv X pins σ H s → Sim (gm X) e g σ H env st →
    WPt X W pins σ e g H env rel (f ⟨env, st⟩) (fun Q => wpAny (model X.prog X.w) X.A t Q X.xe s)
abbrev DE (X : Cx) (W : WX) (ex : Expr) (f : M R) : Prop := RunsE X W (eval ex X.env) relV f
abbrev DT (X : Cx) (W : WX) (ex : Expr) (f : M Bool) : Prop := RunsE X W (isTrue ex X.env (eval ex X.env)) relB f
def DA (X : Cx) (W : WX) (es : List Expr) (f : M (List D)) : Prop := ∀ pos, RunsE X W (spliced (backTo pos (starEach es X.env))) relL f

/-! ### pending things stay -/
section
variable {G : Gm} {e : Ent} {g g1 : Gh} {σ : L2.St} {H H1 : Hp} {env env1 : List Slot} {st st1 : List SO} {N : Addr → Prop}
theorem OwnAt.mono {g' : Gh} {H' : Hp} {a : Addr} (m : MonoG g H g' H') (k : ∀ o, H a = some o → H' a = some o) : ∀ {d : D}, OwnAt G g H a d → OwnAt G g' H' a d
  | .lst l, ⟨xs, h, r⟩ => ⟨xs, k _ h, r.mono m⟩
  | .dct l, ⟨es, kvs, .inl ⟨z, h, r⟩⟩ => ⟨es, kvs, .inl ⟨z, k _ h, r.mono m⟩⟩
  | .dct l, ⟨es, kvs, .inr ⟨h, r⟩⟩ => ⟨es, kvs, .inr ⟨k _ h, r.mono m⟩⟩
  | .non, h => h.elim
  | .bl _, h => h.elim
  | .int _, h => h.elim
  | .str _, h => h.elim
  | .tup _, h => h.elim
  | .ref _, h => h.elim
theorem OwnAt.some {a : Addr} : ∀ {d : D}, OwnAt G g H a d → H a ≠ none
  | .lst l, ⟨xs, h, r⟩ => by rw [h]; simp
  | .dct l, ⟨es, kvs, .inl ⟨_, h, r⟩⟩ => by rw [h]; simp
  | .dct l, ⟨es, kvs, .inr ⟨h, r⟩⟩ => by rw [h]; simp
  | .non, h => h.elim
  | .bl _, h => h.elim
  | .int _, h => h.elim
  | .str _, h => h.elim
  | .tup _, h => h.elim
  | .ref _, h => h.elim
theorem Step.notρ (x : Step σ g H env g1 H1 env1) {a : Addr} (h : a ∉ g.ρ) (hn : H a ≠ none) : a ∉ g1.ρ := by
  obtain ⟨m, e1, n⟩ := x.ρ
  rw [e1]
  intro z
  rcases List.mem_append.mp z with z | z
  · exact h z
  · exact hn (n a z)
theorem RRep.step (S : Sim G e g σ H env st) (x : Step σ g H env g1 H1 env1) {v : V} : ∀ {r : R}, RRep N e g σ H env G r v → RRep N e g1 σ H1 env1 G r v
  | .val d, q => Rep.mono (S.mg x) q
  | .tmp d, ⟨a, h1, h2, h3⟩ => ⟨a, h1, h2.mono (S.mg x) fun o h => x.keep a o h h3, x.notρ h3 h2.some⟩
  | .own d, ⟨a, h1, h2, h3, h4, h5, h6, h7⟩ => ⟨a, h1, h2.mono (S.mg x) fun o h => x.keep a o h h3, x.notρ h3 h2.some, fun z => by
      rcases x.fnew a z with z | z | z
      · exact h4 z
      · exact h2.some z
      · exact h5 z, fun z => h5 (x.owned a z), h6, h7⟩
/-- what an address bears is told -/
def Gh.add (g : Gh) (a : Addr) : Gh := ⟨fun b => g.F b ∨ b = a, g.ρ⟩
theorem MonoG.add {a : Addr} : MonoG g H (g.add a) H := ⟨fun _ h => .inl h, fun _ _ _ h => h, fun _ _ h => h⟩
/-- a is frozen -/
theorem Sim.add (S : Sim G e g σ H env st) {a : Addr} (hn : H a ≠ none) (hρ : a ∉ g.ρ) (ho : ¬ OwnedAt env σ a) (he : e.H a = none) : Sim G e (g.add a) σ H env st := by
  have m : MonoG g H (g.add a) H := MonoG.add
  refine ⟨S.keep, fun b h => ?_, fun b h => .inl (S.fOld b h), S.ρx, S.ρnd, fun b h z => ?_, fun b h => ?_, S.len, fun i d h => ?_, fun i d h => ?_, S.ownNe, S.slen, fun n o b h1 h2 => ?_⟩
  · rcases h with h | rfl
    · exact S.fNew b h
    · exact .inr he
  · rcases z with z | rfl
    · exact S.ρF b h z
    · exact hρ h
  · rcases h with h | rfl
    · exact S.fIn b h
    · exact hn
  · obtain ⟨v, h1, h2⟩ := S.val i d h
    exact ⟨v, h1, h2.mono m⟩
  · obtain ⟨b, h1, h2, h3, h4, h5⟩ := S.own i d h
    refine ⟨b, h1, h2.mono m fun _ h => h, fun z => ?_, h4, h5⟩
    rcases z with z | rfl
    · exact h3 z
    · exact ho ⟨i, d, h, h1⟩
  · have q := S.sto n o b h1 h2
    cases o with
    | lst l => obtain ⟨xs, q, r⟩ := q; exact ⟨xs, q, r.mono m⟩
    | ins C fs => obtain ⟨c, dx, vs, q1, q2, r⟩ := q; exact ⟨c, dx, vs, q1, q2, r.mono m⟩
theorem OwnAt.rep {a : Addr} (f : g.F a) : ∀ {d : D}, OwnAt G g H a d → Rep G g H d (.ref a)
  | .lst l, ⟨xs, h, r⟩ => ⟨a, xs, rfl, .inl ⟨f, .inl h⟩, r⟩
  | .dct l, ⟨es, kvs, .inl ⟨z, h, r⟩⟩ => ⟨a, es, kvs, rfl, .inl ⟨.inl ⟨f, z, h⟩, r⟩⟩
  | .dct l, ⟨es, kvs, .inr ⟨h, r⟩⟩ => ⟨a, es, kvs, rfl, .inr ⟨⟨f, h⟩, r⟩⟩
  | .non, h => h.elim
  | .bl _, h => h.elim
  | .int _, h => h.elim
  | .str _, h => h.elim
  | .tup _, h => h.elim
  | .ref _, h => h.elim
end

/-- a result kept: a new thing is frozen -/
def escF : R → M D
  | .val d => retM d
  | .own d => retM d
  | .tmp d => match d with
    | .lst _ => stuckM
    | .dct _ => stuckM
    | d => stuckM
section
variable {X : Cx} {W : WX} {pins : List (Addr × Obj)} {σ : L2.St} {e : Ent} {g : Gh} {H : Hp} {env : List Slot} {st : List SO}
theorem esc_done {r : R} {s' : S} {u : Value} {s1 : Shared} {g1 : Gh} {H1 : Hp} (I1 : Iv X pins σ H1 s1) (S1 : Sim (gm X) e g1 σ H1 s'.env s'.st) (x : Step σ g H env g1 H1 s'.env) (re : relV (New H env σ) e g1 σ H1 s'.env (gm X) r u) :
    EndOk X pins σ e g H env relD (escF r s') u s1 := by
  obtain ⟨v, rv, q⟩ := re
  cases r with
  | val d => exact ⟨g1, H1, I1, S1, x, v, rv, q⟩
  | tmp d => cases d <;> trivial
  | own d =>
    obtain ⟨a, rfl, h2, h3, h4, h5, h6, h7⟩ := q
    refine ⟨g1.add a, H1, I1, S1.add h2.some h3 h5 h6, ?_, .ref a, rv, (h2.mono MonoG.add fun _ h => h).rep (show (g1.add a).F a from Or.inr rfl)⟩
    refine ⟨fun b h => .inl (x.F b h), x.ρ, x.keep, fun b h => ?_, x.owned⟩
    rcases h with h | rfl
    · exact x.fnew b h
    · exact .inr h7
theorem WPt.esc {res : Res R} {tr : Tr Value} [MonoT tr] (h : WPt X W pins σ e g H env relV res tr) : WPt X W pins σ e g H env relD (res.bind escF) tr :=
  h.last fun r s' u s1 g1 H1 _ I1 S1 x re => esc_done I1 S1 x re
end
end Dn


/-! Dn3 -/
set_option Elab.async false
set_option linter.all false
set_option maxRecDepth 100000
set_option maxHeartbeats 1000000
namespace Dn
open PySem PySem.Spec PyProof.Rows L2

section
variable {G : Gm} {e : Ent} {g g1 : Gh} {σ : L2.St} {H H1 : Hp} {env env1 : List Slot} {st st1 : List SO} {N : Addr → Prop} {p : Addr}
theorem Sim.eNew (S : Sim G e g σ H env st) (hp : H p = none) : e.H p = none := by
  cases q : e.H p with
  | none => rfl
  | some o =>
    exfalso
    by_cases z : p ∈ e.ρ
    · obtain ⟨m, e1, _⟩ := S.ρx
      exact S.ρIn (by rw [e1]; exact List.mem_append_left _ z) hp
    · have := S.keep p o q z
      rw [hp] at this; cases this
theorem Sim.newρ (S : Sim G e g σ H env st) (hp : H p = none) : p ∉ g.ρ := fun z => S.ρIn z hp
theorem Sim.newO (S : Sim G e g σ H env st) (hp : H p = none) : ¬ OwnedAt env σ p := fun z => (S.ownedIn z).1 hp
theorem Sim.newF (S : Sim G e g σ H env st) (hp : H p = none) : ¬ g.F p := fun z => S.fIn p z hp
theorem upd_old {o u : HO} {a : Addr} (hp : H p = none) (h : H a = some u) : upd H p o a = some u := by
  rw [upd_ne (fun z => by rw [z, hp] at h; cases h)]; exact h
theorem MonoG.lay {o : HO} (hp : H p = none) : MonoG g H g (upd H p o) := ⟨fun _ h => h, fun _ _ _ h => upd_old hp h, fun _ _ h => h⟩
theorem Step.lay {o : HO} (hp : H p = none) : Step σ g H env g (upd H p o) env := ⟨fun _ h => h, ⟨[], by simp, by simp⟩, fun _ _ h _ => upd_old hp h, fun _ h => .inl h, fun _ h => h⟩
theorem SOAt.mono {g' : Gh} {H' : Hp} {a : Addr} (m : MonoG g H g' H') (k : ∀ o, H a = some o → H' a = some o) : ∀ {o : SO}, SOAt G g H a o → SOAt G g' H' a o
  | .lst l, ⟨xs, q, r⟩ => ⟨xs, k _ q, r.mono m⟩
  | .ins C fs, ⟨c, dx, vs, q1, q2, r⟩ => ⟨c, dx, vs, q1, k _ q2, r.mono m⟩
/-- a new object -/
theorem Sim.lay (S : Sim G e g σ H env st) (hp : H p = none) (o : HO) : Sim G e g σ (upd H p o) env st := by
  have m : MonoG g H g (upd H p o) := MonoG.lay hp
  refine ⟨fun a u h z => upd_old hp (S.keep a u h z), S.fNew, S.fOld, S.ρx, S.ρnd, S.ρF, fun a h z => ?_, S.len, fun i d h => ?_, fun i d h => ?_, S.ownNe, S.slen, fun n u a h1 h2 => ?_⟩
  · cases q : H a with
    | none => exact S.fIn a h q
    | some u => rw [upd_old hp q] at z; cases z
  · obtain ⟨v, h1, h2⟩ := S.val i d h
    exact ⟨v, h1, h2.mono m⟩
  · obtain ⟨a, h1, h2, h3⟩ := S.own i d h
    exact ⟨a, h1, h2.mono m fun u q => upd_old hp q, h3⟩
  · exact (S.sto n u a h1 h2).mono m fun _ q => upd_old hp q
/-- a new object, frozen -/
theorem Sim.layF (S : Sim G e g σ H env st) (hp : H p = none) (o : HO) : Sim G e (g.add p) σ (upd H p o) env st :=
  (S.lay hp o).add (by rw [upd_same]; simp) (S.newρ hp) (S.newO hp) (S.eNew hp)
theorem Step.layF {o : HO} (hp : H p = none) : Step σ g H env (g.add p) (upd H p o) env :=
  ⟨fun _ h => .inl h, ⟨[], by simp [Gh.add], by simp⟩, fun _ _ h _ => upd_old hp h, fun a h => by
    rcases h with h | rfl
    · exact .inl h
    · exact .inr (.inl hp), fun _ h => h⟩
theorem MonoG.layF {o : HO} (hp : H p = none) : MonoG g H (g.add p) (upd H p o) := (MonoG.lay hp).trans MonoG.add
theorem rep_tup_new {l : List D} {xs : List V} (hp : H p = none) (r : Reps G g H l xs) : Rep G (g.add p) (upd H p (.tup xs)) (.tup l) (.ref p) :=
  ⟨p, xs, rfl, .inl ⟨.inr rfl, .inl upd_same⟩, r.mono (MonoG.layF hp)⟩
theorem rrep_own_new (S : Sim G e g σ H env st) {l : List D} {xs : List V} (hp : H p = none) (r : Reps G g H l xs) : RRep (New H env σ) e g σ (upd H p (.lst xs)) env G (.own (.lst l)) (.ref p) :=
  ⟨p, rfl, ⟨xs, upd_same, r.mono (MonoG.lay hp)⟩, S.newρ hp, S.newF hp, S.newO hp, S.eNew hp, .inl hp⟩
end

/-! ### reading a result -/
section
variable {G : Gm} {e : Ent} {g : Gh} {σ : L2.St} {H : Hp} {env : List Slot} {N : Addr → Prop} {v : V}
theorem RRep.int {i : Int} : ∀ {r : R}, r.d = .int i → RRep N e g σ H env G r v → v = .int i
  | .val d, h, q => by cases (show d = .int i from h); exact q
  | .tmp d, h, ⟨a, _, o, _⟩ => by cases (show d = .int i from h); exact (o : False).elim
  | .own d, h, ⟨a, _, o, _⟩ => by cases (show d = .int i from h); exact (o : False).elim
theorem RRep.bl {i : Bool} : ∀ {r : R}, r.d = .bl i → RRep N e g σ H env G r v → v = .bl i
  | .val d, h, q => by cases (show d = .bl i from h); exact q
  | .tmp d, h, ⟨a, _, o, _⟩ => by cases (show d = .bl i from h); exact (o : False).elim
  | .own d, h, ⟨a, _, o, _⟩ => by cases (show d = .bl i from h); exact (o : False).elim
theorem RRep.str {i : Str} : ∀ {r : R}, r.d = .str i → RRep N e g σ H env G r v → v = .str i
  | .val d, h, q => by cases (show d = .str i from h); exact q
  | .tmp d, h, ⟨a, _, o, _⟩ => by cases (show d = .str i from h); exact (o : False).elim
  | .own d, h, ⟨a, _, o, _⟩ => by cases (show d = .str i from h); exact (o : False).elim
theorem RRep.non : ∀ {r : R}, r.d = .non → RRep N e g σ H env G r v → v = .non
  | .val d, h, q => by cases (show d = .non from h); exact q
  | .tmp d, h, ⟨a, _, o, _⟩ => by cases (show d = .non from h); exact (o : False).elim
  | .own d, h, ⟨a, _, o, _⟩ => by cases (show d = .non from h); exact (o : False).elim
theorem RRep.tup {l : List D} : ∀ {r : R}, r.d = .tup l → RRep N e g σ H env G r v → ∃ a xs, v = .ref a ∧ SqT G.K H a xs ∧ Reps G g H l xs ∧ TupAt G g H a xs
  | .val d, h, q => by
    cases (show d = .tup l from h)
    obtain ⟨a, xs, e, t, r⟩ := q
    exact ⟨a, xs, e, t.sq, r, t⟩
  | .tmp d, h, ⟨a, _, o, _⟩ => by cases (show d = .tup l from h); exact (o : False).elim
  | .own d, h, ⟨a, _, o, _⟩ => by cases (show d = .tup l from h); exact (o : False).elim
theorem RRep.lst {l : List D} : ∀ {r : R}, r.d = .lst l → RRep N e g σ H env G r v → ∃ a xs, v = .ref a ∧ SqL G.K H a xs ∧ Reps G g H l xs
  | .val d, h, q => by
    cases (show d = .lst l from h)
    obtain ⟨a, xs, e, t, r⟩ := q
    exact ⟨a, xs, e, t.sq, r⟩
  | .tmp d, h, ⟨a, e, o, _⟩ => by
    cases (show d = .lst l from h)
    obtain ⟨xs, q, r⟩ := o
    exact ⟨a, xs, e, .of q, r⟩
  | .own d, h, ⟨a, e, o, _⟩ => by
    cases (show d = .lst l from h)
    obtain ⟨xs, q, r⟩ := o
    exact ⟨a, xs, e, .of q, r⟩
end

/-! ### the bridge from the hand layer's rules by values -/
def Op2 (X : Cx) (W : WX) (f : Value → Value → Sem Value) (h : R → R → M R) : Prop :=
  ∀ (pins : List (Addr × Obj)) (s : Shared) (σ : L2.St) (H : Hp) (e : Ent) (g : Gh) (env : List Slot) (st : List SO) (N : Addr → Prop) (x y : R) (u v : Value), Iv X pins σ H s → Sim (gm X) e g σ H env st →
    relV N e g σ H env (gm X) x u → relV N e g σ H env (gm X) y v → WPt X W pins σ e g H env relV (h x y ⟨env, st⟩) (fun Q => wpAny (model X.prog X.w) X.A (f u v) Q X.xe s)
def Op1 (X : Cx) (W : WX) (f : Value → Sem Value) (h : R → M R) : Prop :=
  ∀ (pins : List (Addr × Obj)) (s : Shared) (σ : L2.St) (H : Hp) (e : Ent) (g : Gh) (env : List Slot) (st : List SO) (N : Addr → Prop) (x : R) (u : Value), Iv X pins σ H s → Sim (gm X) e g σ H env st →
    relV N e g σ H env (gm X) x u → WPt X W pins σ e g H env relV (h x ⟨env, st⟩) (fun Q => wpAny (model X.prog X.w) X.A (f u) Q X.xe s)
/-- what the rule is to leave -/
abbrev Gives (G : Gm) (e : Ent) (g : Gh) (σ : L2.St) (H : Hp) (env : List Slot) (r : R) (s' : S) : VK := fun z H' => ∃ g', Sim G e g' σ H' s'.env s'.st ∧ Step σ g H env g' H' s'.env ∧ RRep (New H env σ) e g' σ H' s'.env G r z
/-- an operation that leaves the state: a part function -/
def pureF {α β : Type} (f : α → Option β) : α → M β := fun a => match f a with
  | some b => retM b
  | none => stuckM
theorem op2_of {X : Cx} {W : WX} {f : Value → Value → Sem Value} {t : R2} {h : R → R → Option R} (ho : OpR X f t)
    (hh : ∀ (e : Ent) (g : Gh) (σ : L2.St) (H : Hp) (env : List Slot) (st : List SO) (N : Addr → Prop) (x y : R) (u v : V) (r : R), Sim (gm X) e g σ H env st → RRep N e g σ H env (gm X) x u → RRep N e g σ H env (gm X) y v → h x y = some r →
      t u v H (Gives (gm X) e g σ H env r ⟨env, st⟩)) : Op2 X W f (fun x y => pureF (fun p : R × R => h p.1 p.2) (x, y)) := by
  intro pins s σ H e g env st N x y u v I S ⟨a, ra, qa⟩ ⟨b, rb, qb⟩
  unfold pureF
  dsimp only
  cases q : h x y with
  | none => trivial
  | some r =>
    show wpAny _ _ _ _ _ _
    refine tkn I.t (ho pins s σ H a b u v _ I.i ra rb (hh e g σ H env st N x y a b r S qa qb q)) fun z s1 tz hz => ?_
    obtain ⟨c, H', I', rc, g', S', x', q'⟩ := hz
    exact ⟨g', H', ⟨I', tz⟩, S', x', c, rc, q'⟩
theorem op1_of {X : Cx} {W : WX} {f : Value → Sem Value} {t : V → Hp → VK → Prop} {h : R → Option R} (ho : UnR X f t)
    (hh : ∀ (e : Ent) (g : Gh) (σ : L2.St) (H : Hp) (env : List Slot) (st : List SO) (N : Addr → Prop) (x : R) (u : V) (r : R), Sim (gm X) e g σ H env st → RRep N e g σ H env (gm X) x u → h x = some r →
      t u H (Gives (gm X) e g σ H env r ⟨env, st⟩)) : Op1 X W f (pureF h) := by
  intro pins s σ H e g env st N x u I S ⟨a, ra, qa⟩
  unfold pureF
  cases q : h x with
  | none => trivial
  | some r =>
    show wpAny _ _ _ _ _ _
    refine tkn I.t (ho pins s σ H a u _ I.i ra (hh e g σ H env st N x a r S qa q)) fun z s1 tz hz => ?_
    obtain ⟨c, H', I', rc, g', S', x', q'⟩ := hz
    exact ⟨g', H', ⟨I', tz⟩, S', x', c, rc, q'⟩
/-- nothing changes -/
theorem Gives.same {G : Gm} {e : Ent} {g : Gh} {σ : L2.St} {H : Hp} {env : List Slot} {st : List SO} {d : D} {v : V} (S : Sim G e g σ H env st) (r : Rep G g H d v) : Gives G e g σ H env (.val d) ⟨env, st⟩ v H := ⟨g, S, Step.refl, r⟩
theorem Gives.tup {G : Gm} {e : Ent} {g : Gh} {σ : L2.St} {H : Hp} {env : List Slot} {st : List SO} {l : List D} {xs : List V} {p : Addr} (S : Sim G e g σ H env st) (hp : H p = none) (r : Reps G g H l xs) :
    Gives G e g σ H env (.val (.tup l)) ⟨env, st⟩ (.ref p) (upd H p (.tup xs)) := ⟨g.add p, S.layF hp _, Step.layF hp, rep_tup_new hp r⟩
theorem Gives.lst {G : Gm} {e : Ent} {g : Gh} {σ : L2.St} {H : Hp} {env : List Slot} {st : List SO} {l : List D} {xs : List V} {p : Addr} (S : Sim G e g σ H env st) (hp : H p = none) (r : Reps G g H l xs) :
    Gives G e g σ H env (.own (.lst l)) ⟨env, st⟩ (.ref p) (upd H p (.lst xs)) := ⟨g, S.lay hp _, Step.lay hp, rrep_own_new S hp r⟩

/-! ### arithmetic, gluing -/
def LIM : Nat := 16777216
theorem lim_eq : LIM = sizeLine := by rw [sizeLine_eq]; rfl
def addF (x y : R) : Option R := match x.d, y.d with
  | .int i, .int j => some (.val (.int (i + j)))
  | .str a, .str b => if a.length + b.length ≤ LIM then some (.val (.str (a ++ b))) else none
  | .tup a, .tup b => if a.length + b.length ≤ LIM then some (.val (.tup (a ++ b))) else none
  | .lst a, .lst b => if a.length + b.length ≤ LIM then some (.own (.lst (a ++ b))) else none
  | _, _ => none
end Dn


/-! Dn4 -/
set_option Elab.async false
set_option linter.all false
set_option maxRecDepth 100000
set_option maxHeartbeats 1000000
namespace Dn
open PySem PySem.Spec PyProof.Rows L2

/-! ### rules by values that the layer lacks -/
section
variable {X : Cx}
/-- xs + ys of any two lists -/
def rCatL (K : PySem.W.Frag) : R2 := fun x y H Q => ∃ l b xs zs, x = .ref l ∧ y = .ref b ∧ SqL K H l xs ∧ SqL K H b zs ∧ xs.length + zs.length ≤ sizeLine ∧ ∀ p, H p = none → Q (.ref p) (upd H p (.lst (xs ++ zs)))
theorem op_catL : OpR X (binaryOp .Add) (rCatL X.K) := by
  intro pins s σ H x y v u Q I rx ry h
  obtain ⟨l, b, xs, zs, rfl, rfl, hl, hb, hz, q⟩ := h
  cases rx
  cases ry
  obtain ⟨its, r, ⟨⟨cls, dd, data, sl⟩, n, ho, hc, hd0, hd⟩, _⟩ := I.list hl
  obtain ⟨its2, r2, ⟨⟨cls2, dd2, data2, sl2⟩, n2, ho2, hc2, hd02, hd2⟩, _⟩ := I.list hb
  simp only at hc hd hc2 hd2
  subst hc hd hc2 hd2
  have hlen := r.length
  have hlen2 := r2.length
  have e : its.toArray ++ its2.toArray = (its ++ its2).toArray := by simp
  refine concat_meets ⟨_, ho, rfl⟩ ⟨_, ho2, rfl⟩ noFill_list_add seq_list_add PySem.F.slot_list_add PySem.F.entry_list_add (PySem.F.args_list_add_2 _ _) (PyProof.Rows.list_addW l b its.toArray its2.toArray n n2 dd dd2 sl sl2 (by simp only [List.size_toArray]; omega)) ⟨ho, ho2, ?_⟩
  rw [e]
  refine ⟨.ref s.heap.objs.size, _, I.laid (t' := s.toks) (o := .lst (xs ++ zs)) (fun b o e => Heap.get?_push_of_some _ e) (Nat.le_refl _) ?_, rfl, q _ (I.hok.fresh (Nat.le_refl _))⟩
  exact ⟨by rw [List.length_append]; exact hz, _, 0, r.append r2, Heap.get?_push_size _ rfl⟩
theorem op_mul_str : OpR X (binaryOp .Mult) (fun x y H Q => ∃ (a : Str) (n : Int), x = .str a ∧ y = .int n ∧ n < 1000 ∧ -1000 < n ∧ a.length < 1000 ∧ Q (.str (Txt.mul a n)) H) := by
  intro pins s σ H x y v u Q I rx ry h
  obtain ⟨a, n, rfl, rfl, h1, h2, h3, q⟩ := h
  obtain ⟨t, rfl⟩ := rx
  obtain ⟨t', rfl⟩ := ry
  refine PySem.SB.mul ⟨by simp; omega, fun hn _ => ?_, fun hn _ => ?_⟩ fun t' k => ⟨.str (Txt.mul a n), H, I.tok k, ⟨t', rfl⟩, q⟩
  · have hn' : 1 ≤ n := by omega
    have : (2 ^ 63 - 1 : Int) / 1000 ≤ (2 ^ 63 - 1) / n := by
      apply Int.le_ediv_of_mul_le (by omega)
      have h5 : (2 ^ 63 - 1 : Int) / 1000 * n ≤ (2 ^ 63 - 1 : Int) / 1000 * 1000 := Int.mul_le_mul_of_nonneg_left (by omega) (by decide)
      have h6 : (2 ^ 63 - 1 : Int) / 1000 * 1000 ≤ 2 ^ 63 - 1 := by decide
      omega
    have h7 : (1000 : Int) ≤ (2 ^ 63 - 1 : Int) / 1000 := by decide
    omega
  · unfold Builtin.Str.tooLong
    rw [sizeLine_eq]
    refine decide_eq_false ?_
    have h5 : a.length * n.toNat ≤ 1000 * 1000 := Nat.mul_le_mul (by omega) (by omega)
    omega
theorem op_inT (hu : X.A.units + 65 < cLine) : OpR X (compareOp .In) (fun x y H Q => ∃ d ds, Dp X.K H x d ∧ Dp X.K H y (.tuple ds) ∧ SeqAt.shaped d = true ∧ SeqAt.shaped (.tuple ds) = true ∧ Q (.bl (ds.any fun z => PyData.eqv z d)) H) := by
  intro pins s σ H x y v u Q I rx ry h
  obtain ⟨d, ds, hd, he, sd, se, q⟩ := h
  obtain ⟨as, r1⟩ := Dp.reads I d x v hd rx
  obtain ⟨bs, r2⟩ := Dp.reads I (.tuple ds) y u he ry
  exact SeqAt.in_tuple_reads r2 r1 (SeqAt.canLay_of_shaped se) (SeqAt.canLay_of_shaped sd) (room_in_shaped sd hu) ⟨.bl _, H, I, rfl, q⟩
theorem op_notInT (hu : X.A.units + 65 < cLine) : OpR X (compareOp .NotIn) (fun x y H Q => ∃ d ds, Dp X.K H x d ∧ Dp X.K H y (.tuple ds) ∧ SeqAt.shaped d = true ∧ SeqAt.shaped (.tuple ds) = true ∧ Q (.bl (!ds.any fun z => PyData.eqv z d)) H) := by
  intro pins s σ H x y v u Q I rx ry h
  obtain ⟨d, ds, hd, he, sd, se, q⟩ := h
  obtain ⟨as, r1⟩ := Dp.reads I d x v hd rx
  obtain ⟨bs, r2⟩ := Dp.reads I (.tuple ds) y u he ry
  exact SeqAt.notIn_tuple_reads r2 r1 (SeqAt.canLay_of_shaped se) (SeqAt.canLay_of_shaped sd) (room_in_shaped sd hu) ⟨.bl _, H, I, rfl, q⟩
end

/-! ### as data -/
mutual
def toPy : D → Option PyData
  | .non => some .none
  | .bl b => some (.bool b)
  | .int i => some (.int i)
  | .str s => some (.str s)
  | .tup l => match toPys l with | some ks => some (.tuple ks) | none => none
  | .lst l => match toPys l with | some ks => some (.list ks) | none => none
  | _ => none
def toPys : List D → Option (List PyData)
  | [] => some []
  | d :: l => match toPy d, toPys l with
    | some k, some ks => some (k :: ks)
    | _, _ => none
end
section
variable {G : Gm} {e : Ent} {g : Gh} {σ : L2.St} {H : Hp} {env : List Slot} {N : Addr → Prop}
mutual
theorem Rep.dp : ∀ {d : D} {v : V} {p : PyData}, Rep G g H d v → toPy d = some p → Dp G.K H v p
  | .non, _, _, h, e => by cases e; cases (h : _ = V.non); exact .non
  | .bl b, _, _, h, e => by cases e; cases (h : _ = V.bl b); exact .bl b
  | .int i, _, _, h, e => by cases e; cases (h : _ = V.int i); exact .int i
  | .str s, _, _, h, e => by cases e; cases (h : _ = V.str s); exact .str s
  | .tup l, _, _, h, e => by
    obtain ⟨a, xs, rfl, t, r⟩ := h
    unfold toPy at e
    cases q : toPys l with
    | none => rw [q] at e; cases e
    | some ks => rw [q] at e; cases e; exact .tup t.sq (Reps.dp r q)
  | .lst l, _, _, h, e => by
    obtain ⟨a, xs, rfl, t, r⟩ := h
    unfold toPy at e
    cases q : toPys l with
    | none => rw [q] at e; cases e
    | some ks => rw [q] at e; cases e; exact .lst t.sq (Reps.dp r q)
  | .dct _, _, _, _, e => by cases e
  | .ref _, _, _, _, e => by cases e
theorem Reps.dp : ∀ {l : List D} {vs : List V} {ps : List PyData}, Reps G g H l vs → toPys l = some ps → DpAll G.K H vs ps
  | [], _, _, h, e => by cases e; cases h; exact .nil
  | d :: l, _, _, h, e => by
    obtain ⟨x, r, rfl, h1, h2⟩ := h
    unfold toPys at e
    cases q : toPy d with
    | none => rw [q] at e; cases e
    | some k =>
      cases q2 : toPys l with
      | none => rw [q, q2] at e; cases e
      | some ks => rw [q, q2] at e; cases e; exact .cons (Rep.dp h1 q) (Reps.dp h2 q2)
end
theorem RRep.dp {v : V} {p : PyData} : ∀ {r : R}, RRep N e g σ H env G r v → toPy r.d = some p → Dp G.K H v p
  | .val d, h, q => Rep.dp h q
  | .tmp d, ⟨a, ea, o, _⟩, q => by
    subst ea
    cases d with
    | lst l =>
      obtain ⟨xs, hx, r⟩ := o
      have q : toPy (.lst l) = some p := q
      unfold toPy at q
      cases q2 : toPys l with
      | none => rw [q2] at q; cases q
      | some ks => rw [q2] at q; cases q; exact .lst (.of hx) (Reps.dp r q2)
    | dct l => cases q
    | _ => exact (o : False).elim
  | .own d, ⟨a, ea, o, _⟩, q => by
    subst ea
    cases d with
    | lst l =>
      obtain ⟨xs, hx, r⟩ := o
      have q : toPy (.lst l) = some p := q
      unfold toPy at q
      cases q2 : toPys l with
      | none => rw [q2] at q; cases q
      | some ks => rw [q2] at q; cases q; exact .lst (.of hx) (Reps.dp r q2)
    | dct l => cases q
    | _ => exact (o : False).elim
end

/-! ### operators -/
theorem R.d_val {d : D} : (R.val d).d = d := rfl
theorem op2_add {X : Cx} {W : WX} : Op2 X W (binaryOp .Add) (fun x y => pureF (fun p : R × R => addF p.1 p.2) (x, y)) := by
  refine op2_of (op_add.or (op_add_str.or (op_catA.or op_catL))) fun e g σ H env st N x y u v r S qa qb hr => ?_
  unfold addF at hr
  have hl := lim_eq
  split at hr
  · rename_i i j hx hy
    cases hr
    exact .inl ⟨i, j, RRep.int hx qa, RRep.int hy qb, Gives.same S rfl⟩
  · rename_i i j hx hy
    split at hr
    · cases hr
      exact .inr (.inl ⟨i, j, RRep.str hx qa, RRep.str hy qb, by omega, Gives.same S rfl⟩)
    · cases hr
  · rename_i i j hx hy
    split at hr
    · cases hr
      obtain ⟨a, xs, rfl, t1, r1, ta⟩ := RRep.tup hx qa
      obtain ⟨b, ys, rfl, t2, r2, tb⟩ := RRep.tup hy qb
      have l1 := r1.length
      have l2 := r2.length
      refine .inr (.inr (.inl ⟨a, b, xs, ys, rfl, rfl, t1, t2, by omega, fun ex => ?_, fun _ ey => ?_, fun _ _ p hp => ?_⟩))
      · have : i = [] := List.eq_nil_of_length_eq_zero (by rw [← l1, ex]; rfl)
        subst this
        exact Gives.same S ⟨b, ys, rfl, tb, r2⟩
      · have : j = [] := List.eq_nil_of_length_eq_zero (by rw [← l2, ey]; rfl)
        subst this
        rw [List.append_nil]
        exact Gives.same S ⟨a, xs, rfl, ta, r1⟩
      · exact Gives.tup S hp (r1.append r2)
    · cases hr
  · rename_i i j hx hy
    split at hr
    · cases hr
      obtain ⟨a, xs, rfl, t1, r1⟩ := RRep.lst hx qa
      obtain ⟨b, ys, rfl, t2, r2⟩ := RRep.lst hy qb
      have l1 := r1.length
      have l2 := r2.length
      exact .inr (.inr (.inr ⟨a, b, xs, ys, rfl, rfl, t1, t2, by omega, fun p hp => Gives.lst S hp (r1.append r2)⟩))
    · cases hr
  · cases hr
/-- ints -/
def intF (C : Int → Int → Bool) (f : Int → Int → Int) (x y : R) : Option R := match x.d, y.d with
  | .int i, .int j => if C i j then some (.val (.int (f i j))) else none
  | _, _ => none
theorem op2_int {X : Cx} {W : WX} {f : Value → Value → Sem Value} {P : Int → Int → Prop} {C : Int → Int → Bool} {h : Int → Int → Int} (ho : OpR X f (rI P fun i j => .int (h i j))) (hc : ∀ i j, C i j = true → P i j) :
    Op2 X W f (fun x y => pureF (fun p : R × R => intF C h p.1 p.2) (x, y)) := by
  refine op2_of ho fun e g σ H env st N x y u v r S qa qb hr => ?_
  unfold intF at hr
  split at hr
  · rename_i i j hx hy
    split at hr
    · rename_i c
      cases hr
      exact ⟨i, j, RRep.int hx qa, RRep.int hy qb, hc i j c, Gives.same S rfl⟩
    · cases hr
  · cases hr
def subF := intF (fun _ _ => true) (fun i j => i - j)
def modF := intF (fun _ j => decide (0 < j)) (fun i j => i % j)
def fdvF := intF (fun _ j => decide (0 < j) && decide (j < 1073741824)) (fun i j => i / j)
def powF := intF (fun i j => decide (0 ≤ j) && decide (j ≤ 1000000) && decide (i.natAbs < 2 ^ 64)) (fun i j => i ^ j.toNat)
theorem op_subI {X : Cx} : OpR X (binaryOp .Sub) (rI (fun _ _ => True) fun i j => .int (i - j)) := opI fun _ _ _ _ _ _ _ _ q => sub_int q
theorem op2_sub {X : Cx} {W : WX} : Op2 X W (binaryOp .Sub) (fun x y => pureF (fun p : R × R => subF p.1 p.2) (x, y)) := op2_int op_subI fun _ _ _ => trivial
theorem op2_mod {X : Cx} {W : WX} : Op2 X W (binaryOp .Mod) (fun x y => pureF (fun p : R × R => modF p.1 p.2) (x, y)) := op2_int op_mod fun _ _ h => of_decide_eq_true h
theorem op2_fdv {X : Cx} {W : WX} : Op2 X W (binaryOp .FloorDiv) (fun x y => pureF (fun p : R × R => fdvF p.1 p.2) (x, y)) := op2_int op_fdiv fun _ _ h => by
  simp only [Bool.and_eq_true, decide_eq_true_eq] at h
  exact h
theorem op2_pow {X : Cx} {W : WX} : Op2 X W (binaryOp .Pow) (fun x y => pureF (fun p : R × R => powF p.1 p.2) (x, y)) := op2_int op_pow fun _ _ h => by
  simp only [Bool.and_eq_true, decide_eq_true_eq] at h
  exact ⟨h.1.1, h.1.2, h.2⟩
def smallI (i : Int) : Bool := decide (-(2 ^ 64) < i) && decide (i < 2 ^ 64)
def mulF (x y : R) : Option R := match x.d, y.d with
  | .int i, .int j => if smallI i || smallI j then some (.val (.int (i * j))) else none
  | .str a, .int n => if decide (n < 1000) && decide (-1000 < n) && decide (a.length < 1000) then some (.val (.str (Txt.mul a n))) else none
  | .tup l, .int n => if decide (2 ≤ n) && decide (n ≤ 1000) && decide (l.length ≤ 1000) && !l.isEmpty then some (.val (.tup (List.replicate n.toNat l).flatten)) else none
  | .lst l, .int n => match x with
    | .val _ => none
    | _ => if decide (0 ≤ n) && decide (n ≤ 1000) && decide (l.length ≤ 1000) then some (.own (.lst (List.replicate n.toNat l).flatten)) else none
  | _, _ => none
theorem Reps.rep {G : Gm} {g : Gh} {H : Hp} {l : List D} {xs : List V} (r : Reps G g H l xs) : ∀ n : Nat, Reps G g H (List.replicate n l).flatten (List.replicate n xs).flatten
  | 0 => by simp [Reps]
  | n + 1 => by
    rw [List.replicate_succ, List.replicate_succ, List.flatten_cons, List.flatten_cons]
    exact r.append (r.rep n)
theorem op2_mul {X : Cx} {W : WX} : Op2 X W (binaryOp .Mult) (fun x y => pureF (fun p : R × R => mulF p.1 p.2) (x, y)) := by
  refine op2_of (op_mul.or (op_mul_str.or (op_repT.or op_rep))) fun e g σ H env st N x y u v r S qa qb hr => ?_
  unfold mulF at hr
  split at hr
  · rename_i i j hx hy
    split at hr
    · rename_i c
      cases hr
      refine .inl ⟨i, j, RRep.int hx qa, RRep.int hy qb, ?_, Gives.same S rfl⟩
      simp only [smallI, Bool.or_eq_true, Bool.and_eq_true, decide_eq_true_eq] at c
      exact c
    · cases hr
  · rename_i i j hx hy
    split at hr
    · rename_i c
      cases hr
      simp only [Bool.and_eq_true, decide_eq_true_eq] at c
      exact .inr (.inl ⟨i, j, RRep.str hx qa, RRep.int hy qb, c.1.1, c.1.2, c.2, Gives.same S rfl⟩)
    · cases hr
  · rename_i l n hx hy
    split at hr
    · rename_i c
      cases hr
      simp only [Bool.and_eq_true, decide_eq_true_eq] at c
      obtain ⟨a, xs, rfl, t1, r1, ta⟩ := RRep.tup hx qa
      have hl := r1.length
      refine .inr (.inr (.inl ⟨a, n, xs, rfl, RRep.int hy qb, t1, fun z => ?_, c.1.1.1, c.1.1.2, by omega, fun p hp => Gives.tup S hp (r1.rep _)⟩))
      rw [z] at hl
      have : l = [] := List.eq_nil_of_length_eq_zero hl.symm
      rw [this] at c
      exact absurd c.2 (by decide)
    · cases hr
  · rename_i l n hx hy
    have go : ∀ (a : Addr) (xs : List V), u = .ref a → H a = some (.lst xs) → Reps (gm X) g H l xs → (if (decide (0 ≤ n) && decide (n ≤ 1000) && decide (l.length ≤ 1000)) = true then some (R.own (.lst (List.replicate n.toNat l).flatten)) else none) = some r →
        L2.rRep u v H (Gives (gm X) e g σ H env r ⟨env, st⟩) := fun a xs ea hx r1 hr => by
      split at hr
      · rename_i c
        cases hr
        simp only [Bool.and_eq_true, decide_eq_true_eq] at c
        have hl := r1.length
        refine ⟨a, n, xs, ea, RRep.int hy qb, hx, by omega, by omega, ?_, fun p hp => Gives.lst S hp (r1.rep _)⟩
        rw [sizeLine_eq]
        have h5 : xs.length * n.toNat ≤ 1000 * 1000 := Nat.mul_le_mul (by omega) (by omega)
        omega
      · cases hr
    cases x with
    | val d => cases hr
    | tmp d =>
      obtain ⟨a, ea, o, _⟩ := qa
      cases (show d = .lst l from hx)
      obtain ⟨xs, hx, r1⟩ := o
      exact .inr (.inr (.inr (go a xs ea hx r1 hr)))
    | own d =>
      obtain ⟨a, ea, o, _⟩ := qa
      cases (show d = .lst l from hx)
      obtain ⟨xs, hx, r1⟩ := o
      exact .inr (.inr (.inr (go a xs ea hx r1 hr)))
  · cases hr

/-! ### comparisons -/
def scalE : D → D → Option Bool
  | .non, .non => some true | .non, .int _ => some false | .int _, .non => some false | .non, .bl _ => some false | .bl _, .non => some false | .non, .str _ => some false | .str _, .non => some false
  | .int a, .int b => some (decide (a = b)) | .bl a, .bl b => some (a == b) | .str a, .str b => some (decide (a = b))
  | .int _, .str _ => some false | .str _, .int _ => some false | .bl _, .str _ => some false | .str _, .bl _ => some false
  | _, _ => none
def deqE (x y : D) : Option Bool := match toPy x, toPy y with
  | some a, some b => if SeqAt.shaped a && SeqAt.shaped b then some (PyData.eqv a b) else none
  | _, _ => none
def eqE (x y : D) : Option Bool := match scalE x y with
  | some b => some b
  | none => deqE x y
def blR (o : Option Bool) : Option R := match o with
  | some b => some (.val (.bl b))
  | none => none
def eqF (x y : R) : Option R := blR (eqE x.d y.d)
def neF (x y : R) : Option R := blR ((eqE x.d y.d).map (!·))
theorem scal_ok {G : Gm} {e : Ent} {g : Gh} {σ : L2.St} {H : Hp} {env : List Slot} {N : Addr → Prop} {x y : R} {u v : V} {b : Bool} (qa : RRep N e g σ H env G x u) (qb : RRep N e g σ H env G y v) (h : scalE x.d y.d = some b) : scal u v = true ∧ decide (u = v) = b := by
  unfold scalE at h
  split at h <;> first
    | (rename_i h1 h2; cases h; cases RRep.non h1 qa; cases RRep.non h2 qb; exact ⟨rfl, by simp⟩)
    | (rename_i h1 h2; cases h; cases RRep.non h1 qa; cases RRep.int h2 qb; exact ⟨rfl, by simp⟩)
    | (rename_i h1 h2; cases h; cases RRep.int h1 qa; cases RRep.non h2 qb; exact ⟨rfl, by simp⟩)
    | (rename_i h1 h2; cases h; cases RRep.non h1 qa; cases RRep.bl h2 qb; exact ⟨rfl, by simp⟩)
    | (rename_i h1 h2; cases h; cases RRep.bl h1 qa; cases RRep.non h2 qb; exact ⟨rfl, by simp⟩)
    | (rename_i h1 h2; cases h; cases RRep.non h1 qa; cases RRep.str h2 qb; exact ⟨rfl, by simp⟩)
    | (rename_i h1 h2; cases h; cases RRep.str h1 qa; cases RRep.non h2 qb; exact ⟨rfl, by simp⟩)
    | (rename_i h1 h2; cases h; cases RRep.int h1 qa; cases RRep.int h2 qb; exact ⟨rfl, by simp⟩)
    | (rename_i h1 h2; cases h; cases RRep.bl h1 qa; cases RRep.bl h2 qb; exact ⟨rfl, dec_bl⟩)
    | (rename_i h1 h2; cases h; cases RRep.str h1 qa; cases RRep.str h2 qb; exact ⟨rfl, by simp⟩)
    | (rename_i h1 h2; cases h; cases RRep.int h1 qa; cases RRep.str h2 qb; exact ⟨rfl, by simp⟩)
    | (rename_i h1 h2; cases h; cases RRep.str h1 qa; cases RRep.int h2 qb; exact ⟨rfl, by simp⟩)
    | (rename_i h1 h2; cases h; cases RRep.bl h1 qa; cases RRep.str h2 qb; exact ⟨rfl, by simp⟩)
    | (rename_i h1 h2; cases h; cases RRep.str h1 qa; cases RRep.bl h2 qb; exact ⟨rfl, by simp⟩)
    | cases h
theorem op2_eq {X : Cx} {W : WX} (hu : X.A.units + 64 < cLine) : Op2 X W (compareOp .Eq) (fun x y => pureF (fun p : R × R => eqF p.1 p.2) (x, y)) := by
  refine op2_of (op_eq.or (op_eqD hu)) fun e g σ H env st N x y u v r S qa qb hr => ?_
  unfold eqF eqE at hr
  cases q : scalE x.d y.d with
  | some b =>
    rw [q] at hr
    cases hr
    obtain ⟨h1, h2⟩ := scal_ok qa qb q
    exact .inl ⟨h1, by rw [h2]; exact Gives.same S rfl⟩
  | none =>
    rw [q] at hr
    unfold deqE at hr
    dsimp only at hr
    cases q1 : toPy x.d with
    | none => rw [q1] at hr; cases hr
    | some a =>
      cases q2 : toPy y.d with
      | none => rw [q1, q2] at hr; cases hr
      | some b =>
        rw [q1, q2] at hr
        dsimp only at hr
        split at hr
        · rename_i c
          cases hr
          simp only [Bool.and_eq_true] at c
          exact .inr ⟨a, b, RRep.dp qa q1, RRep.dp qb q2, c.1, c.2, Gives.same S rfl⟩
        · cases hr
theorem op2_ne {X : Cx} {W : WX} (hu : X.A.units + 64 < cLine) : Op2 X W (compareOp .NotEq) (fun x y => pureF (fun p : R × R => neF p.1 p.2) (x, y)) := by
  refine op2_of (op_ne.or (op_neD hu)) fun e g σ H env st N x y u v r S qa qb hr => ?_
  unfold neF eqE at hr
  cases q : scalE x.d y.d with
  | some b =>
    rw [q] at hr
    cases hr
    obtain ⟨h1, h2⟩ := scal_ok qa qb q
    exact .inl ⟨h1, by rw [h2]; exact Gives.same S rfl⟩
  | none =>
    rw [q] at hr
    unfold deqE at hr
    dsimp only at hr
    cases q1 : toPy x.d with
    | none => rw [q1] at hr; cases hr
    | some a =>
      cases q2 : toPy y.d with
      | none => rw [q1, q2] at hr; cases hr
      | some b =>
        rw [q1, q2] at hr
        dsimp only at hr
        split at hr
        · rename_i c
          cases hr
          simp only [Bool.and_eq_true] at c
          exact .inr ⟨a, b, RRep.dp qa q1, RRep.dp qb q2, c.1, c.2, Gives.same S rfl⟩
        · cases hr
def icF (f : Int → Int → Bool) (x y : R) : Option R := match x.d, y.d with
  | .int i, .int j => some (.val (.bl (f i j)))
  | _, _ => none
theorem op2_ic {X : Cx} {W : WX} {f : Value → Value → Sem Value} {h : Int → Int → Bool} (ho : OpR X f (rI0 fun i j => .bl (h i j))) : Op2 X W f (fun x y => pureF (fun p : R × R => icF h p.1 p.2) (x, y)) := by
  refine op2_of ho fun e g σ H env st N x y u v r S qa qb hr => ?_
  unfold icF at hr
  split at hr
  · rename_i i j hx hy
    cases hr
    exact ⟨i, j, RRep.int hx qa, RRep.int hy qb, Gives.same S rfl⟩
  · cases hr
def isNon : D → Bool
  | .non => true
  | _ => false
theorem rrep_non {G : Gm} {e : Ent} {g : Gh} {σ : L2.St} {H : Hp} {env : List Slot} {N : Addr → Prop} {u : V} : ∀ {x : R}, RRep N e g σ H env G x u → decide (u = .non) = isNon x.d
  | .val .non, q => by cases (q : u = .non); simp [isNon, R.d]
  | .val (.bl _), q => by cases (q : u = .bl _); simp [isNon, R.d]
  | .val (.int _), q => by cases (q : u = .int _); simp [isNon, R.d]
  | .val (.str _), q => by cases (q : u = .str _); simp [isNon, R.d]
  | .val (.tup _), ⟨a, xs, e, _⟩ => by subst e; simp [isNon, R.d]
  | .val (.lst _), ⟨a, xs, e, _⟩ => by subst e; simp [isNon, R.d]
  | .val (.dct _), ⟨a, xs, _, e, _⟩ => by subst e; simp [isNon, R.d]
  | .val (.ref _), ⟨a, e, _⟩ => by subst e; simp [isNon, R.d]
  | .tmp d, ⟨a, e, o, _⟩ => by subst e; cases d <;> first | exact (o : False).elim | simp [isNon, R.d]
  | .own d, ⟨a, e, o, _⟩ => by subst e; cases d <;> first | exact (o : False).elim | simp [isNon, R.d]
def isF (neg : Bool) (x y : R) : Option R := match y.d with
  | .non => some (.val (.bl (neg != isNon x.d)))
  | _ => none
theorem op2_is {X : Cx} {W : WX} : Op2 X W (compareOp .Is) (fun x y => pureF (fun p : R × R => isF false p.1 p.2) (x, y)) := by
  refine op2_of op_isN fun e g σ H env st N x y u v r S qa qb hr => ?_
  unfold isF at hr
  split at hr
  · rename_i hy
    cases hr
    refine ⟨RRep.non hy qb, ?_⟩
    rw [rrep_non qa]
    exact Gives.same S (by simp [Rep])
  · cases hr
theorem op2_isnot {X : Cx} {W : WX} : Op2 X W (compareOp .IsNot) (fun x y => pureF (fun p : R × R => isF true p.1 p.2) (x, y)) := by
  refine op2_of op_notN fun e g σ H env st N x y u v r S qa qb hr => ?_
  unfold isF at hr
  split at hr
  · rename_i hy
    cases hr
    refine ⟨RRep.non hy qb, ?_⟩
    rw [rrep_non qa]
    exact Gives.same S (by simp [Rep])
  · cases hr
/-- x in y: lists, tuples, texts -/
def inE (x y : D) : Option Bool := match y with
  | .str b => match x with
    | .str a => some (!(Builtin.Str.occurrences b a 0 b.length 1).isEmpty)
    | _ => none
  | .lst l => match toPy x, toPys l with
    | some a, some ds => if SeqAt.shaped a && SeqAt.shaped (.list ds) then some (ds.any fun z => PyData.eqv z a) else none
    | _, _ => none
  | .tup l => match toPy x, toPys l with
    | some a, some ds => if SeqAt.shaped a && SeqAt.shaped (.tuple ds) then some (ds.any fun z => PyData.eqv z a) else none
    | _, _ => none
  | _ => none
def inF (neg : Bool) (x y : R) : Option R := blR ((inE x.d y.d).map (neg != ·))
theorem op2_in {X : Cx} {W : WX} (hu : X.A.units + 65 < cLine) : Op2 X W (compareOp .In) (fun x y => pureF (fun p : R × R => inF false p.1 p.2) (x, y)) := by
  refine op2_of (op_in_str.or ((op_inD hu).or (op_inT hu))) fun e g σ H env st N x y u v r S qa qb hr => ?_
  unfold inF inE at hr
  split at hr
  · rename_i b hy
    split at hr
    · rename_i a hx
      cases hr
      exact .inl ⟨a, b, RRep.str hx qa, RRep.str hy qb, Gives.same S (by simp [Rep])⟩
    · cases hr
  · rename_i l hy
    split at hr
    · rename_i a ds h1 h2
      split at hr
      · rename_i c
        cases hr
        simp only [Bool.and_eq_true] at c
        refine .inr (.inl ⟨a, ds, RRep.dp qa h1, RRep.dp qb (by rw [hy]; simp [toPy, h2]), c.1, c.2, Gives.same S (by simp [Rep])⟩)
      · cases hr
    · cases hr
  · rename_i l hy
    split at hr
    · rename_i a ds h1 h2
      split at hr
      · rename_i c
        cases hr
        simp only [Bool.and_eq_true] at c
        refine .inr (.inr ⟨a, ds, RRep.dp qa h1, RRep.dp qb (by rw [hy]; simp [toPy, h2]), c.1, c.2, Gives.same S (by simp [Rep])⟩)
      · cases hr
    · cases hr
  · cases hr
theorem op2_notin {X : Cx} {W : WX} (hu : X.A.units + 65 < cLine) : Op2 X W (compareOp .NotIn) (fun x y => pureF (fun p : R × R => inF true p.1 p.2) (x, y)) := by
  refine op2_of (L2.op_notIn_str.or ((op_notInD hu).or (op_notInT hu))) fun e g σ H env st N x y u v r S qa qb hr => ?_
  unfold inF inE at hr
  split at hr
  · rename_i b hy
    split at hr
    · rename_i a hx
      cases hr
      exact .inl ⟨a, b, RRep.str hx qa, RRep.str hy qb, Gives.same S (by simp [Rep])⟩
    · cases hr
  · rename_i l hy
    split at hr
    · rename_i a ds h1 h2
      split at hr
      · rename_i c
        cases hr
        simp only [Bool.and_eq_true] at c
        refine .inr (.inl ⟨a, ds, RRep.dp qa h1, RRep.dp qb (by rw [hy]; simp [toPy, h2]), c.1, c.2, Gives.same S (by simp [Rep])⟩)
      · cases hr
    · cases hr
  · rename_i l hy
    split at hr
    · rename_i a ds h1 h2
      split at hr
      · rename_i c
        cases hr
        simp only [Bool.and_eq_true] at c
        refine .inr (.inr ⟨a, ds, RRep.dp qa h1, RRep.dp qb (by rw [hy]; simp [toPy, h2]), c.1, c.2, Gives.same S (by simp [Rep])⟩)
      · cases hr
    · cases hr
  · cases hr
end Dn


/-! Dn5 -/
set_option Elab.async false
set_option linter.all false
set_option maxRecDepth 100000
set_option maxHeartbeats 1000000
namespace Dn
open PySem PySem.Spec PyProof.Rows L2

/-! ### from a rule of the hand layer that keeps the ghost -/
section
variable {X : Cx} {W : WX} {pins : List (Addr × Obj)} {σ : L2.St} {e : Ent} {g : Gh} {H : Hp} {env : List Slot} {st : List SO} {s : Shared}
theorem WPt.of_ep {r : R} {s' : S} {t : Sem Value} (I : Iv X pins σ H s) (h : wpAny (model X.prog X.w) X.A t (EP X pins σ (Gives (gm X) e g σ H env r s')) X.xe s) :
    WPt X W pins σ e g H env relV (.ok r s') (fun Q => wpAny (model X.prog X.w) X.A t Q X.xe s) := by
  refine tkn I.t h fun z s1 tz hz => ?_
  obtain ⟨c, H', I', rc, g', S', x', q'⟩ := hz
  exact ⟨g', H', ⟨I', tz⟩, S', x', c, rc, q'⟩
end

/-! ### constants, names -/
def eLit (d : D) : M R := retM (.val d)
def eLoc (i : Nat) : M R := fun s => match s.env[i]? with
  | some (.val d) => .ok (.val d) s
  | some (.own d) => .ok (.val d) { s with env := s.env.set i (.val d) }
  | _ => .stuck
def eBor (i : Nat) : M R := fun s => match s.env[i]? with
  | some (.val d) => .ok (.val d) s
  | some (.own d) => .ok (.tmp d) s
  | _ => .stuck
def eMov (i : Nat) : M R := fun s => match s.env[i]? with
  | some (.val d) => .ok (.val d) s
  | some (.own d) => .ok (.own d) { s with env := s.env.set i .un }
  | _ => .stuck

section
variable {X : Cx} {W : WX} {pos : Pos}
theorem de_pe {ex : Expr} {t : TE} {d : D} (hp : PE X ex t) (hh : ∀ (e : Ent) (g : Gh) (σ : L2.St) (H : Hp) (env : List Slot) (st : List SO), Sim (gm X) e g σ H env st → t σ H (Gives (gm X) e g σ H env (.val d) ⟨env, st⟩)) : DE X W ex (eLit d) :=
  fun pins s σ H e g env st I S => WPt.of_ep I (hp.run pins s σ H _ I.i (hh e g σ H env st S))
theorem de_int {i : Int} {j : Nat} : DE X W (.Constant (.int i) j pos) (eLit (.int i)) := de_pe pe_int fun _ _ _ _ _ _ S => Gives.same S rfl
theorem de_bl {i : Bool} {j : Nat} : DE X W (.Constant (.bool i) j pos) (eLit (.bl i)) := de_pe pe_bl fun _ _ _ _ _ _ S => Gives.same S rfl
theorem de_str {i : Str} {j : Nat} : DE X W (.Constant (.str i) j pos) (eLit (.str i)) := de_pe pe_str fun _ _ _ _ _ _ S => Gives.same S rfl
theorem de_non {j : Nat} : DE X W (.Constant .none j pos) (eLit .non) := de_pe pe_non fun _ _ _ _ _ _ S => Gives.same S rfl

variable {G : Gm} {e : Ent} {g : Gh} {σ : L2.St} {H : Hp} {env env' : List Slot} {st : List SO}
theorem Sim.envs (S : Sim G e g σ H env st) (hl : env'.length = env.length) (hv : ∀ (i : Nat) d, env'[i]? = some (.val d) → ∃ v, σ[i]? = some (some v) ∧ Rep G g H d v) (ho : ∀ (i : Nat) d, env'[i]? = some (.own d) → env[i]? = some (.own d)) :
    Sim G e g σ H env' st :=
  ⟨S.keep, S.fNew, S.fOld, S.ρx, S.ρnd, S.ρF, S.fIn, hl.trans S.len, hv, fun i d h => S.own i d (ho i d h), fun i j d d' a n h1 h2 => S.ownNe i j d d' a n (ho i d h1) (ho j d' h2), S.slen, S.sto⟩
theorem set_get {i j : Nat} {x y : Slot} (h : (env.set i x)[j]? = some y) : (j = i ∧ y = x) ∨ (j ≠ i ∧ env[j]? = some y) := by
  by_cases e : j = i
  · subst e
    by_cases hl : j < env.length
    · rw [List.getElem?_set_self hl] at h
      exact .inl ⟨rfl, (Option.some.inj h).symm⟩
    · rw [List.getElem?_eq_none (by simpa using hl)] at h; cases h
  · rw [List.getElem?_set_ne (Ne.symm e)] at h
    exact .inr ⟨e, h⟩
/-- a slot of one's own is given up -/
theorem Sim.un (S : Sim G e g σ H env st) (i : Nat) : Sim G e g σ H (env.set i .un) st :=
  S.envs (by simp) (fun j d h => by
    rcases set_get h with ⟨_, z⟩ | ⟨_, z⟩
    · cases z
    · exact S.val j d z) fun j d h => by
    rcases set_get h with ⟨_, z⟩ | ⟨_, z⟩
    · cases z
    · exact z
theorem OwnedAt.of_un {i : Nat} {a : Addr} (h : OwnedAt (env.set i .un) σ a) : OwnedAt env σ a := by
  obtain ⟨j, d, h1, h2⟩ := h
  rcases set_get h1 with ⟨_, z⟩ | ⟨_, z⟩
  · cases z
  · exact ⟨j, d, z, h2⟩
theorem Sim.not_owned (S : Sim G e g σ H env st) {i : Nat} {d : D} {a : Addr} (h : env[i]? = some (.own d)) (hs : σ[i]? = some (some (.ref a))) : ¬ OwnedAt (env.set i .un) σ a := fun z => by
  obtain ⟨j, d', h1, h2⟩ := z
  rcases set_get h1 with ⟨_, z⟩ | ⟨ne, z⟩
  · cases z
  · exact S.ownNe i j d d' a (Ne.symm ne) h z hs h2
theorem Step.un (i : Nat) : Step σ g H env g H (env.set i .un) := ⟨fun _ h => h, ⟨[], by simp, by simp⟩, fun _ _ h _ => h, fun _ h => .inl h, fun _ h => h.of_un⟩

theorem de_mov {x : Str} {i : Nat} (hN : X.N[i]? = some x) (hv : Vis X.env.scope x) (hd : (x == ("__debug__" : Str)) = false) (hcd : (x == ("__classdict__" : Str)) = false) : DE X W (.Name x pos) (eMov i) := by
  intro pins s σ H e g env st I S
  unfold eMov
  dsimp only
  have go : ∀ {v : V} {r : R} {s' : Dn.S}, σ[i]? = some (some v) → Gives (gm X) e g σ H env r s' v H → WPt X W pins σ e g H env relV (.ok r s') (fun Q => wpAny (model X.prog X.w) X.A (eval (.Name x pos) X.env) Q X.xe s) := fun {v r s'} h1 h2 =>
    WPt.of_ep I ((pe_var hN hv hd hcd).run pins s σ H _ I.i ⟨v, h1, h2⟩)
  cases q : env[i]? with
  | none => trivial
  | some z =>
    cases z with
    | un => trivial
    | val d =>
      obtain ⟨v, h1, h2⟩ := S.val i d q
      exact go h1 (Gives.same S h2)
    | own d =>
      obtain ⟨a, h1, h2, h3, h4, h5⟩ := S.own i d q
      exact go h1 ⟨g, S.un i, Step.un i, a, rfl, h2, h4, h3, S.not_owned q h1, h5, .inr ⟨i, d, q, h1⟩⟩
theorem de_bor {x : Str} {i : Nat} (hN : X.N[i]? = some x) (hv : Vis X.env.scope x) (hd : (x == ("__debug__" : Str)) = false) (hcd : (x == ("__classdict__" : Str)) = false) : DE X W (.Name x pos) (eBor i) := by
  intro pins s σ H e g env st I S
  unfold eBor
  dsimp only
  have go : ∀ {v : V} {r : R} {s' : Dn.S}, σ[i]? = some (some v) → Gives (gm X) e g σ H env r s' v H → WPt X W pins σ e g H env relV (.ok r s') (fun Q => wpAny (model X.prog X.w) X.A (eval (.Name x pos) X.env) Q X.xe s) := fun {v r s'} h1 h2 =>
    WPt.of_ep I ((pe_var hN hv hd hcd).run pins s σ H _ I.i ⟨v, h1, h2⟩)
  cases q : env[i]? with
  | none => trivial
  | some z =>
    cases z with
    | un => trivial
    | val d =>
      obtain ⟨v, h1, h2⟩ := S.val i d q
      exact go h1 (Gives.same S h2)
    | own d =>
      obtain ⟨a, h1, h2, h3, h4, h5⟩ := S.own i d q
      exact go h1 ⟨g, S, Step.refl, a, rfl, h2, h4⟩
theorem Sim.freeze (S : Sim G e g σ H env st) {i : Nat} {d : D} {a : Addr} (q : env[i]? = some (.own d)) (h1 : σ[i]? = some (some (.ref a))) (h2 : OwnAt G g H a d) (h3 : ¬ g.F a) (h4 : a ∉ g.ρ) (h5 : e.H a = none) :
    Sim G e (g.add a) σ H (env.set i (.val d)) st ∧ Step σ g H env (g.add a) H (env.set i (.val d)) ∧ Rep G (g.add a) H d (.ref a) := by
  have S1 := (S.un i).add h2.some h4 (S.not_owned q h1) h5
  have r1 : Rep G (g.add a) H d (.ref a) := (h2.mono MonoG.add fun _ h => h).rep (show (g.add a).F a from .inr rfl)
  have un_of : ∀ (j : Nat) (z : Slot), j ≠ i → (env.set i (.val d))[j]? = some z → (env.set i .un)[j]? = some z := fun j z ne h => by
    rw [List.getElem?_set_ne (Ne.symm ne)] at h ⊢; exact h
  refine ⟨S1.envs (by simp) (fun j d' h => ?_) (fun j d' h => ?_), ⟨fun _ h => .inl h, ⟨[], by simp [Gh.add], by simp⟩, fun _ _ h _ => h, fun b h => ?_, fun b h => ?_⟩, r1⟩
  · rcases set_get h with ⟨rfl, z⟩ | ⟨ne, z⟩
    · cases z; exact ⟨.ref a, h1, r1⟩
    · exact S1.val j d' (un_of j _ ne h)
  · rcases set_get h with ⟨rfl, z⟩ | ⟨ne, z⟩
    · cases z
    · exact un_of j _ ne h
  · rcases h with h | rfl
    · exact .inl h
    · exact .inr (.inr ⟨i, d, q, h1⟩)
  · obtain ⟨j, d', h6, h7⟩ := h
    rcases set_get h6 with ⟨_, z⟩ | ⟨ne, z⟩
    · cases z
    · exact ⟨j, d', z, h7⟩
theorem de_loc {x : Str} {i : Nat} (hN : X.N[i]? = some x) (hv : Vis X.env.scope x) (hd : (x == ("__debug__" : Str)) = false) (hcd : (x == ("__classdict__" : Str)) = false) : DE X W (.Name x pos) (eLoc i) := by
  intro pins s σ H e g env st I S
  unfold eLoc
  dsimp only
  have go : ∀ {v : V} {r : R} {s' : Dn.S}, σ[i]? = some (some v) → Gives (gm X) e g σ H env r s' v H → WPt X W pins σ e g H env relV (.ok r s') (fun Q => wpAny (model X.prog X.w) X.A (eval (.Name x pos) X.env) Q X.xe s) := fun {v r s'} h1 h2 =>
    WPt.of_ep I ((pe_var hN hv hd hcd).run pins s σ H _ I.i ⟨v, h1, h2⟩)
  cases q : env[i]? with
  | none => trivial
  | some z =>
    cases z with
    | un => trivial
    | val d =>
      obtain ⟨v, h1, h2⟩ := S.val i d q
      exact go h1 (Gives.same S h2)
    | own d =>
      obtain ⟨a, h1, h2, h3, h4, h5⟩ := S.own i d q
      obtain ⟨S1, x1, r1⟩ := S.freeze q h1 h2 h3 h4 h5
      exact go h1 ⟨g.add a, S1, x1, r1⟩
/-- a module's constant -/
theorem de_glb {x : Str} {d : D} {v : V} {u : Value} (hg : Gl X x) (hm : X.mg x = some u) (r : RelV v u) (hd : (x == ("__debug__" : Str)) = false) (hr : ∀ g H, Rep (gm X) g H d v) : DE X W (.Name x pos) (eLit d) :=
  de_pe (pe_glob hg hm r hd) fun _ g _ H _ _ S => Gives.same S (hr g H)
end

/-! ### operators -/
section
variable {X : Cx} {W : WX} {pos : Pos} {a b c : Expr} {fa fb fc : M R} {h h' : R → R → M R}
instance {β γ : Type} {M : Model} {A : Around} {t : Sem β} {E : Value → Shared → Prop} {s : Shared} {tr2 : β → Shared → Tr γ} [hm : ∀ u s, MonoT (tr2 u s)] : MonoT (fun Q => wpAny M A t (fun u s1 => tr2 u s1 Q) E s) :=
  ⟨fun k x => thn x fun u s1 y => (hm u s1).mono k y⟩
/-- two in a row -/
theorem two_in {T : Sem Value} {pins : List (Addr × Obj)} {s : Shared} {σ : L2.St} {H : Hp} {e : Ent} {g : Gh} {env : List Slot} {st : List SO} {f : Value → Value → Sem Value} (ha : DE X W a fa) (hb : DE X W b fb) (ho : Op2 X W f h) (I : Iv X pins σ H s) (S : Sim (gm X) e g σ H env st) :
    WPt X W pins σ e g H env relV (bindM fa (fun x => bindM fb fun y => h x y) ⟨env, st⟩) (fun Q => wpAny (model X.prog X.w) X.A (eval a X.env) (fun v s1 => wpAny (model X.prog X.w) X.A (eval b X.env) (fun u s2 => wpAny (model X.prog X.w) X.A (f v u) Q X.xe s2) X.xe s1) X.xe s) := by
  refine WPt.chain (ha pins s σ H e g env st I S) fun x s' v s1 g1 H1 _ I1 S1 x1 re1 => ?_
  refine WPt.chain (hb pins s1 σ H1 e g1 s'.env s'.st I1 S1) fun y s2' u s2 g2 H2 _ I2 S2 x2 re2 => ?_
  obtain ⟨w1, rw1, q1⟩ := re1
  obtain ⟨w2, rw2, q2⟩ := re2
  exact ho pins s2 σ H2 e g2 s2'.env s2'.st (fun _ => True) x y v u I2 S2 ⟨w1, rw1, (q1.step S1 x2).up fun _ _ => trivial⟩ ⟨w2, rw2, q2.up fun _ _ => trivial⟩
def eBin (h : R → R → M R) (fa fb : M R) : M R := bindM fa fun x => bindM fb fun y => h x y
theorem de_bin {op : Operator} (ha : DE X W a fa) (hb : DE X W b fb) (ho : Op2 X W (binaryOp op) h) : DE X W (.BinOp a op b pos) (eBin h fa fb) :=
  fun pins s σ H e g env st I S => (two_in (T := eval a X.env) ha hb ho I S).imp fun Q q => wpAny_BinOp q
theorem de_cmp {op : CmpOp} (ha : DE X W a fa) (hb : DE X W b fb) (ho : Op2 X W (compareOp op) h) (hm : behindInMarks op b = false) : DE X W (.Compare a [op] [b] pos) (eBin h fa fb) :=
  fun pins s σ H e g env st I S => (two_in (T := eval a X.env) ha hb ho I S).imp fun Q q => wpAny_Compare1 q hm
/-- a truth -/
def asBl : D → Option Bool
  | .bl b => some b
  | _ => none
theorem asBl_eq : ∀ {d : D} {b : Bool}, asBl d = some b → d = .bl b
  | .bl _, _, h => by cases h; rfl
  | .non, _, h => by cases h
  | .int _, _, h => by cases h
  | .str _, _, h => by cases h
  | .tup _, _, h => by cases h
  | .lst _, _, h => by cases h
  | .dct _, _, h => by cases h
  | .ref _, _, h => by cases h
def truF : R → M Bool := pureF fun r => asBl r.d
theorem truF_ok {r : R} {s s' : S} {b : Bool} (h : truF r s = .ok b s') : r.d = .bl b ∧ s' = s := by
  unfold truF pureF at h
  dsimp only at h
  cases q : asBl r.d with
  | none => rw [q] at h; cases h
  | some c => rw [q] at h; cases h; exact ⟨asBl_eq q, rfl⟩
theorem relV_bl {N : Addr → Prop} {e : Ent} {g : Gh} {σ : L2.St} {H : Hp} {env : List Slot} {G : Gm} {r : R} {u : Value} {b : Bool} (hr : r.d = .bl b) (h : relV N e g σ H env G r u) : u = .bool b := by
  obtain ⟨v, rv, q⟩ := h
  cases RRep.bl hr q
  exact rv
/-- a value that is a bool, tested -/
theorem tru_wpt {pins : List (Addr × Obj)} {σ : L2.St} {e : Ent} {g : Gh} {H : Hp} {env : List Slot} {st : List SO} {N : Addr → Prop} {r : R} {u : Value} {s : Shared} (I : Iv X pins σ H s) (S : Sim (gm X) e g σ H env st) (re : relV N e g σ H env (gm X) r u) :
    WPt X W pins σ e g H env relB (truF r ⟨env, st⟩) (fun Q => wpAny (model X.prog X.w) X.A (truthy u) Q X.xe s) := by
  unfold truF pureF
  dsimp only
  cases q : asBl r.d with
  | none => trivial
  | some b =>
    cases relV_bl (asBl_eq q) re
    exact wpAny_truthy_bool ⟨g, H, I, S, Step.refl, rfl⟩
def tVal (fa : M R) : M Bool := bindM fa truF
theorem dt_val (ha : DE X W a fa) (he : ∀ whole, isTrue a X.env whole = (do let v ← whole; standAt a.pos; holding [v] (truthy v))) : DT X W a (tVal fa) :=
  fun pins s σ H e g env st I S => (WPt.chain (ha pins s σ H e g env st I S) fun x s' v s1 g1 H1 _ I1 S1 x1 re1 => tru_wpt I1 S1 re1).imp fun Q q => isTrue_plain q (he _)
theorem dt_cmp {op : CmpOp} (ha : DE X W a fa) (hb : DE X W b fb) (ho : Op2 X W (compareOp op) h) (hm : behindInMarks op b = false) : DT X W (.Compare a [op] [b] pos) (tVal (eBin h fa fb)) := by
  intro pins s σ H e g env st I S
  refine (WPt.chain (two_in (T := eval a X.env) ha hb ho I S) fun x s' v s1 g1 H1 _ I1 S1 x1 re1 => tru_wpt I1 S1 re1).imp fun Q q => ?_
  exact wpAny_isTrue_Compare1 q hm
/-- a op b op' c -/
def eChain (h h' : R → R → M R) (fa fb fc : M R) : M R := bindM fa fun x => bindM fb fun y => bindM (h x y) fun r => bindM (truF r) fun k => if k = true then bindM fc fun z => h' y z else retM (.val (.bl false))
theorem chain_end {pins : List (Addr × Obj)} {s4 : Shared} {σ : L2.St} {H4 : Hp} {e : Ent} {g4 : Gh} {s4' : Dn.S} {f' : Value → Value → Sem Value} {y : R} {u : Value} {w2 : V} (hc : DE X W c fc) (ho' : Op2 X W f' h') (I4 : Iv X pins σ H4 s4) (S4 : Sim (gm X) e g4 σ H4 s4'.env s4'.st)
    (rw2 : RelV w2 u) (q2 : RRep (fun _ => True) e g4 σ H4 s4'.env (gm X) y w2) :
    WPt X W pins σ e g4 H4 s4'.env relV (bindM fc (fun z => h' y z) s4') (fun Q => wpAny (model X.prog X.w) X.A (eval c X.env) (fun w s5 => wpAny (model X.prog X.w) X.A (f' u w) Q X.xe s5) X.xe s4) := by
  refine WPt.chain (hc pins s4 σ H4 e g4 s4'.env s4'.st I4 S4) fun z s5' w s5 g5 H5 _ I5 S5 x5 re5 => ?_
  obtain ⟨w5, rw5, q5⟩ := re5
  exact ho' pins s5 σ H5 e g5 s5'.env s5'.st (fun _ => True) y z u w I5 S5 ⟨w2, rw2, q2.step S4 x5⟩ ⟨w5, rw5, q5.up fun _ _ => trivial⟩
theorem de_chain {op op' : CmpOp} (ha : DE X W a fa) (hb : DE X W b fb) (hc : DE X W c fc) (ho : Op2 X W (compareOp op) h) (ho' : Op2 X W (compareOp op') h') (hm : lastMarks [op, op'] [b, c] = false) : DE X W (.Compare a [op, op'] [b, c] pos) (eChain h h' fa fb fc) := by
  intro pins s σ H e g env st I S
  have mono : ∀ (u d : Value) (k : Bool) (s4 : Shared), MonoT (fun Q : Value → Shared → Prop => if k = true then wpAny (model X.prog X.w) X.A (eval c X.env) (fun w s5 => wpAny (model X.prog X.w) X.A (compareOp op' u w) Q X.xe s5) X.xe s4 else Q d s4) := fun u d k s4 => by
    cases k
    · exact ⟨fun h x => h _ _ x⟩
    · exact ⟨fun h x => thn x fun w s5 y => thn y h⟩
  refine WPt.imp (tr := fun Q => wpAny (model X.prog X.w) X.A (eval a X.env) (fun v s1 => wpAny (model X.prog X.w) X.A (eval b X.env) (fun u s2 => wpAny (model X.prog X.w) X.A (compareOp op v u) (fun d s3 =>
      wpAny (model X.prog X.w) X.A (truthy d) (fun k s4 => if k = true then wpAny (model X.prog X.w) X.A (eval c X.env) (fun w s5 => wpAny (model X.prog X.w) X.A (compareOp op' u w) Q X.xe s5) X.xe s4 else Q d s4) X.xe s3) X.xe s2) X.xe s1) X.xe s) ?_ (fun Q q => Compare_chain (thn q fun v s1 q1 => chain_link (thn q1 fun u s2 q2 => thn q2 fun d s3 q3 => thn q3 fun k s4 q4 => by
    cases k with
    | false => exact ite_ff (by simpa using q4)
    | true => exact ite_tt (chain_last (by simpa using q4)))) hm)
  refine WPt.chain (ha pins s σ H e g env st I S) fun x s' v s1 g1 H1 _ I1 S1 x1 re1 => ?_
  refine WPt.chain (hb pins s1 σ H1 e g1 s'.env s'.st I1 S1) fun y s2' u s2 g2 H2 _ I2 S2 x2 re2 => ?_
  obtain ⟨w1, rw1, q1⟩ := re1
  obtain ⟨w2, rw2, q2⟩ := re2
  refine WPt.chain (ho pins s2 σ H2 e g2 s2'.env s2'.st (fun _ => True) x y v u I2 S2 ⟨w1, rw1, (q1.step S1 x2).up fun _ _ => trivial⟩ ⟨w2, rw2, q2.up fun _ _ => trivial⟩) fun r s3' d s3 g3 H3 _ I3 S3 x3 re3 => ?_
  refine WPt.chain (hm := fun k s4 => mono u d k s4) (tru_wpt I3 S3 re3) fun k s4' k' s4 g4 H4 hk4 I4 S4 x4 re4 => ?_
  cases (re4 : k = k')
  cases k with
  | false =>
    simp only [Bool.false_eq_true, if_false]
    cases relV_bl (truF_ok hk4).1 re3
    exact ⟨g4, H4, I4, S4, Step.refl, .bl false, rfl, rfl⟩
  | true =>
    simp only [if_true]
    exact chain_end hc ho' I4 S4 rw2 (((q2.step S2 x3).step S3 x4).up fun _ _ => trivial)
/-- .. as a test -/
def tChn (h h' : R → R → M R) (fa fb fc : M R) : M Bool := bindM fa fun x => bindM fb fun y => bindM (h x y) fun r => bindM (truF r) fun k => if k = true then bindM (bindM fc fun z => h' y z) truF else retM false
theorem dt_chain {op op' : CmpOp} (ha : DE X W a fa) (hb : DE X W b fb) (hc : DE X W c fc) (ho : Op2 X W (compareOp op) h) (ho' : Op2 X W (compareOp op') h') (hm : lastMarks [op, op'] [b, c] = false) : DT X W (.Compare a [op, op'] [b, c] pos) (tChn h h' fa fb fc) := by
  intro pins s σ H e g env st I S
  have mono : ∀ (u : Value) (k : Bool) (s4 : Shared), MonoT (fun Q : Bool → Shared → Prop => if k = true then wpAny (model X.prog X.w) X.A (eval c X.env) (fun w s5 => wpAny (model X.prog X.w) X.A (compareOp op' u w) (fun d s6 => wpAny (model X.prog X.w) X.A (truthy d) Q X.xe s6) X.xe s5) X.xe s4 else Q false s4) := fun u k s4 => by
    cases k
    · exact ⟨fun h x => h _ _ x⟩
    · exact ⟨fun h x => thn x fun w s5 y => thn y fun d s6 z => thn z h⟩
  refine WPt.imp (tr := fun Q => wpAny (model X.prog X.w) X.A (eval a X.env) (fun v s1 => wpAny (model X.prog X.w) X.A (eval b X.env) (fun u s2 => wpAny (model X.prog X.w) X.A (compareOp op v u) (fun d s3 =>
      wpAny (model X.prog X.w) X.A (truthy d) (fun k s4 => if k = true then wpAny (model X.prog X.w) X.A (eval c X.env) (fun w s5 => wpAny (model X.prog X.w) X.A (compareOp op' u w) (fun d s6 => wpAny (model X.prog X.w) X.A (truthy d) Q X.xe s6) X.xe s5) X.xe s4 else Q false s4) X.xe s3) X.xe s2) X.xe s1) X.xe s) ?_ (fun Q q => isTrue_chain (thn q fun v s1 q1 => test_link (thn q1 fun u s2 q2 => thn q2 fun d s3 q3 => thn q3 fun k s4 q4 => by
    cases k with
    | false => exact ite_ff (by simpa using q4)
    | true => exact ite_tt (test_last (by simpa using q4)))) hm)
  refine WPt.chain (ha pins s σ H e g env st I S) fun x s' v s1 g1 H1 _ I1 S1 x1 re1 => ?_
  refine WPt.chain (hb pins s1 σ H1 e g1 s'.env s'.st I1 S1) fun y s2' u s2 g2 H2 _ I2 S2 x2 re2 => ?_
  obtain ⟨w1, rw1, q1⟩ := re1
  obtain ⟨w2, rw2, q2⟩ := re2
  refine WPt.chain (ho pins s2 σ H2 e g2 s2'.env s2'.st (fun _ => True) x y v u I2 S2 ⟨w1, rw1, (q1.step S1 x2).up fun _ _ => trivial⟩ ⟨w2, rw2, q2.up fun _ _ => trivial⟩) fun r s3' d s3 g3 H3 _ I3 S3 x3 re3 => ?_
  refine WPt.chain (hm := fun k s4 => mono u k s4) (tru_wpt I3 S3 re3) fun k s4' k' s4 g4 H4 hk4 I4 S4 x4 re4 => ?_
  cases (re4 : k = k')
  cases k with
  | false =>
    simp only [Bool.false_eq_true, if_false]
    exact ⟨g4, H4, I4, S4, Step.refl, rfl⟩
  | true =>
    simp only [if_true]
    exact WPt.chain (chain_end hc ho' I4 S4 rw2 (((q2.step S2 x3).step S3 x4).up fun _ _ => trivial)) fun r5 s6' d2 s6 g6 H6 _ I6 S6 x6 re6 => tru_wpt I6 S6 re6
end

/-! ### not, and, or, if -/
section
variable {X : Cx} {W : WX} {pos : Pos} {a b c : Expr} {rest : List Expr} {fa fb : M R} {ta tb : M Bool}
def tNotM (ta : M Bool) : M Bool := bindM ta fun b => retM (!b)
theorem dt_not (ha : DT X W a ta) : DT X W (.UnaryOp .Not a pos) (tNotM ta) := by
  intro pins s σ H e g env st I S
  refine WPt.imp (tr := fun Q => wpAny (model X.prog X.w) X.A (isTrue a X.env (eval a X.env)) (fun b s1 => Q (!b) s1) X.xe s) ?_ (fun Q q => isTrue_not q)
  refine WPt.chain (tr2 := fun b s1 Q => Q (!b) s1) (hm := fun b s1 => ⟨fun h x => h _ _ x⟩) (ha pins s σ H e g env st I S) fun b s' b' s1 g1 H1 _ I1 S1 x1 re1 => ?_
  cases (re1 : b = b')
  exact ⟨g1, H1, I1, S1, Step.refl, rfl⟩
def eNotM (fa : M R) : M R := bindM (bindM fa truF) fun b => retM (.val (.bl (!b)))
theorem de_not (ha : DE X W a fa) : DE X W (.UnaryOp .Not a pos) (eNotM fa) := by
  intro pins s σ H e g env st I S
  refine WPt.imp (tr := fun Q => wpAny (model X.prog X.w) X.A (eval a X.env) (fun v s1 => wpAny (model X.prog X.w) X.A (truthy v) (fun b s2 => Q (.bool (!b)) s2) X.xe s1) X.xe s) ?_ (fun Q q => UnaryOp_ (thn q fun v s1 q1 => not_of q1))
  refine WPt.chain (tr1 := fun Q => wpAny (model X.prog X.w) X.A (eval a X.env) (fun v s1 => wpAny (model X.prog X.w) X.A (truthy v) Q X.xe s1) X.xe s) (tr2 := fun (b : Bool) (s1 : Shared) (Q : Value → Shared → Prop) => Q (Value.bool (!b)) s1) (hm := fun b s1 => ⟨fun h x => h _ _ x⟩)
    (WPt.chain (ha pins s σ H e g env st I S) fun r s' v s1 g1 H1 _ I1 S1 x1 re1 => tru_wpt I1 S1 re1) fun b s' b' s1 g1 H1 _ I1 S1 x1 re1 => ?_
  cases (re1 : b = b')
  exact ⟨g1, H1, I1, S1, Step.refl, .bl (!b), rfl, rfl⟩
/-- a and b and .. (isTrue whatever its whole is) -/
def DW (X : Cx) (W : WX) (ex : Expr) (f : M Bool) : Prop := ∀ whole : Sem Value, RunsE X W (isTrue ex X.env whole) relB f
theorem DW.dt {ex : Expr} {f : M Bool} (h : DW X W ex f) : DT X W ex f := h _
theorem dw_and1 (ha : DT X W a ta) : DW X W (.BoolOp .And [a] pos) ta := by
  intro wh pins s σ H e g env st I S
  refine (ha pins s σ H e g env st I S).imp fun Q q => isTrue_and (thn q fun b s1 q1 => ?_)
  cases b with
  | true => exact isTrue_and_nil q1
  | false => exact q1
theorem dw_or1 (ha : DT X W a ta) : DW X W (.BoolOp .Or [a] pos) ta := by
  intro wh pins s σ H e g env st I S
  refine (ha pins s σ H e g env st I S).imp fun Q q => isTrue_or (thn q fun b s1 q1 => ?_)
  cases b with
  | false => exact isTrue_or_nil q1
  | true => exact q1
def tAndM (ta tb : M Bool) : M Bool := bindM ta fun b => if b = true then tb else retM false
def tOrM (ta tb : M Bool) : M Bool := bindM ta fun b => if b = true then retM true else tb
theorem dw_and (ha : DT X W a ta) (hb : DW X W (.BoolOp .And (b :: rest) pos) tb) : DW X W (.BoolOp .And (a :: b :: rest) pos) (tAndM ta tb) := by
  intro wh pins s σ H e g env st I S
  refine WPt.imp (tr := fun Q => wpAny (model X.prog X.w) X.A (isTrue a X.env (eval a X.env)) (fun k s1 => if k = true then wpAny (model X.prog X.w) X.A (isTrue (.BoolOp .And (b :: rest) pos) X.env wh) Q X.xe s1 else Q false s1) X.xe s) ?_ (fun Q q => isTrue_and (thn q fun k s1 q1 => by
    cases k with
    | true => simpa using q1
    | false => simpa using q1))
  refine WPt.chain (hm := fun k s1 => by cases k; exact ⟨fun h x => h _ _ x⟩; exact ⟨fun h x => thn x h⟩) (ha pins s σ H e g env st I S) fun k s' k' s1 g1 H1 _ I1 S1 x1 re1 => ?_
  cases (re1 : k = k')
  cases k with
  | true => simp only [if_true]; exact hb wh pins s1 σ H1 e g1 s'.env s'.st I1 S1
  | false => simp only [Bool.false_eq_true, if_false]; exact ⟨g1, H1, I1, S1, Step.refl, rfl⟩
theorem dw_or (ha : DT X W a ta) (hb : DW X W (.BoolOp .Or (b :: rest) pos) tb) : DW X W (.BoolOp .Or (a :: b :: rest) pos) (tOrM ta tb) := by
  intro wh pins s σ H e g env st I S
  refine WPt.imp (tr := fun Q => wpAny (model X.prog X.w) X.A (isTrue a X.env (eval a X.env)) (fun k s1 => if k = true then Q true s1 else wpAny (model X.prog X.w) X.A (isTrue (.BoolOp .Or (b :: rest) pos) X.env wh) Q X.xe s1) X.xe s) ?_ (fun Q q => isTrue_or (thn q fun k s1 q1 => by
    cases k with
    | true => simpa using q1
    | false => simpa using q1))
  refine WPt.chain (hm := fun k s1 => by cases k; exact ⟨fun h x => thn x h⟩; exact ⟨fun h x => h _ _ x⟩) (ha pins s σ H e g env st I S) fun k s' k' s1 g1 H1 _ I1 S1 x1 re1 => ?_
  cases (re1 : k = k')
  cases k with
  | false => simp only [Bool.false_eq_true, if_false]; exact hb wh pins s1 σ H1 e g1 s'.env s'.st I1 S1
  | true => simp only [if_true]; exact ⟨g1, H1, I1, S1, Step.refl, rfl⟩
/-- .. as values -/
theorem de_one {op : BoolOp} (ha : DE X W a fa) : DE X W (.BoolOp op [a] pos) fa := fun pins s σ H e g env st I S => (ha pins s σ H e g env st I S).imp fun Q q => BoolOp_one q
def eAndM (fa fb : M R) : M R := bindM fa fun r => bindM (truF r) fun b => if b = true then fb else retM (.val (.bl false))
def eOrM (fa fb : M R) : M R := bindM fa fun r => bindM (truF r) fun b => if b = true then retM (.val (.bl true)) else fb
theorem de_and (ha : DE X W a fa) (hb : DE X W (.BoolOp .And (b :: rest) pos) fb) : DE X W (.BoolOp .And (a :: b :: rest) pos) (eAndM fa fb) := by
  intro pins s σ H e g env st I S
  have mono : ∀ (v : Value) (k : Bool) (s2 : Shared), MonoT (fun Q : Value → Shared → Prop => if k = true then wpAny (model X.prog X.w) X.A (eval (.BoolOp .And (b :: rest) pos) X.env) Q X.xe s2 else Q v s2) := fun v k s2 => by
    cases k
    · exact ⟨fun h x => h _ _ x⟩
    · exact ⟨fun h x => thn x h⟩
  refine WPt.imp (tr := fun Q => wpAny (model X.prog X.w) X.A (eval a X.env) (fun v s1 => wpAny (model X.prog X.w) X.A (truthy v) (fun k s2 => (if k = true then wpAny (model X.prog X.w) X.A (eval (.BoolOp .And (b :: rest) pos) X.env) Q X.xe s2 else Q v s2)) X.xe s1) X.xe s) ?_ (fun Q q => BoolOp_and (thn q fun v s1 q1 => thn q1 fun k s2 q2 => by
    cases k with
    | true => simpa using q2
    | false => simpa using q2))
  refine WPt.chain (ha pins s σ H e g env st I S) fun r s' v s1 g1 H1 _ I1 S1 x1 re1 => ?_
  refine WPt.chain (hm := fun k s4 => mono v k s4) (tru_wpt I1 S1 re1) fun k s2' k' s2 g2 H2 hk I2 S2 x2 re2 => ?_
  cases (re2 : k = k')
  cases k with
  | true => simp only [if_true]; exact hb pins s2 σ H2 e g2 s2'.env s2'.st I2 S2
  | false =>
    simp only [Bool.false_eq_true, if_false]
    cases relV_bl (truF_ok hk).1 re1
    exact ⟨g2, H2, I2, S2, Step.refl, .bl false, rfl, rfl⟩
theorem de_or (ha : DE X W a fa) (hb : DE X W (.BoolOp .Or (b :: rest) pos) fb) : DE X W (.BoolOp .Or (a :: b :: rest) pos) (eOrM fa fb) := by
  intro pins s σ H e g env st I S
  have mono : ∀ (v : Value) (k : Bool) (s2 : Shared), MonoT (fun Q : Value → Shared → Prop => if k = true then Q v s2 else wpAny (model X.prog X.w) X.A (eval (.BoolOp .Or (b :: rest) pos) X.env) Q X.xe s2) := fun v k s2 => by
    cases k
    · exact ⟨fun h x => thn x h⟩
    · exact ⟨fun h x => h _ _ x⟩
  refine WPt.imp (tr := fun Q => wpAny (model X.prog X.w) X.A (eval a X.env) (fun v s1 => wpAny (model X.prog X.w) X.A (truthy v) (fun k s2 => (if k = true then Q v s2 else wpAny (model X.prog X.w) X.A (eval (.BoolOp .Or (b :: rest) pos) X.env) Q X.xe s2)) X.xe s1) X.xe s) ?_ (fun Q q => BoolOp_or (thn q fun v s1 q1 => thn q1 fun k s2 q2 => by
    cases k with
    | true => simpa using q2
    | false => simpa using q2))
  refine WPt.chain (ha pins s σ H e g env st I S) fun r s' v s1 g1 H1 _ I1 S1 x1 re1 => ?_
  refine WPt.chain (hm := fun k s4 => mono v k s4) (tru_wpt I1 S1 re1) fun k s2' k' s2 g2 H2 hk I2 S2 x2 re2 => ?_
  cases (re2 : k = k')
  cases k with
  | false => simp only [Bool.false_eq_true, if_false]; exact hb pins s2 σ H2 e g2 s2'.env s2'.st I2 S2
  | true =>
    simp only [if_true]
    cases relV_bl (truF_ok hk).1 re1
    exact ⟨g2, H2, I2, S2, Step.refl, .bl true, rfl, rfl⟩
def eIfM (t : M Bool) (fa fb : M R) : M R := bindM t fun b => if b = true then fa else fb
theorem de_if (hc : DT X W c ta) (ha : DE X W a fa) (hb : DE X W b fb) : DE X W (.IfExp c a b pos) (eIfM ta fa fb) := by
  intro pins s σ H e g env st I S
  refine WPt.imp (tr := fun Q => wpAny (model X.prog X.w) X.A (isTrue c X.env (eval c X.env)) (fun k s1 => if k = true then wpAny (model X.prog X.w) X.A (eval a X.env) Q X.xe s1 else wpAny (model X.prog X.w) X.A (eval b X.env) Q X.xe s1) X.xe s) ?_ (fun Q q => wpAny_IfExp (thn q fun k s1 q1 => by
    cases k with
    | true => simpa using q1
    | false => simpa using q1))
  refine WPt.chain (hm := fun k s1 => by cases k; exact ⟨fun h x => thn x h⟩; exact ⟨fun h x => thn x h⟩) (hc pins s σ H e g env st I S) fun k s' k' s1 g1 H1 _ I1 S1 x1 re1 => ?_
  cases (re1 : k = k')
  cases k with
  | true => simp only [if_true]; exact ha pins s1 σ H1 e g1 s'.env s'.st I1 S1
  | false => simp only [Bool.false_eq_true, if_false]; exact hb pins s1 σ H1 e g1 s'.env s'.st I1 S1
end
end Dn


/-! Dn6 -/
set_option Elab.async false
set_option linter.all false
set_option maxRecDepth 100000
set_option maxHeartbeats 1000000
namespace Dn
open PySem PySem.Spec PyProof.Rows L2

/-! ### argument lists -/
def isOwn : R → Bool
  | .own _ => true
  | _ => false
def RReps (N : Addr → Prop) (e : Ent) (g : Gh) (σ : L2.St) (H : Hp) (env : List Slot) (G : Gm) : List R → List V → Prop
  | [], vs => vs = []
  | r :: rs, vs => ∃ v vr, vs = v :: vr ∧ RRep N e g σ H env G r v ∧ RReps N e g σ H env G rs vr ∧ (isOwn r = true → ∀ (j : Nat) r', rs[j]? = some r' → isOwn r' = true → vr[j]? ≠ some v)
def relLR : RelT (List R) (List Value) := fun N e g σ H env G rs us => ∃ vs, Vals vs us ∧ RReps N e g σ H env G rs vs
theorem RReps.up {N N' : Addr → Prop} {e : Ent} {g : Gh} {σ : L2.St} {H : Hp} {env : List Slot} {G : Gm} (h : ∀ a, N a → N' a) : ∀ {rs : List R} {vs : List V}, RReps N e g σ H env G rs vs → RReps N' e g σ H env G rs vs
  | [], _, q => q
  | r :: rs, _, ⟨v, vr, e1, q1, q2, q3⟩ => ⟨v, vr, e1, q1.up h, q2.up h, q3⟩
instance : Up relLR := ⟨fun h ⟨vs, r, q⟩ => ⟨vs, r, q.up h⟩⟩
theorem RReps.at {N : Addr → Prop} {e : Ent} {g : Gh} {σ : L2.St} {H : Hp} {env : List Slot} {G : Gm} : ∀ {rs : List R} {vs : List V} {j : Nat} {r : R}, RReps N e g σ H env G rs vs → rs[j]? = some r → ∃ v, vs[j]? = some v ∧ RRep N e g σ H env G r v
  | [], _, _, _, _, h => by simp at h
  | _ :: _, _, 0, _, ⟨v, vr, e1, q1, _, _⟩, h => by
    simp at h; subst h
    exact ⟨v, by rw [e1]; rfl, q1⟩
  | _ :: rs, _, j + 1, _, ⟨v, vr, e1, _, q2, _⟩, h => by
    obtain ⟨w, h1, h2⟩ := RReps.at (j := j) q2 (by simpa using h)
    exact ⟨w, by rw [e1]; simpa using h1, h2⟩
theorem RReps.apart {N : Addr → Prop} {e e' : Ent} {g g' : Gh} {σ : L2.St} {H' H1 : Hp} {env' env1 : List Slot} {G G' : Gm} {r : R} {rs : List R} {v : V} {vr : List V} (q1 : RRep N e g σ H1 env1 G r v) (q2 : RReps (New H1 env1 σ) e' g' σ H' env' G' rs vr) :
    isOwn r = true → ∀ (j : Nat) r', rs[j]? = some r' → isOwn r' = true → vr[j]? ≠ some v := by
  intro ho j r' hj ho' hv
  cases r with
  | own d =>
    obtain ⟨a, rfl, h2, h3, h4, h5, h6, h7⟩ := q1
    obtain ⟨w, hw, qw⟩ := q2.at hj
    rw [hv] at hw
    cases hw
    cases r' with
    | own d' =>
      obtain ⟨b, eb, _, _, _, _, _, n⟩ := qw
      cases eb
      rcases n with n | n
      · exact h2.some n
      · exact h5 n
    | val _ => cases ho'
    | tmp _ => cases ho'
  | val _ => cases ho
  | tmp _ => cases ho
def relLRof (N : Addr → Prop) : RelT (List R) (List Value) := fun _ e g σ H env G rs us => ∃ vs, Vals vs us ∧ RReps N e g σ H env G rs vs
instance {N : Addr → Prop} : Up (relLRof N) := ⟨fun h q => q⟩
def DAr (X : Cx) (W : WX) (es : List Expr) (f : M (List R)) : Prop := ∀ pos, RunsE X W (spliced (backTo pos (starEach es X.env))) relLR f
def DAd (X : Cx) (W : WX) (es : List Expr) (f : M (List D)) : Prop := ∀ pos, RunsE X W (spliced (backTo pos (starEach es X.env))) relL f
def argR (fa : M R) (fs : M (List R)) : M (List R) := bindM fa fun r => bindM fs fun l => retM (r :: l)
def argD (fa : M R) (fs : M (List D)) : M (List D) := bindM (bindM fa escF) fun r => bindM fs fun l => retM (r :: l)
section
variable {X : Cx} {W : WX} {a : Expr} {es : List Expr} {fa : M R} {pos : Pos}
theorem dar_nil : DAr X W [] (retM []) := fun pos pins s σ H e g env st I S => Calls.spliced_nil ⟨g, H, I, S, Step.refl, [], .nil, rfl⟩
theorem dad_nil : DAd X W [] (retM []) := fun pos pins s σ H e g env st I S => Calls.spliced_nil ⟨g, H, I, S, Step.refl, [], .nil, rfl⟩
theorem dar_cons {fs : M (List R)} (ha : DE X W a fa) (hr : DAr X W es fs) (hs : starEach (a :: es) X.env = (false, eval a X.env) :: starEach es X.env) : DAr X W (a :: es) (argR fa fs) := by
  intro pos pins s σ H e g env st I S
  rw [hs]
  show WPt X W pins σ e g H env relLR _ (fun Q => wpAny _ _ (spliced ((false, eval a X.env) :: backTo pos (starEach es X.env))) Q _ s)
  refine WPt.relTo (rel := relLRof (New H env σ)) ?_ (fun _ _ _ _ _ _ _ h => h)
  refine WPt.imp (tr := fun Q => wpAny (model X.prog X.w) X.A (eval a X.env) (fun v s1 => wpAny (model X.prog X.w) X.A (spliced (backTo pos (starEach es X.env))) (fun vs s2 => Q (v :: vs) s2) X.xe s1) X.xe s) ?_ (fun Q q => Calls.spliced_cons q)
  refine WPt.chain (tr2 := fun v s1 Q => wpAny (model X.prog X.w) X.A (spliced (backTo pos (starEach es X.env))) (fun vs s2 => Q (v :: vs) s2) X.xe s1) (hm := fun v s1 => ⟨fun h x => thn x fun vs s2 y => h _ _ y⟩) (ha pins s σ H e g env st I S) fun r s' v s1 g1 H1 _ I1 S1 x1 re1 => ?_
  refine WPt.chain (tr2 := fun vs s2 Q => Q (v :: vs) s2) (hm := fun vs s2 => ⟨fun h x => h _ _ x⟩) (hr pos pins s1 σ H1 e g1 s'.env s'.st I1 S1) fun l s2' vs s2 g2 H2 _ I2 S2 x2 re2 => ?_
  obtain ⟨w1, rw1, q1⟩ := re1
  obtain ⟨w2, rw2, q2⟩ := re2
  exact ⟨g2, H2, I2, S2, Step.refl, w1 :: w2, .cons rw1 rw2, w1, w2, rfl, q1.step S1 x2, q2.up (new_up S1 x1), RReps.apart q1 q2⟩
theorem dad_cons {fs : M (List D)} (ha : DE X W a fa) (hr : DAd X W es fs) (hs : starEach (a :: es) X.env = (false, eval a X.env) :: starEach es X.env) : DAd X W (a :: es) (argD fa fs) := by
  intro pos pins s σ H e g env st I S
  rw [hs]
  show WPt X W pins σ e g H env relL _ (fun Q => wpAny _ _ (spliced ((false, eval a X.env) :: backTo pos (starEach es X.env))) Q _ s)
  refine WPt.imp (tr := fun Q => wpAny (model X.prog X.w) X.A (eval a X.env) (fun v s1 => wpAny (model X.prog X.w) X.A (spliced (backTo pos (starEach es X.env))) (fun vs s2 => Q (v :: vs) s2) X.xe s1) X.xe s) ?_ (fun Q q => Calls.spliced_cons q)
  refine WPt.chain (tr2 := fun v s1 Q => wpAny (model X.prog X.w) X.A (spliced (backTo pos (starEach es X.env))) (fun vs s2 => Q (v :: vs) s2) X.xe s1) (hm := fun v s1 => ⟨fun h x => thn x fun vs s2 y => h _ _ y⟩) (ha pins s σ H e g env st I S).esc fun r s' v s1 g1 H1 _ I1 S1 x1 re1 => ?_
  refine WPt.chain (tr2 := fun vs s2 Q => Q (v :: vs) s2) (hm := fun vs s2 => ⟨fun h x => h _ _ x⟩) (hr pos pins s1 σ H1 e g1 s'.env s'.st I1 S1) fun l s2' vs s2 g2 H2 _ I2 S2 x2 re2 => ?_
  obtain ⟨w1, rw1, q1⟩ := re1
  obtain ⟨w2, rw2, q2⟩ := re2
  exact ⟨g2, H2, I2, S2, Step.refl, w1 :: w2, .cons rw1 rw2, w1, w2, rfl, q1.mono (S1.mg x2), q2⟩

/-! ### displays -/
def eTupM (fs : M (List D)) : M R := bindM fs fun l => if l.length ≤ LIM then retM (.val (.tup l)) else stuckM
def eLstM (fs : M (List D)) : M R := bindM fs fun l => if l.length ≤ LIM then retM (.own (.lst l)) else stuckM
theorem newObj_tuple {us : List Value} {vs : List V} {l : List D} {pins : List (Addr × Obj)} {s : Shared} {σ : L2.St} {H : Hp} {e : Ent} {g : Gh} {env : List Slot} {st : List SO} (I : Iv X pins σ H s) (S : Sim (gm X) e g σ H env st) (r : Vals vs us) (q : Reps (gm X) g H l vs) (hz : l.length ≤ LIM) :
    Done X pins σ e g H env relV (.val (.tup l)) ⟨env, st⟩ (.ref s.heap.objs.size) { s with heap := s.heap.push { cls := .type "tuple", data := .seq us.toArray } } := by
  have hl := q.length
  have hp : H s.heap.objs.size = none := I.i.hok.fresh (Nat.le_refl _)
  refine ⟨_, _, ⟨I.i.laid (t' := s.toks) (o := .tup vs) (fun b u e => Heap.get?_push_of_some _ e) (Nat.le_refl _) ⟨by rw [hl, ← lim_eq]; exact hz, us, r, ⟨_, Heap.get?_push_size _ rfl, rfl, _, rfl⟩⟩, I.t⟩, S.layF hp _, Step.layF hp, .ref _, rfl, rep_tup_new hp q⟩
theorem newObj_list {us : List Value} {vs : List V} {l : List D} {pins : List (Addr × Obj)} {s : Shared} {σ : L2.St} {H : Hp} {e : Ent} {g : Gh} {env : List Slot} {st : List SO} (I : Iv X pins σ H s) (S : Sim (gm X) e g σ H env st) (r : Vals vs us) (q : Reps (gm X) g H l vs) (hz : l.length ≤ LIM) :
    Done X pins σ e g H env relV (.own (.lst l)) ⟨env, st⟩ (.ref s.heap.objs.size) { s with heap := s.heap.push { cls := .type "list", data := .seq us.toArray } } := by
  have hl := q.length
  have hp : H s.heap.objs.size = none := I.i.hok.fresh (Nat.le_refl _)
  refine ⟨_, _, ⟨I.i.laid (t' := s.toks) (o := .lst vs) (fun b u e => Heap.get?_push_of_some _ e) (Nat.le_refl _) ⟨by rw [hl, ← lim_eq]; exact hz, us, 0, r, Heap.get?_push_size _ rfl⟩, I.t⟩, S.lay hp _, Step.lay hp, .ref _, rfl, rrep_own_new S hp q⟩
theorem de_tup {k : Nat} {fs : M (List D)} (h : DAd X W es fs) : DE X W (.Tuple es k pos) (eTupM fs) := by
  intro pins s σ H e g env st I S
  refine WPt.imp (tr := fun Q => wpAny (model X.prog X.w) X.A (spliced (backTo pos (starEach es X.env))) (fun us s1 => us.length ≤ sizeLine ∧ Q (.ref s1.heap.objs.size) { s1 with heap := s1.heap.push { cls := .type "tuple", data := .seq us.toArray } }) X.xe s) ?_ (fun Q q => wpAny_Tuple_spliced q)
  refine WPt.chain (tr2 := fun (us : List Value) (s1 : Shared) (Q : Value → Shared → Prop) => us.length ≤ sizeLine ∧ Q (Value.ref s1.heap.objs.size) { s1 with heap := s1.heap.push { cls := .type "tuple", data := .seq us.toArray } }) (hm := fun us s1 => ⟨fun h x => ⟨x.1, h _ _ x.2⟩⟩) (h pos pins s σ H e g env st I S) fun l s' us s1 g1 H1 _ I1 S1 x1 re1 => ?_
  obtain ⟨vs, rv, q⟩ := re1
  split
  · rename_i hz
    exact ⟨by rw [← rv.length, q.length, ← lim_eq]; exact hz, newObj_tuple I1 S1 rv q hz⟩
  · trivial
theorem de_lst {fs : M (List D)} (h : DAd X W es fs) : DE X W (.List es pos) (eLstM fs) := by
  intro pins s σ H e g env st I S
  refine WPt.imp (tr := fun Q => wpAny (model X.prog X.w) X.A (spliced (backTo pos (starEach es X.env))) (fun us s1 => us.length ≤ sizeLine ∧ Q (.ref s1.heap.objs.size) { s1 with heap := s1.heap.push { cls := .type "list", data := .seq us.toArray } }) X.xe s) ?_ (fun Q q => wpAny_List_spliced q)
  refine WPt.chain (tr2 := fun (us : List Value) (s1 : Shared) (Q : Value → Shared → Prop) => us.length ≤ sizeLine ∧ Q (Value.ref s1.heap.objs.size) { s1 with heap := s1.heap.push { cls := .type "list", data := .seq us.toArray } }) (hm := fun us s1 => ⟨fun h x => ⟨x.1, h _ _ x.2⟩⟩) (h pos pins s σ H e g env st I S) fun l s' us s1 g1 H1 _ I1 S1 x1 re1 => ?_
  obtain ⟨vs, rv, q⟩ := re1
  split
  · rename_i hz
    exact ⟨by rw [← rv.length, q.length, ← lim_eq]; exact hz, newObj_list I1 S1 rv q hz⟩
  · trivial
end

/-! ### subscripts -/
section
variable {X : Cx} {W : WX} {a b : Expr} {fa fb : M R} {pos : Pos}
theorem Reps.atI {G : Gm} {g : Gh} {H : Hp} {l : List D} {xs : List V} {i : Int} {d : D} (r : Reps G g H l xs) (h : L2.atI l i = some d) : ∃ v, L2.atI xs i = some v ∧ Rep G g H d v := by
  unfold L2.atI at h ⊢
  rw [r.length]
  cases q : ixN l.length i with
  | none => rw [q] at h; cases h
  | some j =>
    rw [q] at h
    exact r.get h
/-- o[i] of a list, a tuple, a text -/
def ixF (x y : R) : Option R := match x.d, y.d with
  | .lst l, .int i => (L2.atI l i).map .val
  | .tup l, .int i => (L2.atI l i).map .val
  | .str z, .int i => if z.length ≤ LIM then (L2.atI z.cps.toList i).map fun c => .val (.str ⟨#[c]⟩) else none
  | _, _ => none
theorem op2_ix {sl : Expr} (hs : PlainIx sl) : Op2 X W (subscriptTail a sl) (fun x y => pureF (fun p : R × R => ixF p.1 p.2) (x, y)) := by
  have ho : OpR X (subscriptTail a sl) (rIx X.K) := fun pins s σ H x y v u Q I rx ry q => ix_seq a sl pins s σ H x y v u Q I rx ry q (hs _ _)
  refine op2_of ho fun e g σ H env st N x y u v r S qa qb hr => ?_
  unfold ixF at hr
  split at hr
  · rename_i l i hx hy
    cases q : L2.atI l i with
    | none => rw [q] at hr; cases hr
    | some d =>
      rw [q] at hr; cases hr
      obtain ⟨b, xs, rfl, t1, r1⟩ := RRep.lst hx qa
      obtain ⟨w, h1, h2⟩ := r1.atI q
      exact .inl ⟨b, xs, i, w, rfl, RRep.int hy qb, t1, h1, Gives.same S h2⟩
  · rename_i l i hx hy
    cases q : L2.atI l i with
    | none => rw [q] at hr; cases hr
    | some d =>
      rw [q] at hr; cases hr
      obtain ⟨b, xs, rfl, t1, r1, _⟩ := RRep.tup hx qa
      obtain ⟨w, h1, h2⟩ := r1.atI q
      exact .inr (.inl ⟨b, xs, i, w, rfl, RRep.int hy qb, t1, h1, Gives.same S h2⟩)
  · rename_i z i hx hy
    split at hr
    · rename_i hz
      cases q : L2.atI z.cps.toList i with
      | none => rw [q] at hr; cases hr
      | some d =>
        rw [q] at hr; cases hr
        exact .inr (.inr ⟨z, i, d, RRep.str hx qa, RRep.int hy qb, by rw [← lim_eq]; exact hz, q, Gives.same S rfl⟩)
    · cases hr
  · cases hr
theorem de_ix {h : R → R → M R} (ha : DE X W a fa) (hb : DE X W b fb) (ho : Op2 X W (subscriptTail a b) h) : DE X W (.Subscript a b pos) (eBin h fa fb) :=
  fun pins s σ H e g env st I S => (two_in (T := eval a X.env) ha hb ho I S).imp fun Q q => Subscript_ q

/-! ### slices -/
def relP : RelT (Option Int) Value := fun _ _ _ _ _ _ _ o u => IsPart u o
instance : Up relP := ⟨fun h q => q⟩
def DO (X : Cx) (W : WX) (ex : Option Expr) (f : M (Option Int)) : Prop := RunsE X W (evalPart ex X.env) relP f
theorem do_none : DO X W none (retM none) := fun pins s σ H e g env st I S => by
  show wpAny _ _ _ _ _ _
  rw [evalPart_none]
  exact wpAny_pure ⟨g, H, I, S, Step.refl, .none⟩
def asInt : D → Option Int
  | .int i => some i
  | _ => none
theorem asInt_eq : ∀ {d : D} {b : Int}, asInt d = some b → d = .int b
  | .int _, _, h => by cases h; rfl
  | .non, _, h => by cases h
  | .bl _, _, h => by cases h
  | .str _, _, h => by cases h
  | .tup _, _, h => by cases h
  | .lst _, _, h => by cases h
  | .dct _, _, h => by cases h
  | .ref _, _, h => by cases h
def partF (fa : M R) : M (Option Int) := bindM fa (pureF fun r => (asInt r.d).map some)
theorem do_some (ha : DE X W a fa) : DO X W (some a) (partF fa) := by
  intro pins s σ H e g env st I S
  refine WPt.imp (tr := fun Q => wpAny (model X.prog X.w) X.A (eval a X.env) Q X.xe s) ?_ (fun Q q => by rw [evalPart_some]; exact q)
  refine WPt.last (ha pins s σ H e g env st I S) fun r s' u s1 g1 H1 _ I1 S1 x1 re1 => ?_
  unfold pureF
  dsimp only
  cases q : asInt r.d with
  | none => trivial
  | some i =>
    obtain ⟨v, rv, qv⟩ := re1
    cases RRep.int (asInt_eq q) qv
    obtain ⟨t, rfl⟩ := rv
    exact ⟨g1, H1, I1, S1, x1, .int i t⟩
def cutD (xs : List D) (lo hi : Option Int) : List D := (xs.drop (HT.sIx xs.length 0 lo)).take (HT.sIx xs.length xs.length hi - HT.sIx xs.length 0 lo)
def slF (x : R) (lo hi : Option Int) : Option R := match x.d with
  | .lst l => some (.own (.lst (cutD l lo hi)))
  | .tup l => some (.val (.tup (cutD l lo hi)))
  | .str z => if z.length ≤ LIM then some (.val (.str (cutS z lo hi))) else none
  | _ => none
theorem Reps.cut {G : Gm} {g : Gh} {H : Hp} {l : List D} {xs : List V} (r : Reps G g H l xs) (lo hi : Option Int) : Reps G g H (cutD l lo hi) (cutV xs lo hi) := by
  unfold cutD cutV
  rw [r.length]
  exact (r.drop _).take _
def eSlc (fa : M R) (fl fu : M (Option Int)) : M R := bindM fa fun x => bindM fl fun l => bindM fu fun u => pureF (fun p : R × Option Int × Option Int => slF p.1 p.2.1 p.2.2) (x, l, u)
theorem de_slc {lo hi : Option Expr} {fl fu : M (Option Int)} {p2 : Pos} (ha : DE X W a fa) (hl : DO X W lo fl) (hu : DO X W hi fu) : DE X W (.Subscript a (.Slice lo hi none p2) pos) (eSlc fa fl fu) := by
  intro pins s σ H e g env st I S
  refine WPt.imp (tr := fun Q => wpAny (model X.prog X.w) X.A (eval a X.env) (fun v s1 => wpAny (model X.prog X.w) X.A (evalPart lo X.env) (fun vl s2 => wpAny (model X.prog X.w) X.A (evalPart hi X.env) (fun vu s3 =>
    wpAny (model X.prog X.w) X.A (subscriptTail a (.Slice lo hi none p2) v (.ref s3.heap.objs.size)) Q X.xe { s3 with heap := s3.heap.push { cls := .type "slice", data := .fields #[vl, vu, .none] } }) X.xe s2) X.xe s1) X.xe s) ?_
    (fun Q q => Subscript_ (thn q fun v s1 q1 => wpAny_Slice (thn q1 fun vl s2 q2 => thn q2 fun vu s3 q3 => by rw [evalPart_none]; exact wpAny_pure q3)))
  refine WPt.chain (ha pins s σ H e g env st I S) fun x s' v s1 g1 H1 _ I1 S1 x1 re1 => ?_
  refine WPt.chain (hl pins s1 σ H1 e g1 s'.env s'.st I1 S1) fun l s2' vl s2 g2 H2 _ I2 S2 x2 pl => ?_
  refine WPt.chain (tr2 := fun vu s3 Q => wpAny (model X.prog X.w) X.A (subscriptTail a (.Slice lo hi none p2) v (.ref s3.heap.objs.size)) Q X.xe { s3 with heap := s3.heap.push { cls := .type "slice", data := .fields #[vl, vu, .none] } })
    (hm := fun vu s3 => ⟨fun h x => thn x h⟩) (hu pins s2 σ H2 e g2 s2'.env s2'.st I2 S2) fun u s3' vu s3 g3 H3 _ I3 S3 x3 pu => ?_
  obtain ⟨w1, rw1, q1⟩ := re1
  have q3 := ((q1.step S1 x2).step S2 x3)
  unfold pureF
  dsimp only
  cases hr : slF x l u with
  | none => trivial
  | some r =>
    have I4 : Inv X pins σ H3 { s3 with heap := s3.heap.push { cls := .type "slice", data := .fields #[vl, vu, .none] } } := I3.i.kept (t' := s3.toks) fun b ob q => Heap.get?_push_of_some _ q
    have hsl := sl_list.or (sl_tupA.or (sl_str (X := X)))
    have fin : (rSlL X.K w1 l u H3 (Gives (gm X) e g3 σ H3 s3'.env r s3') ∨ rSlA X.K w1 l u H3 (Gives (gm X) e g3 σ H3 s3'.env r s3') ∨ rSlS w1 l u H3 (Gives (gm X) e g3 σ H3 s3'.env r s3')) := by
      unfold slF at hr
      split at hr
      · rename_i ll hx
        cases hr
        obtain ⟨b, xs, rfl, t1, r1⟩ := RRep.lst hx q3
        exact .inl ⟨b, xs, rfl, t1, fun p hp => Gives.lst S3 hp (r1.cut l u)⟩
      · rename_i ll hx
        cases hr
        obtain ⟨b, xs, rfl, t1, r1, ta⟩ := RRep.tup hx q3
        refine .inr (.inl ⟨b, xs, rfl, t1, fun hw => ?_, fun _ p hp => Gives.tup S3 hp (r1.cut l u)⟩)
        have hl := r1.length
        have : cutD ll l u = ll := by
          unfold cutD
          rw [← hl, hw.1, hw.2, hl]
          simp
        rw [this]
        exact Gives.same S3 ⟨b, xs, rfl, ta, r1⟩
      · rename_i z hx
        split at hr
        · rename_i hz
          cases hr
          exact .inr (.inr ⟨z, RRep.str hx q3, by rw [← lim_eq]; exact hz, Gives.same S3 rfl⟩)
        · cases hr
      · cases hr
    obtain ⟨T, id, hT, ht, hg⟩ := hsl pins { s3 with heap := s3.heap.push { cls := .type "slice", data := .fields #[vl, vu, .none] } } σ H3 w1 v vl vu l u s3.heap.objs.size _ I4 rw1 (Heap.IsSliceOf.new ..) pl pu fin
    refine WPt.of_ep ⟨I4, I3.t⟩ (tail_any (ops := [.ref s3.heap.objs.size, v]) ht hT hg (by with_unfolding_all rfl))
/-- xs[::-1] -/
def revF (r : R) : Option R := match r.d with
  | .lst l => some (.own (.lst l.reverse))
  | _ => none
def eRev (fa : M R) : M R := bindM fa (pureF revF)
theorem de_rev {k : Nat} {p1 p2 p3 : Pos} (ha : DE X W a fa) : DE X W (.Subscript a (.Slice none none (some (.UnaryOp .USub (.Constant (.int 1) k p1) p2)) p3) pos) (eRev fa) := by
  intro pins s σ H e g env st I S
  refine WPt.imp (tr := fun Q => wpAny (model X.prog X.w) X.A (eval a X.env) (fun v s1 => wpAny (model X.prog X.w) X.A (eval (.Slice none none (some (.UnaryOp .USub (.Constant (.int 1) k p1) p2)) p3) X.env) (fun u s2 =>
    wpAny (model X.prog X.w) X.A (subscriptTail a (.Slice none none (some (.UnaryOp .USub (.Constant (.int 1) k p1) p2)) p3) v u) Q X.xe s2) X.xe s1) X.xe s) ?_ (fun Q q => Subscript_ q)
  refine WPt.chain (ha pins s σ H e g env st I S) fun r s' v s1 g1 H1 _ I1 S1 x1 re1 => ?_
  unfold pureF
  cases hr : revF r with
  | none => trivial
  | some r2 =>
    dsimp only
    unfold revF at hr
    split at hr
    · rename_i l hx
      cases hr
      obtain ⟨w1, rw1, q1⟩ := re1
      obtain ⟨b, xs, rfl, hx, r1⟩ := RRep.lst hx q1
      cases rw1
      have hst : PO X (some (.UnaryOp .USub (.Constant (.int 1) k p1) p2)) (tPart (tUn (rU fun i => .int (-i)) (tC (.int 1)))) := po_some (pe_un un_neg pe_int)
      show wpAny _ _ _ _ _ _
      refine wpAny_Slice (tkn I1.t (po_none.run pins s1 σ H1 (fun o H2 => o = none ∧ H2 = H1) I1.i ⟨rfl, rfl⟩) fun vl s2 t2 ⟨l', H2, I2, pl, el, e2⟩ => ?_)
      subst el e2
      refine tkn t2 (po_none.run pins s2 σ H2 (fun o H3 => o = none ∧ H3 = H2) I2 ⟨rfl, rfl⟩) fun vu s3 t3 ⟨u, H3, I3, pu, eu, e3⟩ => ?_
      subst eu e3
      refine tkn t3 (hst.run pins s3 σ H3 (fun o H4 => o = some (-1) ∧ H4 = H3) I3 ⟨1, rfl, -1, rfl, rfl, rfl⟩) fun vs s4 t4 ⟨o, H4, I4, ps, eo, e4⟩ => ?_
      subst eo e4
      have I5 : Inv X pins σ H4 { s4 with heap := s4.heap.push { cls := .type "slice", data := .fields #[vl, vu, vs] } } := I4.kept (t' := s4.toks) fun b ob q => Heap.get?_push_of_some _ q
      obtain ⟨its, r, ht, hz⟩ := I5.list hx
      have hlen := r.length
      show wpAny (model X.prog X.w) X.A (subscriptTail a (.Slice none none (some (.UnaryOp .USub (.Constant (.int 1) k p1) p2)) p3) (.ref b) (.ref s4.heap.objs.size)) _ X.xe { s4 with heap := s4.heap.push { cls := .type "slice", data := .fields #[vl, vu, vs] } }
      refine tail_any (ops := [.ref b, .ref s4.heap.objs.size]) ht.isList.typeIs (PySem.slot_list_getitem.lookup) ?_ (by with_unfolding_all rfl)
      refine wpAny_getItem_list_slice ht.isList (Heap.IsSliceOf.new _ vl vu vs) pl pu ps (by decide) ?_ (by rw [List.size_toArray]; omega)
      rw [PySem.W.krv_pick]
      have hp : H4 (s4.heap.push { cls := .type "slice", data := .fields #[vl, vu, vs] }).objs.size = none := I5.hok.fresh (Nat.le_refl _)
      exact ⟨g1, _, ⟨I5.laid (t' := s4.toks) (o := .lst xs.reverse) (fun b ob q => Heap.get?_push_of_some _ q) (Nat.le_refl _) ⟨by rw [List.length_reverse]; exact hz, _, 0, r.reverse, Heap.get?_push_size _ rfl⟩, t4⟩, S1.lay hp _, Step.lay hp, .ref _, rfl, rrep_own_new S1 hp r1.reverse⟩
    · cases hr
end
end Dn


/-! Dn7 -/
set_option Elab.async false
set_option linter.all false
set_option maxRecDepth 100000
set_option maxHeartbeats 1000000
namespace Dn
open PySem PySem.Spec PyProof.Rows L2

/-! ### calls by values -/
def OpL (X : Cx) (W : WX) (f : Value) (h : List R → M R) : Prop :=
  ∀ (pins : List (Addr × Obj)) (s : Shared) (σ : L2.St) (H : Hp) (e : Ent) (g : Gh) (env : List Slot) (st : List SO) (xs : List R) (us : List Value), Iv X pins σ H s → Sim (gm X) e g σ H env st →
    relLR (fun _ => True) e g σ H env (gm X) xs us → WPt X W pins σ e g H env relV (h xs ⟨env, st⟩) (fun Q => wpAny (model X.prog X.w) X.A (call f us) Q X.xe s)
theorem opl_of {X : Cx} {W : WX} {f : Value} {t : List V → Hp → VK → Prop} {h : List R → Option R} (ho : CallR X f t)
    (hh : ∀ (e : Ent) (g : Gh) (σ : L2.St) (H : Hp) (env : List Slot) (st : List SO) (N : Addr → Prop) (xs : List R) (us : List V) (r : R), Sim (gm X) e g σ H env st → RReps N e g σ H env (gm X) xs us → h xs = some r →
      t us H (Gives (gm X) e g σ H env r ⟨env, st⟩)) : OpL X W f (pureF h) := by
  intro pins s σ H e g env st xs us I S ⟨a, ra, qa⟩
  unfold pureF
  cases q : h xs with
  | none => trivial
  | some r =>
    show wpAny _ _ _ _ _ _
    refine tkn I.t (ho pins s σ H a us _ I.i ra (hh e g σ H env st _ xs a r S qa q)) fun z s1 tz hz => ?_
    obtain ⟨c, H', I', rc, g', S', x', q'⟩ := hz
    exact ⟨g', H', ⟨I', tz⟩, S', x', c, rc, q'⟩
def eCall (fs : M (List R)) (h : List R → M R) : M R := bindM fs h
section
variable {X : Cx} {W : WX} {x : Str} {p pos : Pos} {e : Expr} {es : List Expr} {id T : String} {h : List R → M R} {fs : M (List R)}
theorem de_callB (hc : OpL X W (.builtin id) h) (hg : Gl X x) (hm : X.mg x = none) (hv : bootBuiltins x = some (.builtin id)) (ha : DAr X W (e :: es) fs) (hn : x ≠ "__name__") (hdb : (x == ("__debug__" : Str)) = false)
    (he : starEach (e :: es) X.env = (false, eval e X.env) :: starEach es X.env) (hpl : (backTo pos (starEach es X.env)).any (·.1) = false) : DE X W (.Call (.Name x p) (e :: es) [] pos) (eCall fs h) := by
  intro pins s σ H en g env st I S
  refine WPt.imp (tr := fun Q => wpAny (model X.prog X.w) X.A (spliced (backTo pos (starEach (e :: es) X.env))) (fun vs s1 => wpAny (model X.prog X.w) X.A (call (.builtin id) vs) Q X.xe s1) X.xe s) ?_ (fun Q q => wpAny_Call_Name_kw (ld_blt I.i hg hm hv (PyProof.Rows.callWith_builtin1 q he hpl) hn hdb))
  exact WPt.chain (ha pos pins s σ H en g env st I S) fun l s' us s1 g1 H1 _ I1 S1 x1 re1 => hc pins s1 σ H1 en g1 s'.env s'.st l us I1 S1 (Up.up (fun _ _ => trivial) re1)
theorem de_callTy (hc : OpL X W (.type T) h) (hg : Gl X x) (hm : X.mg x = none) (hv : bootBuiltins x = some (.type T)) (ha : DAr X W (e :: es) fs) (hn : x ≠ "__name__") (hdb : (x == ("__debug__" : Str)) = false)
    (he : starEach (e :: es) X.env = (false, eval e X.env) :: starEach es X.env) (hpl : (backTo pos (starEach es X.env)).any (·.1) = false) : DE X W (.Call (.Name x p) (e :: es) [] pos) (eCall fs h) := by
  intro pins s σ H en g env st I S
  refine WPt.imp (tr := fun Q => wpAny (model X.prog X.w) X.A (spliced (backTo pos (starEach (e :: es) X.env))) (fun vs s1 => wpAny (model X.prog X.w) X.A (call (.type T) vs) Q X.xe s1) X.xe s) ?_ (fun Q q => wpAny_Call_Name_kw (ld_blt I.i hg hm hv (PyProof.Rows.callWith_type1 q he hpl) hn hdb))
  exact WPt.chain (ha pos pins s σ H en g env st I S) fun l s' us s1 g1 H1 _ I1 S1 x1 re1 => hc pins s1 σ H1 en g1 s'.env s'.st l us I1 S1 (Up.up (fun _ _ => trivial) re1)

/-! ### len, int, bool, str, list, tuple, all, any, max, min -/
def lenD : D → Option Nat
  | .lst l => some l.length
  | .tup l => some l.length
  | .str z => if z.length ≤ LIM then some z.length else none
  | _ => none
def one {α : Type} (f : R → Option α) : List R → Option α
  | [r] => f r
  | _ => none
theorem one_inv {α : Type} {f : R → Option α} {xs : List R} {a : α} (h : one f xs = some a) : ∃ r, xs = [r] ∧ f r = some a := by
  unfold one at h
  split at h
  · exact ⟨_, rfl, h⟩
  · cases h
def two {α : Type} (f : R → R → Option α) : List R → Option α
  | [r, t] => f r t
  | _ => none
theorem two_inv {α : Type} {f : R → R → Option α} {xs : List R} {a : α} (h : two f xs = some a) : ∃ r t, xs = [r, t] ∧ f r t = some a := by
  unfold two at h
  split at h
  · exact ⟨_, _, rfl, h⟩
  · cases h
variable {G : Gm} {en : Ent} {g : Gh} {σ : L2.St} {H : Hp} {env : List Slot} {N : Addr → Prop}
theorem RReps.one {r : R} {us : List V} (h : RReps N en g σ H env G [r] us) : ∃ v, us = [v] ∧ RRep N en g σ H env G r v := by
  obtain ⟨v, vr, rfl, h1, h2, _⟩ := h
  cases (h2 : vr = [])
  exact ⟨v, rfl, h1⟩
theorem RReps.two {r t : R} {us : List V} (h : RReps N en g σ H env G [r, t] us) : ∃ v w, us = [v, w] ∧ RRep N en g σ H env G r v ∧ RRep N en g σ H env G t w := by
  obtain ⟨v, vr, rfl, h1, h2, _⟩ := h
  obtain ⟨w, rfl, h3⟩ := RReps.one h2
  exact ⟨v, w, rfl, h1, h3⟩
def fLen : List R → Option R := one fun r => match lenD r.d with
  | some n => some (.val (.int n))
  | none => none
theorem opl_len : OpL X W (.builtin "len") (pureF fLen) := by
  refine opl_of (call_len_seq.or call_len_str) fun en g σ H env st N xs us r S q hr => ?_
  obtain ⟨a, rfl, hr'⟩ := one_inv hr
  clear hr
  have hr := hr'
  clear hr'
  obtain ⟨v, rfl, qa⟩ := RReps.one q
  cases hl : lenD a.d with
  | none => simp only [hl] at hr; cases hr
  | some n =>
    simp only [hl] at hr
    cases hr
    unfold lenD at hl
    split at hl
    · rename_i l hx
      cases hl
      obtain ⟨b, xs, rfl, t1, r1⟩ := RRep.lst hx qa
      exact .inl ⟨b, xs, rfl, .inl t1, by rw [r1.length]; exact Gives.same S rfl⟩
    · rename_i l hx
      cases hl
      obtain ⟨b, xs, rfl, t1, r1, _⟩ := RRep.tup hx qa
      exact .inl ⟨b, xs, rfl, .inr t1, by rw [r1.length]; exact Gives.same S rfl⟩
    · rename_i z hx
      split at hl
      · rename_i hz
        cases hl
        exact .inr ⟨z, by rw [RRep.str hx qa], by rw [← lim_eq]; exact hz, Gives.same S rfl⟩
      · cases hl
    · cases hl
def asNum : D → Option Int
  | .int i => some i
  | .bl b => some (if b then 1 else 0)
  | _ => none
def fInt : List R → Option R := one fun r => match asNum r.d with
  | some n => some (.val (.int n))
  | none => none
theorem opl_int : OpL X W (.type "int") (pureF fInt) := by
  refine opl_of call_int1 fun en g σ H env st N xs us r S q hr => ?_
  obtain ⟨a, rfl, hr'⟩ := one_inv hr
  clear hr
  have hr := hr'
  clear hr'
  obtain ⟨v, rfl, qa⟩ := RReps.one q
  cases hl : asNum a.d with
  | none => simp only [hl] at hr; cases hr
  | some n =>
    simp only [hl] at hr
    cases hr
    unfold asNum at hl
    split at hl
    · rename_i i hx
      cases hl
      exact .inl ⟨_, by rw [RRep.int hx qa], Gives.same S rfl⟩
    · rename_i b hx
      cases hl
      exact .inr ⟨_, by rw [RRep.bl hx qa], Gives.same S rfl⟩
    · cases hl
def fStr : List R → Option R := one fun r => match asInt r.d with
  | some n => if n.natAbs < 2 ^ 1000 then some (.val (.str (toString n))) else none
  | none => none
theorem log2_small {n : Nat} (h : n < 2 ^ 1000) : n.log2 < 1920 := by
  by_cases z : n = 0
  · subst z; decide
  · have := (Nat.log2_lt z).mpr h
    omega
theorem opl_str : OpL X W (.type "str") (pureF fStr) := by
  refine opl_of call_str_int fun en g σ H env st N xs us r S q hr => ?_
  obtain ⟨a, rfl, hr'⟩ := one_inv hr
  clear hr
  have hr := hr'
  clear hr'
  obtain ⟨v, rfl, qa⟩ := RReps.one q
  cases hl : asInt a.d with
  | none => simp only [hl] at hr; cases hr
  | some n =>
    simp only [hl] at hr
    split at hr
    · rename_i hz
      cases hr
      exact ⟨n, by rw [RRep.int (asInt_eq hl) qa], log2_small hz, Gives.same S rfl⟩
    · cases hr
def seqD : D → Option (List D)
  | .lst l => some l
  | .tup l => some l
  | _ => none
def fList : List R → Option R := one fun r => (seqD r.d).map fun l => .own (.lst l)
theorem seq_of {a : R} {l : List D} {v : V} (hl : seqD a.d = some l) (qa : RRep N en g σ H env G a v) : ∃ b xs, v = .ref b ∧ (SqL G.K H b xs ∨ SqT G.K H b xs) ∧ Reps G g H l xs := by
  unfold seqD at hl
  split at hl
  · rename_i l hx
    cases hl
    obtain ⟨b, xs, rfl, t1, r1⟩ := RRep.lst hx qa
    exact ⟨b, xs, rfl, .inl t1, r1⟩
  · rename_i l hx
    cases hl
    obtain ⟨b, xs, rfl, t1, r1, _⟩ := RRep.tup hx qa
    exact ⟨b, xs, rfl, .inr t1, r1⟩
  · cases hl
theorem opl_list : OpL X W (.type "list") (pureF fList) := by
  refine opl_of call_list_of fun en g σ H env st N xs us r S q hr => ?_
  obtain ⟨a, rfl, hr'⟩ := one_inv hr
  clear hr
  have hr := hr'
  clear hr'
  obtain ⟨v, rfl, qa⟩ := RReps.one q
  cases hl : seqD a.d with
  | none => simp only [hl] at hr; cases hr
  | some l =>
    simp only [hl] at hr
    cases hr
    obtain ⟨b, xs, rfl, t1, r1⟩ := seq_of hl qa
    exact ⟨b, xs, rfl, t1, fun p hp => Gives.lst S hp r1⟩
def fTuple : List R → Option R := one fun r => match r.d with
  | .lst l => some (.val (.tup l))
  | .tup l => some (.val (.tup l))
  | _ => none
theorem opl_tuple : OpL X W (.type "tuple") (pureF fTuple) := by
  refine opl_of call_tuple_of fun en g σ H env st N xs us r S q hr => ?_
  obtain ⟨a, rfl, hr'⟩ := one_inv hr
  clear hr
  have hr := hr'
  clear hr'
  obtain ⟨v, rfl, qa⟩ := RReps.one q
  split at hr
  · rename_i l hx
    cases hr
    obtain ⟨b, xs, rfl, t1, r1⟩ := RRep.lst hx qa
    exact ⟨b, xs, rfl, .inl ⟨t1, fun p hp => Gives.tup S hp r1⟩⟩
  · rename_i l hx
    cases hr
    obtain ⟨b, xs, rfl, t1, r1, t2⟩ := RRep.tup hx qa
    exact ⟨b, xs, rfl, .inr ⟨t1, Gives.same S ⟨b, xs, rfl, t2, r1⟩⟩⟩
  · cases hr
def asBls : List D → Option (List Bool)
  | [] => some []
  | d :: l => match asBl d, asBls l with
    | some b, some bs => some (b :: bs)
    | _, _ => none
theorem Reps.bls : ∀ {l : List D} {xs : List V} {bs : List Bool}, Reps G g H l xs → asBls l = some bs → xs = bs.map V.bl
  | [], _, _, h, e => by cases e; exact h
  | d :: l, _, bs, ⟨x, r, e1, h1, h2⟩, e => by
    unfold asBls at e
    split at e
    · rename_i b bs' e2 e3
      cases e
      rw [e1, Reps.bls h2 e3]
      cases asBl_eq e2
      cases (h1 : x = .bl b)
      rfl
    · cases e
def fAll (all : Bool) : List R → Option R := one fun r => match r.d with
  | .lst l => (asBls l).map fun bs => .val (.bl (if all then bs.all (fun b => b) else bs.any (fun b => b)))
  | _ => none
theorem opl_all (hc : X.calm = true) : OpL X W (.builtin "all") (pureF (fAll true)) := by
  refine opl_of (cr_all hc) fun en g σ H env st N xs us r S q hr => ?_
  obtain ⟨a, rfl, hr'⟩ := one_inv hr
  clear hr
  have hr := hr'
  clear hr'
  obtain ⟨v, rfl, qa⟩ := RReps.one q
  split at hr
  · rename_i l hx
    cases hl : asBls l with
    | none => simp only [hl] at hr; cases hr
    | some bs =>
      simp only [hl] at hr
      cases hr
      obtain ⟨b, xs, rfl, t1, r1⟩ := RRep.lst hx qa
      rw [r1.bls hl] at t1
      exact ⟨b, bs, rfl, t1, Gives.same S rfl⟩
  · cases hr
theorem opl_any (hc : X.calm = true) : OpL X W (.builtin "any") (pureF (fAll false)) := by
  refine opl_of (cr_any hc) fun en g σ H env st N xs us r S q hr => ?_
  obtain ⟨a, rfl, hr'⟩ := one_inv hr
  clear hr
  have hr := hr'
  clear hr'
  obtain ⟨v, rfl, qa⟩ := RReps.one q
  split at hr
  · rename_i l hx
    cases hl : asBls l with
    | none => simp only [hl] at hr; cases hr
    | some bs =>
      simp only [hl] at hr
      cases hr
      obtain ⟨b, xs, rfl, t1, r1⟩ := RRep.lst hx qa
      rw [r1.bls hl] at t1
      exact ⟨b, bs, rfl, t1, Gives.same S rfl⟩
  · cases hr
def fMM (mx : Bool) : List R → Option R := two fun r t => match r.d, t.d with
  | .int i, .int j => some (.val (.int (if mx then (if j > i then j else i) else (if j < i then j else i))))
  | _, _ => none
theorem opl_max (hc : X.calm = true) : OpL X W (.builtin "max") (pureF (fMM true)) := by
  refine opl_of (call_max2 hc) fun en g σ H env st N xs us r S q hr => ?_
  obtain ⟨a, b, rfl, hr'⟩ := two_inv hr
  clear hr
  have hr := hr'
  clear hr'
  obtain ⟨v, w, rfl, qa, qb⟩ := RReps.two q
  split at hr
  · rename_i i j hx hy
    cases hr
    exact ⟨i, j, by rw [RRep.int hx qa, RRep.int hy qb], Gives.same S rfl⟩
  · cases hr
theorem opl_min (hc : X.calm = true) : OpL X W (.builtin "min") (pureF (fMM false)) := by
  refine opl_of (call_min2 hc) fun en g σ H env st N xs us r S q hr => ?_
  obtain ⟨a, b, rfl, hr'⟩ := two_inv hr
  clear hr
  have hr := hr'
  clear hr'
  obtain ⟨v, w, rfl, qa, qb⟩ := RReps.two q
  split at hr
  · rename_i i j hx hy
    cases hr
    exact ⟨i, j, by rw [RRep.int hx qa, RRep.int hy qb], Gives.same S rfl⟩
  · cases hr

/-! ### isinstance -/
def tyD : D → Option String
  | .non => some "NoneType"
  | .bl _ => some "bool"
  | .int _ => some "int"
  | .str _ => some "str"
  | .tup _ => some "tuple"
  | .lst _ => some "list"
  | _ => none
theorem RRep.ty {a : R} {v : V} {T : String} (h : tyD a.d = some T) (q : RRep N en g σ H env G a v) : TyX G.K H v (.type T) := by
  unfold tyD at h
  split at h
  · rename_i hx; cases h; cases RRep.non hx q; exact .base .non
  · rename_i b hx; cases h; cases RRep.bl hx q; exact .base (.bl b)
  · rename_i b hx; cases h; cases RRep.int hx q; exact .base (.int b)
  · rename_i b hx; cases h; cases RRep.str hx q; exact .base (.str b)
  · rename_i l hx
    cases h
    obtain ⟨b, xs, rfl, t1, r1, t2⟩ := RRep.tup hx q
    rcases t1 with (t1 | ⟨o, t1⟩) | ⟨o, _, _, t1, t2, _⟩
    · exact .base (.tup t1)
    · exact .fTuple t1
    · exact .kTuple t1 t2
  · rename_i l hx
    cases h
    obtain ⟨b, xs, rfl, t1, r1⟩ := RRep.lst hx q
    rcases t1 with (t1 | ⟨o, t1⟩) | ⟨o, _, _, t1, t2, _⟩
    · exact .base (.lst t1)
    · exact .base (.frz t1)
    · exact .kList t1 t2
  · cases h
def isiF (T : String) : R → Option R := fun r => match tyD r.d with
  | some t => (kitB t T).map fun b => .val (.bl b)
  | none => none
def eIsi (T : String) (fa : M R) : M R := bindM fa (pureF (isiF T))
theorem de_isi {y : Str} {p2 : Pos} {fa : M R} (hg : Gl X x) (hm : X.mg x = none) (hv : bootBuiltins x = some (.builtin "isinstance")) (hg2 : Gl X y) (hm2 : X.mg y = none) (hv2 : bootBuiltins y = some (.type T)) (ha : DE X W e fa) (hn : x ≠ "__name__") (hdb : (x == ("__debug__" : Str)) = false)
    (hn2 : y ≠ "__name__") (hdb2 : (y == ("__debug__" : Str)) = false)
    (he : starEach [e, .Name y p2] X.env = [(false, eval e X.env), (false, eval (.Name y p2) X.env)]) : DE X W (.Call (.Name x p) [e, .Name y p2] [] pos) (eIsi T fa) := by
  intro pins s σ H en g env st I S
  refine WPt.imp (tr := fun Q => wpAny (model X.prog X.w) X.A (eval e X.env) (fun v s1 => wpAny (model X.prog X.w) X.A (eval (.Name y p2) X.env) (fun u s2 => wpAny (model X.prog X.w) X.A (call (.builtin "isinstance") [v, u]) Q X.xe s2) X.xe s1) X.xe s) ?_ (fun Q q => wpAny_Call_Name_kw (ld_blt I.i hg hm hv ?_ hn hdb))
  · refine WPt.chain (ha pins s σ H en g env st I S) fun r s' v s1 g1 H1 _ I1 S1 x1 re1 => ?_
    unfold pureF
    cases hr : isiF T r with
    | none => trivial
    | some r2 =>
      refine ld_blt I1.i hg2 hm2 hv2 ?_ hn2 hdb2
      obtain ⟨w, rw1, q1⟩ := re1
      unfold isiF at hr
      split at hr
      · rename_i t ht
        cases hk : kitB t T with
        | none => rw [hk] at hr; cases hr
        | some b =>
          rw [hk] at hr
          cases hr
          exact WPt.of_ep (W := W) I1 (call_isi pins s1 σ H1 [w, .ty T] [v, .type T] _ I1.i (.cons rw1 (.cons rfl .nil)) ⟨w, .ty T, .type t, .type T, b, rfl, .ty T, RRep.ty ht q1, kit_ty hk, Gives.same S1 rfl⟩)
      · cases hr
  · rw [he]
    exact Calls.callWith_builtin rfl (Calls.evalArgs_plain (Calls.spliced_cons (thn q fun v s1 q1 => Calls.spliced_cons (thn q1 fun u s2 q2 => Calls.spliced_nil q2))))
end
end Dn


/-! Dn8 -/
set_option Elab.async false
set_option linter.all false
set_option maxRecDepth 100000
set_option maxHeartbeats 1000000
namespace Dn
open PySem PySem.Spec PyProof.Rows L2

/-! ### methods of texts -/
def MtLs (X : Cx) (W : WX) (id : String) (h : Str → List R → M R) : Prop :=
  ∀ (pins : List (Addr × Obj)) (s : Shared) (σ : L2.St) (H : Hp) (e : Ent) (g : Gh) (env : List Slot) (st : List SO) (z : Str) (t : Tok) (xs : List R) (us : List Value), Iv X pins σ H s → Sim (gm X) e g σ H env st →
    relLR (fun _ => True) e g σ H env (gm X) xs us → WPt X W pins σ e g H env relV (h z xs ⟨env, st⟩) (fun Q => wpAny (model X.prog X.w) X.A (call (.builtin id) (.str z t :: us)) Q X.xe s)
theorem mtl_of {X : Cx} {W : WX} {id : String} {t : V → List V → Hp → VK → Prop} {h : Str → List R → Option R} (ho : MtR X id t)
    (hh : ∀ (e : Ent) (g : Gh) (σ : L2.St) (H : Hp) (env : List Slot) (st : List SO) (N : Addr → Prop) (z : Str) (xs : List R) (us : List V) (r : R), Sim (gm X) e g σ H env st → RReps N e g σ H env (gm X) xs us → h z xs = some r →
      t (.str z) us H (Gives (gm X) e g σ H env r ⟨env, st⟩)) : MtLs X W id (fun z => pureF (h z)) := by
  intro pins s σ H e g env st z t xs us I S ⟨a, ra, qa⟩
  unfold pureF
  dsimp only
  cases q : h z xs with
  | none => trivial
  | some r =>
    show wpAny _ _ _ _ _ _
    refine tkn I.t (ho pins s σ H (.str z) a (.str z t) us _ I.i ⟨t, rfl⟩ ra (hh e g σ H env st _ z xs a r S qa q)) fun w s1 tz hz => ?_
    obtain ⟨c, H', I', rc, g', S', x', q'⟩ := hz
    exact ⟨g', H', ⟨I', tz⟩, S', x', c, rc, q'⟩
def asStr : D → Option Str
  | .str s => some s
  | _ => none
theorem asStr_eq : ∀ {d : D} {b : Str}, asStr d = some b → d = .str b
  | .str _, _, h => by cases h; rfl
  | .non, _, h => by cases h
  | .bl _, _, h => by cases h
  | .int _, _, h => by cases h
  | .tup _, _, h => by cases h
  | .lst _, _, h => by cases h
  | .dct _, _, h => by cases h
  | .ref _, _, h => by cases h
def eStrM (h : Str → List R → M R) (fo : M R) (fs : M (List R)) : M R := bindM fo fun r => match asStr r.d with
  | some z => bindM fs (h z)
  | none => stuckM
section
variable {X : Cx} {W : WX} {o e : Expr} {es : List Expr} {fo : M R} {fs : M (List R)} {name : Str} {apos cpos : Pos} {id : String} {h : Str → List R → M R}
theorem de_sm (slot : PySem.Slot "str" name id) (hty : typeOf (.builtin id) = pure (.type "method_descriptor")) (hm : MtLs X W id h) (ho : DE X W o fo) (ha : DAr X W (e :: es) fs)
    (hbase : attributeBase o name X.env (eval o X.env) = eval o X.env)
    (hfew : ((backTo cpos (starEach (e :: es) X.env)).all (fun x => !x.1) && (backToKw cpos (keywordEach [] X.env)).all (fun x => x.1.isSome)
      && decide ((e :: es).length + ([] : List Keyword).length + (if ([] : List Keyword).isEmpty then 0 else 1) < 30)) = true)
    (hline : (apos.endLine == cpos.line) = true) (hs : starEach (e :: es) X.env = (false, eval e X.env) :: starEach es X.env) (hplain : (backTo cpos (starEach es X.env)).any (·.1) = false) :
    DE X W (.Call (.Attribute o name apos) (e :: es) [] cpos) (eStrM h fo fs) := by
  intro pins s σ H en g env st I S
  refine WPt.imp (tr := fun Q => wpAny (model X.prog X.w) X.A (eval o X.env) (fun v s1 => ∃ z t, v = .str z t ∧ wpAny (model X.prog X.w) X.A (spliced (backTo cpos (starEach (e :: es) X.env))) (fun us s2 => wpAny (model X.prog X.w) X.A (call (.builtin id) (.str z t :: us)) Q X.xe s2) X.xe s1) X.xe s) ?_ (fun Q q => wpAny_Call_method_late hbase hfew hline rfl (thn q fun v s1 q1 => ?_))
  · refine WPt.chain (tr2 := fun v s1 Q => ∃ z t, v = Value.str z t ∧ wpAny (model X.prog X.w) X.A (spliced (backTo cpos (starEach (e :: es) X.env))) (fun us s2 => wpAny (model X.prog X.w) X.A (call (.builtin id) (.str z t :: us)) Q X.xe s2) X.xe s1)
      (hm := fun v s1 => ⟨fun h ⟨z, t, e, x⟩ => ⟨z, t, e, thn x fun us s2 y => thn y h⟩⟩) (ho pins s σ H en g env st I S) fun r s' v s1 g1 H1 _ I1 S1 x1 re1 => ?_
    cases hz : asStr r.d with
    | none => trivial
    | some z =>
      obtain ⟨w, rw1, q1⟩ := re1
      cases RRep.str (asStr_eq hz) q1
      obtain ⟨t, rfl⟩ := rw1
      exact (WPt.chain (ha cpos pins s1 σ H1 en g1 s'.env s'.st I1 S1) fun l s2' us s2 g2 H2 _ I2 S2 x2 re2 => hm pins s2 σ H2 en g2 s2'.env s2'.st z t l us I2 S2 (Up.up (fun _ _ => trivial) re2)).imp fun Q q => ⟨z, t, rfl, q⟩
  · obtain ⟨z, t, rfl, q1⟩ := q1
    refine ⟨"str", id, PySem.F.plainAttrs_str, slot, hty, typeIs_str _ _ _, (fun _ e => nomatch e), ?_⟩
    rw [hs] at q1 ⊢
    refine Calls.callWith_builtin (by show (false || (backTo cpos (starEach es X.env)).any (·.1)) = false; rw [hplain] <;> rfl) (Calls.evalArgs_plain q1)
/-- text.index(text) -/
def fIndex (z : Str) : List R → Option R := one fun r => match asStr r.d with
  | some b => match Builtin.Str.occurrences z b 0 z.length 1 with
    | i :: _ => some (.val (.int (i : Nat)))
    | [] => none
  | none => none
theorem mtl_index : MtLs X W "str.index" (fun z => pureF (fIndex z)) := by
  refine mtl_of mt_sindex fun en g σ H env st N z xs us r S q hr => ?_
  obtain ⟨a, rfl, hr'⟩ := one_inv hr
  clear hr
  have hr := hr'
  clear hr'
  obtain ⟨v, rfl, qa⟩ := RReps.one q
  cases hl : asStr a.d with
  | none => simp only [hl] at hr; cases hr
  | some b =>
    simp only [hl] at hr
    split at hr
    · rename_i i rest hi
      cases hr
      cases RRep.str (asStr_eq hl) qa
      exact ⟨z, b, i, rest, rfl, rfl, hi, Gives.same S rfl⟩
    · cases hr
def asStrs : List D → Option (List Str)
  | [] => some []
  | d :: l => match asStr d, asStrs l with
    | some b, some bs => some (b :: bs)
    | _, _ => none
theorem Reps.strs {G : Gm} {g : Gh} {H : Hp} : ∀ {l : List D} {xs : List V} {bs : List Str}, Reps G g H l xs → asStrs l = some bs → xs = bs.map V.str
  | [], _, _, h, e => by cases e; exact h
  | d :: l, _, bs, ⟨x, r, e1, h1, h2⟩, e => by
    unfold asStrs at e
    split at e
    · rename_i b bs' e2 e3
      cases e
      rw [e1, Reps.strs h2 e3]
      cases asStr_eq e2
      cases (h1 : x = .str b)
      rfl
    · cases e
/-- text.join(list) -/
def fJoin (z : Str) : List R → Option R := one fun r => match seqD r.d with
  | some l => match asStrs l with
    | some ys => if (ys.map (·.length)).sum + ys.length * z.length ≤ 16777216 then some (.val (.str (Txt.join z ys))) else none
    | none => none
  | none => none
theorem mtl_join : MtLs X W "str.join" (fun z => pureF (fJoin z)) := by
  refine mtl_of mt_join fun en g σ H env st N z xs us r S q hr => ?_
  obtain ⟨a, rfl, hr'⟩ := one_inv hr
  clear hr
  have hr := hr'
  clear hr'
  obtain ⟨v, rfl, qa⟩ := RReps.one q
  cases hl : seqD a.d with
  | none => simp only [hl] at hr; cases hr
  | some l =>
    simp only [hl] at hr
    cases hs : asStrs l with
    | none => simp only [hs] at hr; cases hr
    | some ys =>
      simp only [hs] at hr
      split at hr
      · rename_i hz
        cases hr
        obtain ⟨b, xs, rfl, t1, r1⟩ := seq_of hl qa
        rw [r1.strs hs] at t1
        exact ⟨z, b, ys, rfl, rfl, t1, hz, Gives.same S rfl⟩
      · cases hr
/-- text.replace of written texts -/
def repN (x y z : Str) (n : Nat) : Str :=
  if ((Builtin.Str.occurrences x y 0 x.length n).isEmpty || (y.length == 0 && z.length == 0)) = true then x else Builtin.Str.glued z (Builtin.Str.partsBetween x (Builtin.Str.occurrences x y 0 x.length n) y.length)
theorem gives_replace4 (x y z : Str) (k : Nat) (t u v w : Tok) (hk : k < 2 ^ 60)
    (hf : (u == 0 || v == 0) = false ∧ (u == v) = false ∧ (y == z) = false ∧ Builtin.Str.tooLong (x.length + (Builtin.Str.occurrences x y 0 x.length k).length * z.length) = false) :
    PySem.Gives (Builtin.«str.replace» ⟨[.str x t, .str y u, .str z v, .int k w], []⟩) (if ((Builtin.Str.occurrences x y 0 x.length k).isEmpty || (y.length == 0 && z.length == 0)) = true then .val (.str x t) else .str (Builtin.Str.glued z (Builtin.Str.partsBetween x (Builtin.Str.occurrences x y 0 x.length k) y.length))) := by
  obtain ⟨h0, huv, hyz, hl⟩ := hf
  have e : Builtin.«str.replace» ⟨[.str x t, .str y u, .str z v, .int k w], []⟩ = (if ((Builtin.Str.occurrences x y 0 x.length k).isEmpty || (y.length == 0 && z.length == 0)) = true then (do rule "str.replace.nothing"; ret (.str x t)) else
          (do let same ← isSame (.str y u) (.str z v)
              if same = true then (do rule "str.replace.old-is-new"; ret (.str x t)) else
              if Builtin.Str.tooLong (x.length + (Builtin.Str.occurrences x y 0 x.length k).length * z.length) = true then unsupported "str.replace:memory" else
              retStr (Builtin.Str.glued z (Builtin.Str.partsBetween x (Builtin.Str.occurrences x y 0 x.length k) y.length)))) := by
    show (do let limit ← Builtin.Str.countLimit "str.replace" (some (.int k w)) (x.length + 1); _) = _
    rw [PySem.countLimit_int "str.replace" k w (x.length + 1) (by simp; omega), if_neg (by omega)]
    rfl
  rw [e]
  cases hc : ((Builtin.Str.occurrences x y 0 x.length k).isEmpty || (y.length == 0 && z.length == 0))
  · rw [PySem.isSame_str_other y z u v h0 huv hyz, hl]
    exact .of_eq rfl
  · exact .rule (.of_eq rfl)
theorem fits_repN {x z : Str} (y : Str) (n : Nat) (hn : n ≤ x.length + 1) (hb : x.length + (x.length + 1) * z.length ≤ 16777216) :
    (Builtin.Str.glued z (Builtin.Str.partsBetween x (Builtin.Str.occurrences x y 0 x.length n) y.length)).length ≤ sizeLine := by
  have h1 := StrLaws.occ_length_le x y 0 x.length n
  have hy : (Builtin.Str.glued y (Builtin.Str.partsBetween x (Builtin.Str.occurrences x y 0 x.length n) y.length)).length = x.length := by rw [StrLaws.glued_between_self]
  rw [PySem.size_glued, PySem.length_partsBetween, Nat.add_sub_cancel] at hy
  rw [PySem.size_glued, PySem.length_partsBetween, Nat.add_sub_cancel, sizeLine_eq]
  have h2 : (Builtin.Str.occurrences x y 0 x.length n).length * z.length ≤ (x.length + 1) * z.length := Nat.mul_le_mul_right _ (Nat.le_trans h1 hn)
  omega
theorem replN_ep {x y z : Str} {k : Nat} {t u v w : Tok} {s : Shared} {Q : Value → Shared → Prop} (hk : k ≤ x.length + 1) (hu : u ≠ 0) (hv : v ≠ 0) (huv : u ≠ v) (hyz : (y == z) = false) (hb : x.length + (x.length + 1) * z.length ≤ 16777216)
    (hq : ∀ t' k', Q (.str (repN x y z k) t') { s with toks := k' }) : wpAny (model X.prog X.w) X.A (call (.builtin "str.replace") [.str x t, .str y u, .str z v, .int (k : Nat) w]) Q X.xe s := by
  have e : (2 : Nat) ^ 24 = 16777216 := by decide
  have h1 := StrLaws.occ_length_le x y 0 x.length k
  have h2 : (Builtin.Str.occurrences x y 0 x.length k).length * z.length ≤ (x.length + 1) * z.length := Nat.mul_le_mul_right _ (Nat.le_trans h1 hk)
  have hl : Builtin.Str.tooLong (x.length + (Builtin.Str.occurrences x y 0 x.length k).length * z.length) = false := by
    unfold Builtin.Str.tooLong sizeLine
    exact decide_eq_false (by omega)
  refine PySem.call_gives PySem.F.slot_str_replace (typeIs_str _ _ _) PySem.F.entry_str_replace (PySem.F.args_str_replace_4 _ _ _ _)
    (gives_replace4 x y z k t u v w (by have : (16777216 : Nat) + 1 < 2 ^ 60 := by decide
                                        omega) ⟨by simp [hu, hv], by simp [huv], hyz, hl⟩) ?_
  have hq' := hq
  unfold repN at hq'
  cases hc : ((Builtin.Str.occurrences x y 0 x.length k).isEmpty || (y.length == 0 && z.length == 0))
  · rw [hc] at hq'
    simp only [Bool.false_eq_true, if_false] at hq' ⊢
    exact ⟨fits_repN y k hk hb, hq' _ _⟩
  · rw [hc] at hq'
    simp only [if_true] at hq' ⊢
    exact hq' t s.toks
def replD (y z : Str) (k : Option Nat) (r : R) : Option R := match asStr r.d with
  | some x => match k with
    | none => if x.length + (x.length + 1) * z.length ≤ 16777216 then some (.val (.str (repN x y z (x.length + 1)))) else none
    | some n => if x.length + (x.length + 1) * z.length ≤ 16777216 ∧ n ≤ x.length + 1 then some (.val (.str (repN x y z n))) else none
  | none => none
def eRepl (y z : Str) (k : Option Nat) (fo : M R) : M R := bindM fo (pureF (replD y z k))
theorem repl_any {k : Option Nat} {y z : Str} {tr : Value → Shared → Tr Value} [hmt : ∀ v s, MonoT (tr v s)] (ho : DE X W o fo)
    (htr : ∀ (v : Value) (s1 : Shared) (x : Str) (t : Tok) (Q : Value → Shared → Prop), v = .str x t → 0 < s1.toks → (match k with
      | none => x.length + (x.length + 1) * z.length ≤ 16777216
      | some n => x.length + (x.length + 1) * z.length ≤ 16777216 ∧ n ≤ x.length + 1) → (∀ t' k', 0 < k' → Q (.str (repN x y z (match k with | some n => n | none => x.length + 1)) t') { s1 with toks := k' }) → tr v s1 Q)
    {pins : List (Addr × Obj)} {s : Shared} {σ : L2.St} {H : Hp} {en : Ent} {g : Gh} {env : List Slot} {st : List SO} (I : Iv X pins σ H s) (S : Sim (gm X) en g σ H env st) :
    WPt X W pins σ en g H env relV (eRepl y z k fo ⟨env, st⟩) (fun Q => wpAny (model X.prog X.w) X.A (eval o X.env) (fun v s1 => tr v s1 Q) X.xe s) := by
  refine WPt.chain (tr2 := tr) (hm := hmt) (ho pins s σ H en g env st I S) fun r s' v s1 g1 H1 _ I1 S1 x1 re1 => ?_
  unfold pureF
  cases hr : replD y z k r with
  | none => trivial
  | some r2 =>
    unfold replD at hr
    split at hr
    · rename_i x hz
      obtain ⟨w, rw1, q1⟩ := re1
      cases RRep.str (asStr_eq hz) q1
      obtain ⟨t, rfl⟩ := rw1
      have fin : ∀ {q : Str} {t' : Tok} {k' : Nat}, 0 < k' → Done X pins σ en g1 H1 s'.env relV (.val (.str q)) s' (.str q t') { s1 with toks := k' } := fun {q t' k'} hk => ⟨g1, H1, ⟨I1.i.tok k', hk⟩, S1, Step.refl, .str q, ⟨t', rfl⟩, rfl⟩
      split at hr
      · split at hr
        · rename_i hb
          cases hr
          exact htr _ _ x t _ rfl I1.t hb fun t' k' hk => fin hk
        · cases hr
      · split at hr
        · rename_i hb
          cases hr
          exact htr _ _ x t _ rfl I1.t hb fun t' k' hk => fin hk
        · cases hr
    · cases hr
theorem de_repl {y z : Str} {j k : Nat} {c0 c1 : Pos} (ho : DE X W o fo) (hyz : (y == z) = false)
    (hst : starEach [.Constant (.str y) j c0, .Constant (.str z) k c1] X.env = [(false, eval (.Constant (.str y) j c0) X.env), (false, eval (.Constant (.str z) k c1) X.env)])
    (hbase : attributeBase o "replace" X.env (eval o X.env) = eval o X.env) (hline : (apos.endLine == cpos.line) = true) :
    DE X W (.Call (.Attribute o "replace" apos) [.Constant (.str y) j c0, .Constant (.str z) k c1] [] cpos) (eRepl y z none fo) := by
  intro pins s σ H en g env st I S
  refine WPt.imp (repl_any (k := none) (y := y) (z := z) (tr := fun v s1 Q => ∃ x t, v = Value.str x t ∧ wpAny (model X.prog X.w) X.A (call (.builtin "str.replace") [.str x t, .str y s1.toks, .str z (s1.toks + 1)]) Q X.xe { s1 with toks := s1.toks + 1 + 1 })
    (hmt := fun v s1 => ⟨fun h ⟨z, t, e, x⟩ => ⟨z, t, e, thn x h⟩⟩) ho ?_ I S) fun Q q => PySem.Call_method2 hbase hst hline (thn q fun v s1 q1 => ?_)
  · intro v s1 x t Q ev ht hb hq
    refine ⟨x, t, ev, tkn (s := { s1 with toks := s1.toks + 1 + 1 }) (by show 0 < s1.toks + 1 + 1; omega) (Q := fun v s' => ∃ t' k', v = Value.str (repN x y z (x.length + 1)) t' ∧ s' = { s1 with toks := k' }) ?_ fun v s' hp ⟨t', k', e1, e2⟩ => ?_⟩
    · exact PySem.SC.replace (by show s1.toks ≠ 0; omega) (by show s1.toks + 1 ≠ 0; omega) (by show s1.toks ≠ s1.toks + 1; omega) hyz hb fun t' k => ⟨t', k, rfl, rfl⟩
    · subst e1 e2
      exact hq t' k' hp
  · obtain ⟨x, t, rfl, q1⟩ := q1
    refine ⟨"str", _, PySem.F.plainAttrs_str, PySem.F.slot_str_replace, PySem.F.type_str_replace, typeIs_str _ _ _, (fun _ e => nomatch e), Calls.callWith_builtin rfl (Calls.evalArgs_plain (Calls.spliced_cons ?_))⟩
    exact Calls.Constant_str (Calls.spliced_cons (Calls.Constant_str (Calls.spliced_nil q1)))
theorem de_replN {y z : Str} {n : Nat} {j k l : Nat} {c0 c1 c2 : Pos} (ho : DE X W o fo) (hyz : (y == z) = false)
    (hst : starEach [.Constant (.str y) j c0, .Constant (.str z) k c1, .Constant (.int (n : Nat)) l c2] X.env = [(false, eval (.Constant (.str y) j c0) X.env), (false, eval (.Constant (.str z) k c1) X.env), (false, eval (.Constant (.int (n : Nat)) l c2) X.env)])
    (hbase : attributeBase o "replace" X.env (eval o X.env) = eval o X.env) (hline : (apos.endLine == cpos.line) = true) :
    DE X W (.Call (.Attribute o "replace" apos) [.Constant (.str y) j c0, .Constant (.str z) k c1, .Constant (.int (n : Nat)) l c2] [] cpos) (eRepl y z (some n) fo) := by
  intro pins s σ H en g env st I S
  refine WPt.imp (repl_any (k := some n) (y := y) (z := z) (tr := fun v s1 Q => ∃ x t, v = Value.str x t ∧ wpAny (model X.prog X.w) X.A (call (.builtin "str.replace") [.str x t, .str y s1.toks, .str z (s1.toks + 1), .int (n : Nat) (s1.toks + 1 + 1)]) Q X.xe { s1 with toks := s1.toks + 1 + 1 + 1 })
    (hmt := fun v s1 => ⟨fun h ⟨z, t, e, x⟩ => ⟨z, t, e, thn x h⟩⟩) ho ?_ I S) fun Q q => PySem.wpAny_Call_method_lateS hbase (by rw [hst]; rfl) hline (thn q fun v s1 q1 => ?_)
  · intro v s1 x t Q ev ht hb hq
    refine ⟨x, t, ev, tkn (s := { s1 with toks := s1.toks + 1 + 1 + 1 }) (by show 0 < s1.toks + 1 + 1 + 1; omega) (Q := fun v s' => ∃ t' k', v = Value.str (repN x y z n) t' ∧ s' = { s1 with toks := k' }) ?_ fun v s' hp ⟨t', k', e1, e2⟩ => ?_⟩
    · exact replN_ep hb.2 (by show s1.toks ≠ 0; omega) (by show s1.toks + 1 ≠ 0; omega) (by show s1.toks ≠ s1.toks + 1; omega) hyz hb.1 fun t' k => ⟨t', k, rfl, rfl⟩
    · subst e1 e2
      exact hq t' k' hp
  · obtain ⟨x, t, rfl, q1⟩ := q1
    rw [hst]
    refine ⟨"str", _, PySem.F.plainAttrs_str, PySem.F.slot_str_replace, PySem.F.type_str_replace, typeIs_str _ _ _, (fun _ e => nomatch e), Calls.callWith_builtin rfl (Calls.evalArgs_plain (Calls.spliced_cons ?_))⟩
    refine Calls.Constant_str (k := j) (pos := c0) (Calls.spliced_cons ?_)
    refine Calls.Constant_str (k := k) (pos := c1) (Calls.spliced_cons ?_)
    exact wpAny_Constant_int (k := l) (pos := c2) (Calls.spliced_nil q1)
end
end Dn


/-! Dn9 -/
set_option Elab.async false
set_option linter.all false
set_option maxRecDepth 100000
set_option maxHeartbeats 1000000
namespace Dn
open PySem PySem.Spec PyProof.Rows L2

/-! ### statements -/
inductive Fl where
  | nx | brk | cont | ret (r : R)
abbrev RelS (α β : Type) := Ent → Gh → L2.St → Hp → List Slot → Gm → α → β → Prop
def relF : RelS Fl Flow := fun e g σ H env G f u => match f with
  | .nx => u = .next
  | .brk => u = .brk
  | .cont => u = .cont
  | .ret r => ∃ v w, u = .ret w ∧ RelV v w ∧ RRep (fun _ => True) e g σ H env G r v
def relU : RelS Unit Unit := fun _ _ _ _ _ _ _ _ => True
def DoneS {α β : Type} (X : Cx) (pins : List (Addr × Obj)) (e : Ent) (g : Gh) (H : Hp) (rel : RelS α β) (r : α) (s' : S) (u : β) (s1 : Shared) : Prop :=
  ∃ σ1 g1 H1, Iv X pins σ1 H1 s1 ∧ Sim (gm X) e g1 σ1 H1 s'.env s'.st ∧ MonoG g H g1 H1 ∧ rel e g1 σ1 H1 s'.env (gm X) r u
def WishS (X : Cx) (W : WX) (e : Ent) (g : Gh) (H : Hp) (x : Exc) (s' : S) : Prop := ∀ σ' cls d g' H', Sim (gm X) e g' σ' H' s'.env s'.st → ExcRep (gm X) g' H' x cls d → MonoG g H g' H' → W cls d σ' H'
def WPs {α β : Type} (X : Cx) (W : WX) (pins : List (Addr × Obj)) (e : Ent) (g : Gh) (H : Hp) (rel : RelS α β) (res : Res α) (tr : Tr β) : Prop :=
  match res with
  | .ok r s' => tr (DoneS X pins e g H rel r s')
  | .exc x s' => WishS X W e g H x s' → tr fun _ _ => False
  | .stuck => True
def RunsS {α β : Type} (X : Cx) (W : WX) (t : Sem β) (rel : RelS α β) (f : M α) : Prop :=
  ∀ (pins : List (Addr × Obj)) (s : Shared) (σ : L2.St) (H : Hp) (e : Ent) (g : Gh) (env : List Slot) (st : List SO), Iv X pins σ H s → Sim (gm X) e g σ H env st →
    WPs X W pins e g H rel (f ⟨env, st⟩) (fun Q => wpAny (model X.prog X.w) X.A t Q X.xe s)
abbrev DS (X : Cx) (W : WX) (st : Stmt) (f : M Fl) : Prop := RunsS X W (exec st X.env) relF f
abbrev DSs (X : Cx) (W : WX) (l : List Stmt) (f : M Fl) : Prop := RunsS X W (execs l X.env) relF f
section
variable {α β γ δ : Type} {X : Cx} {W : WX} {pins : List (Addr × Obj)} {σ : L2.St} {e : Ent} {g : Gh} {H : Hp} {env : List Slot} {st : List SO} {relt : RelT α β} {rel : RelS α β} {rel2 : RelS γ δ}
theorem WPs.imp {res : Res α} {tr tr' : Tr β} (h : WPs X W pins e g H rel res tr) (hi : ∀ Q, tr Q → tr' Q) : WPs X W pins e g H rel res tr' := by
  cases res with
  | ok r s' => exact hi _ h
  | exc x s' => exact fun w => hi _ (h w)
  | stuck => trivial
theorem WishS.on {g1 : Gh} {H1 : Hp} {x : Exc} {s' : S} (m : MonoG g H g1 H1) (w : WishS X W e g H x s') : WishS X W e g1 H1 x s' := fun σ' cls d g' H' S er m' => w σ' cls d g' H' S er (m.trans m')
theorem WishS.wish {x : Exc} {s' : S} (w : WishS X W e g H x s') : Wish X W e g H σ x s' := fun cls d g' H' S er m' => w σ cls d g' H' S er m'
theorem DoneS.up {g1 : Gh} {H1 : Hp} {r : α} {s' : S} {u : β} {s1 : Shared} (m : MonoG g H g1 H1) (h : DoneS X pins e g1 H1 rel r s' u s1) : DoneS X pins e g H rel r s' u s1 := by
  obtain ⟨σ2, g2, H2, I2, S2, m2, re⟩ := h
  exact ⟨σ2, g2, H2, I2, S2, m.trans m2, re⟩
/-- an expression, then a statement's rest -/
theorem WPt.thenS {res : Res α} {k : α → M γ} {tr1 : Tr β} {tr2 : β → Shared → Tr δ} [MonoT tr1] [hm : ∀ u s, MonoT (tr2 u s)] (h1 : WPt X W pins σ e g H env relt res tr1)
    (h2 : ∀ r s' u s1 g1 H1, res = .ok r s' → Iv X pins σ H1 s1 → Sim (gm X) e g1 σ H1 s'.env s'.st → MonoG g H g1 H1 → relt (New H env σ) e g1 σ H1 s'.env (gm X) r u →
      WPs X W pins e g1 H1 rel2 (k r s') (tr2 u s1)) : WPs X W pins e g H rel2 (res.bind k) (fun Q => tr1 fun u s1 => tr2 u s1 Q) := by
  cases res with
  | ok r s' =>
    show WPs X W pins e g H rel2 (k r s') _
    cases q : k r s' with
    | ok r2 s2 =>
      refine MonoT.mono (fun u s1 hd => ?_) (show tr1 _ from h1)
      obtain ⟨g1, H1, I1, S1, x1, re⟩ := hd
      have z := h2 r s' u s1 g1 H1 rfl I1 S1 (mono_of S1 x1) re
      rw [q] at z
      exact MonoT.mono (fun u2 s2' hd2 => hd2.up (mono_of S1 x1)) (show tr2 u s1 _ from z)
    | exc x s2 =>
      intro w
      refine MonoT.mono (fun u s1 hd => ?_) (show tr1 _ from h1)
      obtain ⟨g1, H1, I1, S1, x1, re⟩ := hd
      have z := h2 r s' u s1 g1 H1 rfl I1 S1 (mono_of S1 x1) re
      rw [q] at z
      exact z (w.on (mono_of S1 x1))
    | stuck => trivial
  | exc x s' => exact fun w => MonoT.mono (fun _ _ z => z.elim) (h1 w.wish)
  | stuck => trivial
theorem WPs.chain {res : Res α} {k : α → M γ} {tr1 : Tr β} {tr2 : β → Shared → Tr δ} [MonoT tr1] [hm : ∀ u s, MonoT (tr2 u s)] (h1 : WPs X W pins e g H rel res tr1)
    (h2 : ∀ r s' u s1 σ1 g1 H1, res = .ok r s' → Iv X pins σ1 H1 s1 → Sim (gm X) e g1 σ1 H1 s'.env s'.st → MonoG g H g1 H1 → rel e g1 σ1 H1 s'.env (gm X) r u →
      WPs X W pins e g1 H1 rel2 (k r s') (tr2 u s1)) : WPs X W pins e g H rel2 (res.bind k) (fun Q => tr1 fun u s1 => tr2 u s1 Q) := by
  cases res with
  | ok r s' =>
    show WPs X W pins e g H rel2 (k r s') _
    cases q : k r s' with
    | ok r2 s2 =>
      refine MonoT.mono (fun u s1 hd => ?_) (show tr1 _ from h1)
      obtain ⟨σ1, g1, H1, I1, S1, m1, re⟩ := hd
      have z := h2 r s' u s1 σ1 g1 H1 rfl I1 S1 m1 re
      rw [q] at z
      exact MonoT.mono (fun u2 s2' hd2 => hd2.up m1) (show tr2 u s1 _ from z)
    | exc x s2 =>
      intro w
      refine MonoT.mono (fun u s1 hd => ?_) (show tr1 _ from h1)
      obtain ⟨σ1, g1, H1, I1, S1, m1, re⟩ := hd
      have z := h2 r s' u s1 σ1 g1 H1 rfl I1 S1 m1 re
      rw [q] at z
      exact z (w.on m1)
    | stuck => trivial
  | exc x s' => exact fun w => MonoT.mono (fun _ _ z => z.elim) (h1 w)
  | stuck => trivial
theorem WPs.pure {t : Sem β} {s : Shared} {r : α} {s' : S} (h : wpAny (model X.prog X.w) X.A t (DoneS X pins e g H rel r s') X.xe s) : WPs X W pins e g H rel (.ok r s') (fun Q => wpAny (model X.prog X.w) X.A t Q X.xe s) := h
end

/-! ### blocks -/
section
variable {X : Cx} {W : WX} {pos : Pos} {sm : Stmt} {rest : List Stmt} {f h : M Fl} {ex : Expr} {fe : M R}
def sSeq (f h : M Fl) : M Fl := bindM f fun fl => match fl with
  | .nx => h
  | fl => retM fl
theorem dss_nil : DSs X W [] (retM .nx) := fun pins s σ H e g env st I S => wpAny_execs_nil ⟨σ, g, H, I, S, .refl, rfl⟩
theorem dss_cons (h1 : DS X W sm f) (h2 : DSs X W rest h) : DSs X W (sm :: rest) (sSeq f h) := by
  intro pins s σ H e g env st I S
  refine WPs.imp (tr := fun Q => wpAny (model X.prog X.w) X.A (exec sm X.env) (fun f s' => (match f with | .next => wpAny (model X.prog X.w) X.A (execs rest X.env) Q X.xe s' | f => Q f s')) X.xe s) ?_ (fun Q q => wpAny_execs_cons q)
  refine WPs.chain (tr2 := fun f s' Q => (match f with | .next => wpAny (model X.prog X.w) X.A (execs rest X.env) Q X.xe s' | f => Q f s')) (hm := fun u s => by
    cases u with
    | next => exact ⟨fun h x => thn x h⟩
    | brk => exact ⟨fun h x => h _ _ x⟩
    | cont => exact ⟨fun h x => h _ _ x⟩
    | ret v => exact ⟨fun h x => h _ _ x⟩) (h1 pins s σ H e g env st I S) fun fl s' u s1 σ1 g1 H1 _ I1 S1 m1 re => ?_
  cases fl with
  | nx =>
    cases (re : u = .next)
    exact h2 pins s1 σ1 H1 e g1 s'.env s'.st I1 S1
  | brk =>
    cases (re : u = .brk)
    exact ⟨σ1, g1, H1, I1, S1, .refl, rfl⟩
  | cont =>
    cases (re : u = .cont)
    exact ⟨σ1, g1, H1, I1, S1, .refl, rfl⟩
  | ret r =>
    obtain ⟨v, w, rfl, re⟩ := re
    exact ⟨σ1, g1, H1, I1, S1, .refl, v, w, rfl, re⟩
theorem ds_pass : DS X W (.Pass pos) (retM .nx) := fun pins s σ H e g env st I S => wpAny_Pass ⟨σ, g, H, I, S, .refl, rfl⟩
theorem ds_break : DS X W (.Break pos) (retM .brk) := fun pins s σ H e g env st I S => wpAny_Break ⟨σ, g, H, I, S, .refl, rfl⟩
theorem ds_cont : DS X W (.Continue pos) (retM .cont) := fun pins s σ H e g env st I S => wpAny_Continue ⟨σ, g, H, I, S, .refl, rfl⟩
theorem ds_doc {x : Str} {j : Nat} {pos' : Pos} : DS X W (.Expr (.Constant (.str x) j pos) pos') (retM .nx) := fun pins s σ H e g env st I S =>
  wpAny_Expr (Calls.Constant_str (show DoneS X pins e g H relF .nx ⟨env, st⟩ .next { s with toks := s.toks + 1 } from ⟨σ, g, H, ⟨I.i.tok _, by show 0 < s.toks + 1; omega⟩, S, .refl, rfl⟩)) I.i.quiet
def sDrop (fe : M R) : M Fl := bindM fe fun _ => retM .nx
theorem ds_expr (he : DE X W ex fe) (hs : swapsWith ex none pos.line X.env = pure false) : DS X W (.Expr ex pos) (sDrop fe) := by
  intro pins s σ H e g env st I S
  refine WPs.imp (tr := fun Q => wpAny (model X.prog X.w) X.A (eval ex X.env) (fun _ s1 => Q .next s1) X.xe s) ?_ (fun Q q => wpAny_Expr_any q I.i.quiet hs)
  refine WPt.thenS (tr2 := fun _ s1 Q => Q Flow.next s1) (hm := fun u s => ⟨fun h x => h _ _ x⟩) (he pins s σ H e g env st I S) fun r s' u s1 g1 H1 _ I1 S1 m1 re => ?_
  exact ⟨σ, g1, H1, I1, S1, .refl, rfl⟩
def noTmp : R → M R
  | .tmp _ => stuckM
  | r => retM r
def sRet (fe : M R) : M Fl := bindM fe fun r => retM (.ret r)
theorem ds_ret (he : DE X W ex fe) : DS X W (.Return (some ex) pos) (sRet fe) := by
  intro pins s σ H e g env st I S
  refine WPs.imp (tr := fun Q => wpAny (model X.prog X.w) X.A (eval ex X.env) (fun v s1 => Q (.ret v) s1) X.xe s) ?_ (fun Q q => wpAny_Return_some q)
  refine WPt.thenS (tr2 := fun v s1 Q => Q (Flow.ret v) s1) (hm := fun u s => ⟨fun h x => h _ _ x⟩) (he pins s σ H e g env st I S) fun r s' u s1 g1 H1 _ I1 S1 m1 re => ?_
  obtain ⟨v, rv, q⟩ := re
  exact ⟨σ, g1, H1, I1, S1, .refl, v, u, rfl, rv, q.up fun _ _ => trivial⟩
theorem ds_retN : DS X W (.Return none pos) (retM (.ret (.val .non))) := fun pins s σ H e g env st I S => wpAny_Return_none ⟨σ, g, H, I, S, .refl, .non, .none, rfl, rfl, rfl⟩
def sIf (t : M Bool) (a b : M Fl) : M Fl := bindM t fun c => if c = true then a else b
theorem ds_if {a b : List Stmt} {fa fb : M Fl} {t : M Bool} (hc : DT X W ex t) (ha : DSs X W a fa) (hb : DSs X W b fb) : DS X W (.If ex a b pos) (sIf t fa fb) := by
  intro pins s σ H e g env st I S
  refine WPs.imp (tr := fun Q => wpAny (model X.prog X.w) X.A (isTrue ex X.env (eval ex X.env)) (fun b' s2 => if b' then wpAny (model X.prog X.w) X.A (execs a X.env) Q X.xe s2 else wpAny (model X.prog X.w) X.A (execs b X.env) Q X.xe s2) X.xe s) ?_ (fun Q q => wpAny_If q)
  refine WPt.thenS (hm := fun k s => by cases k; exact ⟨fun h x => thn x h⟩; exact ⟨fun h x => thn x h⟩) (hc pins s σ H e g env st I S) fun k s' k' s1 g1 H1 _ I1 S1 m1 re => ?_
  cases (re : k = k')
  cases k with
  | true => simp only [if_true]; exact ha pins s1 σ H1 e g1 s'.env s'.st I1 S1
  | false => simp only [Bool.false_eq_true, if_false]; exact hb pins s1 σ H1 e g1 s'.env s'.st I1 S1
end

/-! ### stores to names -/
section
variable {G : Gm} {e : Ent} {g : Gh} {σ : L2.St} {H : Hp} {env : List Slot} {st : List SO} {i : Nat}
theorem set_get' {j : Nat} {x y : Slot} (h : (env.set i x)[j]? = some y) : (j = i ∧ y = x ∧ i < env.length) ∨ (j ≠ i ∧ env[j]? = some y) := by
  by_cases e : j = i
  · subst e
    by_cases hl : j < env.length
    · rw [List.getElem?_set_self hl] at h
      exact .inl ⟨rfl, (Option.some.inj h).symm, hl⟩
    · rw [List.getElem?_eq_none (by simpa using hl)] at h; cases h
  · rw [List.getElem?_set_ne (Ne.symm e)] at h
    exact .inr ⟨e, h⟩
theorem σset_ne {j : Nat} {v : Option V} (h : j ≠ i) : (σ.set i v)[j]? = σ[j]? := List.getElem?_set_ne (Ne.symm h)
theorem σset_eq {v : Option V} (h : i < σ.length) : (σ.set i v)[i]? = some v := List.getElem?_set_self h
theorem Sim.setV (S : Sim G e g σ H env st) {d : D} {v : V} (r : Rep G g H d v) : Sim G e g (σ.set i (some v)) H (env.set i (.val d)) st := by
  refine ⟨S.keep, S.fNew, S.fOld, S.ρx, S.ρnd, S.ρF, S.fIn, by simp [S.len], fun j d' h => ?_, fun j d' h => ?_, fun j k d1 d2 a n h1 h2 h3 => ?_, S.slen, S.sto⟩
  · rcases set_get' h with ⟨rfl, z, hl⟩ | ⟨ne, z⟩
    · cases z
      exact ⟨v, σset_eq (by rw [← S.len]; exact hl), r⟩
    · rw [σset_ne ne]; exact S.val j d' z
  · rcases set_get' h with ⟨rfl, z, hl⟩ | ⟨ne, z⟩
    · cases z
    · rw [σset_ne ne]; exact S.own j d' z
  · rcases set_get' h1 with ⟨rfl, z, hl⟩ | ⟨ne1, z1⟩
    · cases z
    · rcases set_get' h2 with ⟨rfl, z, hl⟩ | ⟨ne2, z2⟩
      · cases z
      · rw [σset_ne ne1] at h3
        rw [σset_ne ne2]
        exact S.ownNe j k d1 d2 a n z1 z2 h3
theorem Sim.setO (S : Sim G e g σ H env st) {d : D} {a : Addr} (o : OwnAt G g H a d) (hρ : a ∉ g.ρ) (hF : ¬ g.F a) (hO : ¬ OwnedAt env σ a) (he : e.H a = none) : Sim G e g (σ.set i (some (.ref a))) H (env.set i (.own d)) st := by
  refine ⟨S.keep, S.fNew, S.fOld, S.ρx, S.ρnd, S.ρF, S.fIn, by simp [S.len], fun j d' h => ?_, fun j d' h => ?_, fun j k d1 d2 b n h1 h2 h3 => ?_, S.slen, S.sto⟩
  · rcases set_get' h with ⟨rfl, z, hl⟩ | ⟨ne, z⟩
    · cases z
    · rw [σset_ne ne]; exact S.val j d' z
  · rcases set_get' h with ⟨rfl, z, hl⟩ | ⟨ne, z⟩
    · cases z
      exact ⟨a, σset_eq (by rw [← S.len]; exact hl), o, hF, hρ, he⟩
    · rw [σset_ne ne]; exact S.own j d' z
  · rcases set_get' h1 with ⟨rfl, z, hl⟩ | ⟨ne1, z1⟩
    · rcases set_get' h2 with ⟨rfl, z', hl'⟩ | ⟨ne2, z2⟩
      · exact absurd rfl n
      · rw [σset_eq (by rw [← S.len]; exact hl)] at h3
        cases h3
        rw [σset_ne ne2]
        intro q
        exact hO ⟨k, d2, z2, q⟩
    · rcases set_get' h2 with ⟨rfl, z', hl'⟩ | ⟨ne2, z2⟩
      · rw [σset_ne ne1] at h3
        rw [σset_eq (by rw [← S.len]; exact hl')]
        intro q
        cases q
        exact hO ⟨j, d1, z1, h3⟩
      · rw [σset_ne ne1] at h3
        rw [σset_ne ne2]
        exact S.ownNe j k d1 d2 b n z1 z2 h3
/-- an object joins the store -/
def Gh.reg (g : Gh) (a : Addr) : Gh := ⟨g.F, g.ρ ++ [a]⟩
theorem MonoG.reg {a : Addr} : MonoG g H (g.reg a) H := ⟨fun _ h => h, fun _ _ _ h => h, fun n b h => by
  show (g.ρ ++ [a])[n]? = some b
  rw [List.getElem?_append_left (List.getElem?_eq_some_iff.mp h).1]; exact h⟩
theorem Sim.reg (S : Sim G e g σ H env st) {o : SO} {a : Addr} (ho : SOAt G g H a o) (hρ : a ∉ g.ρ) (hF : ¬ g.F a) (hO : ¬ OwnedAt env σ a) (he : e.H a = none) : Sim G e (g.reg a) σ H env (st ++ [o]) := by
  have m : MonoG g H (g.reg a) H := MonoG.reg
  refine ⟨S.keep, S.fNew, S.fOld, ?_, ?_, fun b hb f => ?_, S.fIn, S.len, fun j d h => ?_, fun j d h => ?_, S.ownNe, ?_, fun n o' b h1 h2 => ?_⟩
  · obtain ⟨more, e1, hn⟩ := S.ρx
    refine ⟨more ++ [a], by show g.ρ ++ [a] = _; rw [e1, List.append_assoc], fun b hb => ?_⟩
    rcases List.mem_append.mp hb with hb | hb
    · exact hn b hb
    · have : b = a := by simpa using hb
      rw [this]; exact he
  · show (g.ρ ++ [a]).Nodup
    exact List.nodup_append.mpr ⟨S.ρnd, by simp, fun b hb c hc => by
      have : c = a := by simpa using hc
      rw [this]
      rintro rfl
      exact hρ hb⟩
  · rcases List.mem_append.mp (show b ∈ g.ρ ++ [a] from hb) with hb | hb
    · exact S.ρF b hb f
    · have : b = a := by simpa using hb
      subst this
      exact hF f
  · obtain ⟨v, h1, h2⟩ := S.val j d h
    exact ⟨v, h1, h2.mono m⟩
  · obtain ⟨b, h1, h2, h3, h4, h5⟩ := S.own j d h
    refine ⟨b, h1, h2.mono m fun _ h => h, h3, fun z => ?_, h5⟩
    rcases List.mem_append.mp (show b ∈ g.ρ ++ [a] from z) with z | z
    · exact h4 z
    · have : b = a := by simpa using z
      rw [this] at h1
      exact hO ⟨j, d, h, h1⟩
  · show (st ++ [o]).length = (g.ρ ++ [a]).length
    simp [S.slen]
  · have h2 : (g.ρ ++ [a])[n]? = some b := h2
    by_cases hl : n < st.length
    · rw [List.getElem?_append_left hl] at h1
      rw [List.getElem?_append_left (by rw [← S.slen]; exact hl)] at h2
      exact (S.sto n o' b h1 h2).mono m fun _ h => h
    · rw [List.getElem?_append_right (by omega)] at h1
      rw [List.getElem?_append_right (by rw [← S.slen]; omega)] at h2
      have z : n - st.length = 0 := by
        cases q : n - st.length with
        | zero => rfl
        | succ k => rw [q] at h1; simp at h1
      rw [z] at h1
      rw [← S.slen, z] at h2
      simp at h1 h2
      subst h1 h2
      exact ho.mono m fun _ h => h
end

/-- what a target does with a value -/
def DG (X : Cx) (W : WX) (tg : Expr) (a : R → M Unit) : Prop :=
  ∀ (pins : List (Addr × Obj)) (s : Shared) (σ : L2.St) (H : Hp) (e : Ent) (g : Gh) (env : List Slot) (st : List SO) (N : Addr → Prop) (r : R) (u : Value), Iv X pins σ H s → Sim (gm X) e g σ H env st → relV N e g σ H env (gm X) r u →
    WPs X W pins e g H relU (a r ⟨env, st⟩) (fun Q => wpAny (model X.prog X.w) X.A (assign tg X.env u) Q X.xe s)
def DGs (X : Cx) (W : WX) (ts : List Expr) (a : List D → M Unit) : Prop :=
  ∀ (pins : List (Addr × Obj)) (s : Shared) (σ : L2.St) (H : Hp) (e : Ent) (g : Gh) (env : List Slot) (st : List SO) (l : List D) (us : List Value), Iv X pins σ H s → Sim (gm X) e g σ H env st → (∃ vs, Vals vs us ∧ Reps (gm X) g H l vs) →
    WPs X W pins e g H relU (a l ⟨env, st⟩) (fun Q => wpAny (model X.prog X.w) X.A (assignInOrder ((assignEach ts X.env).map (·.2)) us) Q X.xe s)
def asgM (i : Nat) (r : R) : M Unit := fun s => match r with
  | .val d => .ok () { s with env := s.env.set i (.val d) }
  | .own d => .ok () { s with env := s.env.set i (.own d) }
  | .tmp _ => .stuck
/-- the same, a new list joins the store -/
def asgRef (i : Nat) (r : R) : M Unit := fun s => match r with
  | .val d => .ok () { s with env := s.env.set i (.val d) }
  | .own (.lst l) => .ok () { env := s.env.set i (.val (.ref s.st.length)), st := s.st ++ [.lst l] }
  | _ => .stuck
section
variable {X : Cx} {W : WX} {pos : Pos} {x : Str} {i : Nat}
theorem store_any {pins : List (Addr × Obj)} {s : Shared} {σ : L2.St} {H : Hp} {e : Ent} {g : Gh} {env' : List Slot} {st' : List SO} {g1 : Gh} {v : V} {u : Value} {Q : Unit → Shared → Prop} (hN : X.N.Nodup) (hi : X.N[i]? = some x) (hx : Loc X.env.scope x) (hf : X.fn x = true ∨ X.env.scope.names.lookup x = some .local)
    (I : Iv X pins σ H s) (r : RelV v u) (S : Sim (gm X) e g1 (σ.set i (some v)) H env' st') (m : MonoG g H g1 H) (hq : ∀ s1, DoneS X pins e g H relU () ⟨env', st'⟩ () s1 → Q () s1) : wpAny (model X.prog X.w) X.A (storeName X.env x u) Q X.xe s :=
  tkn I.t (store_ok (Q := fun _ s' => Inv X pins (σ.set i (some v)) H s') I.i hN hi hx r (fun s' I' => I') hf) fun _ s' ht I' => hq s' ⟨_, g1, H, ⟨I', ht⟩, S, m, trivial⟩
theorem asg_wps {pins : List (Addr × Obj)} {s : Shared} {σ : L2.St} {H : Hp} {e : Ent} {g : Gh} {env : List Slot} {st : List SO} {N : Addr → Prop} {r : R} {u : Value} (hN : X.N.Nodup) (hi : X.N[i]? = some x) (hx : Loc X.env.scope x) (hf : X.fn x = true ∨ X.env.scope.names.lookup x = some .local)
    (I : Iv X pins σ H s) (S : Sim (gm X) e g σ H env st) (re : relV N e g σ H env (gm X) r u) : WPs X W pins e g H relU (asgM i r ⟨env, st⟩) (fun Q => wpAny (model X.prog X.w) X.A (storeName X.env x u) Q X.xe s) := by
  obtain ⟨v, rv, q⟩ := re
  cases r with
  | val d => exact store_any hN hi hx hf I rv (S.setV q) .refl fun _ h => h
  | tmp d => trivial
  | own d =>
    obtain ⟨a, rfl, h2, h3, h4, h5, h6, _⟩ := q
    exact store_any hN hi hx hf I rv (S.setO h2 h3 h4 h5 h6) .refl fun _ h => h
theorem asgRef_wps {pins : List (Addr × Obj)} {s : Shared} {σ : L2.St} {H : Hp} {e : Ent} {g : Gh} {env : List Slot} {st : List SO} {N : Addr → Prop} {r : R} {u : Value} (hN : X.N.Nodup) (hi : X.N[i]? = some x) (hx : Loc X.env.scope x) (hf : X.fn x = true ∨ X.env.scope.names.lookup x = some .local)
    (I : Iv X pins σ H s) (S : Sim (gm X) e g σ H env st) (re : relV N e g σ H env (gm X) r u) : WPs X W pins e g H relU (asgRef i r ⟨env, st⟩) (fun Q => wpAny (model X.prog X.w) X.A (storeName X.env x u) Q X.xe s) := by
  obtain ⟨v, rv, q⟩ := re
  cases r with
  | val d => exact store_any hN hi hx hf I rv (S.setV q) .refl fun _ h => h
  | tmp d => trivial
  | own d =>
    cases d with
    | lst l =>
      obtain ⟨a, rfl, h2, h3, h4, h5, h6, _⟩ := q
      refine store_any hN hi hx hf I rv ((S.reg (o := .lst l) h2 h3 h4 h5 h6).setV (d := .ref st.length) ⟨a, rfl, ?_⟩) .reg fun _ h => h
      show (g.ρ ++ [a])[st.length]? = some a
      rw [List.getElem?_append_right (by rw [← S.slen]; omega), ← S.slen]
      simp
    | _ => trivial
theorem dg_name (hN : X.N.Nodup) (hi : X.N[i]? = some x) (hx : Loc X.env.scope x) (hf : X.fn x = true ∨ X.env.scope.names.lookup x = some .local) : DG X W (.Name x pos) (asgM i) := fun pins s σ H e g env st N r u I S re =>
  (asg_wps hN hi hx hf I S re).imp fun Q q => wpAny_assign_Name q
theorem dg_ref (hN : X.N.Nodup) (hi : X.N[i]? = some x) (hx : Loc X.env.scope x) (hf : X.fn x = true ∨ X.env.scope.names.lookup x = some .local) : DG X W (.Name x pos) (asgRef i) := fun pins s σ H e g env st N r u I S re =>
  (asgRef_wps hN hi hx hf I S re).imp fun Q q => wpAny_assign_Name q
def gsNil : List D → M Unit
  | [] => retM ()
  | _ => stuckM
def gsCons (a : R → M Unit) (as : List D → M Unit) : List D → M Unit
  | d :: l => bindM (a (.val d)) fun _ => as l
  | [] => stuckM
theorem dgs_nil : DGs X W [] gsNil := by
  intro pins s σ H e g env st l us I S ⟨vs, rv, q⟩
  cases l with
  | nil =>
    cases (q : vs = [])
    cases rv
    exact assignInOrder_nil ⟨σ, g, H, I, S, .refl, trivial⟩
  | cons d l => trivial
theorem dgs_cons {t : Expr} {ts : List Expr} {a : R → M Unit} {as : List D → M Unit} (h1 : DG X W t a) (h2 : DGs X W ts as) (hs : (assignEach (t :: ts) X.env).map (·.2) = assign t X.env :: (assignEach ts X.env).map (·.2)) : DGs X W (t :: ts) (gsCons a as) := by
  intro pins s σ H e g env st l us I S ⟨vs, rv, q⟩
  cases l with
  | nil => trivial
  | cons d l =>
    obtain ⟨v, vr, rfl, q1, q2⟩ := q
    cases rv with
    | cons r rr =>
      rename_i u us'
      rw [hs]
      refine WPs.imp (tr := fun Q => wpAny (model X.prog X.w) X.A (assign t X.env u) (fun _ s1 => wpAny (model X.prog X.w) X.A (assignInOrder ((assignEach ts X.env).map (·.2)) us') Q X.xe s1) X.xe s) ?_ (fun Q q => assignInOrder_cons q)
      refine WPs.chain (h1 pins s σ H e g env st (fun _ => True) (.val d) u I S ⟨v, r, q1⟩) fun _ s' _ s1 σ1 g1 H1 _ I1 S1 m1 re => ?_
      exact h2 pins s1 σ1 H1 e g1 s'.env s'.st l us' I1 S1 ⟨vr, rr, q2.mono m1⟩
def asTup : D → Option (List D)
  | .tup l => some l
  | _ => none
theorem asTup_eq : ∀ {d : D} {b : List D}, asTup d = some b → d = .tup b
  | .tup _, _, h => by cases h; rfl
  | .non, _, h => by cases h
  | .bl _, _, h => by cases h
  | .int _, _, h => by cases h
  | .str _, _, h => by cases h
  | .lst _, _, h => by cases h
  | .dct _, _, h => by cases h
  | .ref _, _, h => by cases h
def gTupM (n : Nat) (as : List D → M Unit) (r : R) : M Unit := match asTup r.d with
  | some l => if l.length = n then as l else stuckM
  | none => stuckM
theorem dg_tup {es : List Expr} {k n : Nat} {as : List D → M Unit} (hc : X.calm = true) (h : DGs X W es as) (hn : (assignEach es X.env).length = n) (hst : (assignEach es X.env).findIdx? (·.1) = none) : DG X W (.Tuple es k pos) (gTupM n as) := by
  intro pins s σ H e g env st N r u I S ⟨v, rv, q⟩
  unfold gTupM
  cases hl : asTup r.d with
  | none => trivial
  | some l =>
    dsimp only
    split
    · rename_i hlen
      obtain ⟨a, xs, rfl, t1, r1, _⟩ := RRep.tup (asTup_eq hl) q
      cases rv
      obtain ⟨its, rv, ht, hz⟩ := I.i.tuple t1
      have hl2 := rv.length
      have hl3 := r1.length
      refine WPs.imp (tr := fun Q => ∀ h', Heap.ExtBut s.heap.objs.size s.heap h' → wpAny (model X.prog X.w) X.A (assignInOrder ((assignEach es X.env).map (·.2)) its) Q X.xe { s with heap := h' }) ?_
        (fun Q q => assign_Tuple_tuple (I.i.ok.hd hc) ht (by simp; omega) hst fun h' hx => by simpa using q h' hx)
      have go : ∀ h', Heap.ExtBut s.heap.objs.size s.heap h' → WPs X W pins e g H relU (as l ⟨env, st⟩) (fun Q => wpAny (model X.prog X.w) X.A (assignInOrder ((assignEach es X.env).map (·.2)) its) Q X.xe { s with heap := h' }) := fun h' hx =>
        h pins { s with heap := h' } σ H e g env st l its ⟨I.i.kept (t' := s.toks) fun b o e => hx b o (Nat.ne_of_lt (Heap.lt_size e)) e, I.t⟩ S ⟨xs, rv, r1⟩
      revert go
      cases as l ⟨env, st⟩ with
      | ok r s' => exact fun go h' hx => go h' hx
      | exc x s' => exact fun go w h' hx => go h' hx w
      | stuck => exact fun _ => trivial
    · trivial
/-- target = value -/
def sAsg (fe : M R) (a : R → M Unit) : M Fl := bindM fe fun r => bindM (a r) fun _ => retM .nx
theorem ds_asg {tg ex : Expr} {fe : M R} {a : R → M Unit} (he : DE X W ex fe) (hg : DG X W tg a) (hs : swapsWithSole [tg] ex pos.line X.env = pure false) (hw : swappedStores [tg] ex X.env = pure none) (h1 : (assignEach [tg] X.env).map (·.2) = [assign tg X.env]) :
    DS X W (.Assign [tg] ex pos) (sAsg fe a) := by
  intro pins s σ H e g env st I S
  refine WPs.imp (tr := fun Q => wpAny (model X.prog X.w) X.A (eval ex X.env) (fun v s1 => wpAny (model X.prog X.w) X.A (assign tg X.env v) (fun _ s2 => Q .next s2) X.xe s1) X.xe s) ?_ (fun Q q => wpAny_Assign_stores (thn q fun v s1 q1 => by rw [h1]; exact q1) hs hw)
  refine WPt.thenS (tr2 := fun v s1 Q => wpAny (model X.prog X.w) X.A (assign tg X.env v) (fun _ s2 => Q Flow.next s2) X.xe s1) (hm := fun v s => ⟨fun h x => thn x fun _ _ y => h _ _ y⟩) (he pins s σ H e g env st I S) fun r s' u s1 g1 H1 _ I1 S1 m1 re => ?_
  refine WPs.chain (tr2 := fun _ s2 Q => Q Flow.next s2) (hm := fun v s => ⟨fun h x => h _ _ x⟩) (hg pins s1 σ H1 e g1 s'.env s'.st _ r u I1 S1 re) fun _ s2' _ s2 σ2 g2 H2 _ I2 S2 m2 _ => ?_
  exact ⟨σ2, g2, H2, I2, S2, .refl, rfl⟩
end
end Dn


/-! Dn10 -/
set_option Elab.async false
set_option linter.all false
set_option maxRecDepth 100000
set_option maxHeartbeats 1000000
namespace Dn
open PySem PySem.Spec PyProof.Rows L2

/-! ### several names at once -/
section
variable {G : Gm} {e : Ent} {g : Gh} {σ : L2.St} {H : Hp} {env : List Slot} {st : List SO} {i : Nat} {N : Addr → Prop}
def isOwnS : Slot → Bool
  | .own _ => true
  | _ => false
theorem OwnedAt.put {v : V} {sl : Slot} {a : Addr} (hl : env.length = σ.length) (h : OwnedAt (env.set i sl) (σ.set i (some v)) a) : OwnedAt env σ a ∨ (isOwnS sl = true ∧ v = .ref a) := by
  obtain ⟨j, d, h1, h2⟩ := h
  rcases set_get' h1 with ⟨rfl, z, hi⟩ | ⟨ne, z⟩
  · rw [σset_eq (by rw [← hl]; exact hi)] at h2
    cases h2
    exact .inr ⟨by rw [← z]; rfl, rfl⟩
  · rw [σset_ne ne] at h2
    exact .inl ⟨j, d, z, h2⟩
theorem RRep.put {v v' : V} {sl : Slot} (hl : env.length = σ.length) : ∀ {r' : R}, (isOwn r' = true → isOwnS sl = true → v ≠ v') → RRep N e g σ H env G r' v' → RRep N e g (σ.set i (some v)) H (env.set i sl) G r' v'
  | .val d, _, q => q
  | .tmp d, _, q => q
  | .own d, hd, ⟨a, h1, h2, h3, h4, h5, h6, h7⟩ => ⟨a, h1, h2, h3, h4, fun z => by
      rcases z.put hl with z | ⟨z1, z2⟩
      · exact h5 z
      · exact hd rfl z1 (by rw [z2, h1]), h6, h7⟩
end
structure Pd where
  i : Nat
  x : Str
  r : R
  v : V
  u : Value
def parS : List (Nat × R) → M Unit
  | [] => retM ()
  | (i, r) :: l => bindM (asgM i r) fun _ => parS l
section
variable {X : Cx} {W : WX} {pos : Pos}
theorem par_store {pins : List (Addr × Obj)} {H : Hp} {e : Ent} {g : Gh} {st : List SO} {N : Addr → Prop} (hN : X.N.Nodup) : ∀ (l : List Pd) {σ : L2.St} {env : List Slot} {s : Shared}, Iv X pins σ H s → Sim (gm X) e g σ H env st →
    (∀ p ∈ l, X.N[p.i]? = some p.x ∧ X.env.scope.names.lookup p.x = some .local ∧ RelV p.v p.u ∧ RRep N e g σ H env (gm X) p.r p.v) → l.Pairwise (fun p q => isOwn p.r = true → isOwn q.r = true → p.v ≠ q.v) →
    WPs X W pins e g H relU (parS (l.map fun p => (p.i, p.r)) ⟨env, st⟩) (fun Q => wpAny (model X.prog X.w) X.A (assignInOrder (l.map fun p v => bindName X.env p.x v) (l.map (·.u))) Q X.xe s)
  | [], σ, env, s, I, S, _, _ => assignInOrder_nil ⟨σ, g, H, I, S, .refl, trivial⟩
  | p :: l, σ, env, s, I, S, hp, hw => by
    obtain ⟨h1, h2, h3, h4⟩ := hp p (by simp)
    have hw1 := (List.pairwise_cons.mp hw).1
    have hw2 := (List.pairwise_cons.mp hw).2
    have step : ∀ (sl : Slot) (env' : List Slot), (isOwnS sl = true → isOwn p.r = true) → env' = env.set p.i sl → ∀ s1, Iv X pins (σ.set p.i (some p.v)) H s1 → Sim (gm X) e g (σ.set p.i (some p.v)) H env' st →
        WPs X W pins e g H relU (parS (l.map fun p => (p.i, p.r)) ⟨env', st⟩) (fun Q => wpAny (model X.prog X.w) X.A (assignInOrder (l.map fun p v => bindName X.env p.x v) (l.map (·.u))) Q X.xe s1) := fun sl env' hso he s1 I1 S1 => by
      subst he
      refine par_store (N := N) hN l I1 S1 (fun q hq => ?_) hw2
      obtain ⟨k1, k2, k3, k4⟩ := hp q (by simp [hq])
      exact ⟨k1, k2, k3, k4.put S.len fun ho hs => hw1 q hq (hso hs) ho⟩
    have go : ∀ (sl : Slot), (isOwnS sl = true → isOwn p.r = true) → Sim (gm X) e g (σ.set p.i (some p.v)) H (env.set p.i sl) st → ∀ (res : Res Unit), res = parS (l.map fun p => (p.i, p.r)) ⟨env.set p.i sl, st⟩ →
        WPs X W pins e g H relU res (fun Q => wpAny (model X.prog X.w) X.A (assignInOrder ((p :: l).map fun p v => bindName X.env p.x v) ((p :: l).map (·.u))) Q X.xe s) := fun sl hso S1 res hres => by
      refine WPs.imp (tr := fun Q => wpAny (model X.prog X.w) X.A (storeName X.env p.x p.u) (fun _ s1 => wpAny (model X.prog X.w) X.A (assignInOrder (l.map fun p v => bindName X.env p.x v) (l.map (·.u))) Q X.xe s1) X.xe s) ?_ (fun Q q => assignInOrder_cons (wpAny_bindName q))
      have st1 := fun s1 I1 => step sl _ hso rfl s1 I1 S1
      rw [← hres] at st1
      have base : wpAny (model X.prog X.w) X.A (storeName X.env p.x p.u) (fun _ s1 => Iv X pins (σ.set p.i (some p.v)) H s1) X.xe s :=
        tkn I.t (store_ok (Q := fun _ s' => Inv X pins (σ.set p.i (some p.v)) H s') I.i hN h1 (.inl h2) h3 (fun s' I' => I') (.inr h2)) fun _ s' ht I' => ⟨I', ht⟩
      cases res with
      | ok r s' => exact thn base fun _ s1 I1 => st1 s1 I1
      | exc x s' => exact fun w => thn base fun _ s1 I1 => st1 s1 I1 w
      | stuck => trivial
    have h0 := h4
    show WPs X W pins e g H relU ((asgM p.i p.r ⟨env, st⟩).bind fun _ => parS (l.map fun p => (p.i, p.r))) _
    cases hr : p.r with
    | val d =>
      rw [hr] at h0
      exact go (.val d) (fun z => by cases z) (S.setV h0) _ rfl
    | tmp d => trivial
    | own d =>
      rw [hr] at h0
      obtain ⟨a, ea, k2, k3, k4, k5, k6, _⟩ := h0
      exact go (.own d) (fun z => by rw [hr]; rfl) (by rw [ea]; exact S.setO k2 k3 k4 k5 k6) _ rfl
def sPar (is : List Nat) (fs : M (List R)) : M Fl := bindM fs fun rs => if rs.length = is.length then bindM (parS (is.zip rs).reverse) fun _ => retM .nx else stuckM
theorem ds_par {i j : Nat} {x y : Str} {a b : Expr} {fs : M (List R)} {px py pt pt2 : Pos} {kt k2 : Nat} (hc : X.calm = true) (hN : X.N.Nodup) (hi : X.N[i]? = some x) (hj : X.N[j]? = some y)
    (hx : X.env.scope.names.lookup x = some .local) (hy : X.env.scope.names.lookup y = some .local) (ha : DAr X W [a, b] fs)
    (hw : swappedStores [.Tuple [.Name x px, .Name y py] kt pt] (.Tuple [a, b] k2 pt2) X.env = pure (some [x, y]))
    (hs : swapsWithSole [.Tuple [.Name x px, .Name y py] kt pt] (.Tuple [a, b] k2 pt2) pos.line X.env = pure false) :
    DS X W (.Assign [.Tuple [.Name x px, .Name y py] kt pt] (.Tuple [a, b] k2 pt2) pos) (sPar [i, j] fs) := by
  intro pins s σ H e g env st I S
  refine WPs.imp (tr := fun Q => wpAny (model X.prog X.w) X.A (spliced (backTo pt2 (starEach [a, b] X.env))) (fun us s1 => ∃ u1 u2, us = [u1, u2] ∧ ∀ h', Heap.ExtBut (s1.heap.push { cls := .type "tuple", data := .seq us.toArray }).objs.size (s1.heap.push { cls := .type "tuple", data := .seq us.toArray }) h' →
      wpAny (model X.prog X.w) X.A (assignInOrder [fun v => bindName X.env y v, fun v => bindName X.env x v] [u2, u1]) (fun _ s2 => Q .next s2) X.xe { s1 with heap := h' }) X.xe s) ?_ (fun Q q => ?_)
  · refine WPt.thenS (tr2 := fun us s1 Q => ∃ u1 u2, us = [u1, u2] ∧ ∀ h', Heap.ExtBut (s1.heap.push { cls := .type "tuple", data := .seq us.toArray }).objs.size (s1.heap.push { cls := .type "tuple", data := .seq us.toArray }) h' →
      wpAny (model X.prog X.w) X.A (assignInOrder [fun v => bindName X.env y v, fun v => bindName X.env x v] [u2, u1]) (fun _ s2 => Q Flow.next s2) X.xe { s1 with heap := h' })
      (hm := fun us s1 => ⟨fun h ⟨u1, u2, e, z⟩ => ⟨u1, u2, e, fun h' k => thn (z h' k) fun _ _ y => h _ _ y⟩⟩) (ha pt2 pins s σ H e g env st I S) fun rs s' us s1 g1 H1 _ I1 S1 m1 re => ?_
    split
    · rename_i hl
      obtain ⟨vs, rv, q⟩ := re
      match rs, hl, q with
      | [r1, r2], _, q =>
        obtain ⟨v1, vr, rfl, q1, ⟨v2, vr2, rfl, q2, q3, _⟩, dq⟩ := q
        cases (q3 : vr2 = [])
        obtain ⟨u1, u2, rfl, rv1, rv2⟩ := vals2 rv
        have go : ∀ h', Heap.ExtBut (s1.heap.push { cls := .type "tuple", data := .seq [u1, u2].toArray }).objs.size (s1.heap.push { cls := .type "tuple", data := .seq [u1, u2].toArray }) h' →
            WPs X W pins e g1 H1 relF (bindM (parS ([i, j].zip [r1, r2]).reverse) (fun _ => retM .nx) s') (fun Q => wpAny (model X.prog X.w) X.A (assignInOrder [fun v => bindName X.env y v, fun v => bindName X.env x v] [u2, u1]) (fun _ s2 => Q .next s2) X.xe { s1 with heap := h' }) := fun h' hx' => by
          have I2 : Inv X pins σ H1 { s1 with heap := s1.heap.push { cls := .type "tuple", data := .seq [u1, u2].toArray } } := I1.i.kept (t' := s1.toks) fun b o e => Heap.get?_push_of_some _ e
          have I3 : Iv X pins σ H1 { s1 with heap := h' } := ⟨I2.kept (h' := h') (t' := s1.toks) fun b o e => hx' b o (Nat.ne_of_lt (Heap.lt_size e)) e, I1.t⟩
          refine WPs.chain (tr2 := fun _ s2 Q => Q Flow.next s2) (hm := fun v s => ⟨fun h x => h _ _ x⟩) (par_store (N := New H env σ) hN [⟨j, y, r2, v2, u2⟩, ⟨i, x, r1, v1, u1⟩] I3 S1 ?_ ?_) fun _ s2' _ s2 σ2 g2 H2 _ I2 S2 m2 _ => ⟨σ2, g2, H2, I2, S2, .refl, rfl⟩
          · intro p hp
            simp only [List.mem_cons, List.mem_nil_iff, or_false] at hp
            rcases hp with rfl | rfl
            · exact ⟨hj, hy, rv2, q2⟩
            · exact ⟨hi, hx, rv1, q1⟩
          · refine .cons (fun q hq => ?_) (.cons (fun q hq => by cases hq) .nil)
            have : q = ⟨i, x, r1, v1, u1⟩ := by simpa using hq
            subst this
            exact fun h2 h1 z => dq h1 0 r2 rfl h2 (congrArg some z)
        revert go
        cases bindM (parS ([i, j].zip [r1, r2]).reverse) (fun _ => retM Fl.nx) s' with
        | ok r s' => exact fun go => ⟨u1, u2, rfl, fun h' k => go h' k⟩
        | exc x s' => exact fun go w => ⟨u1, u2, rfl, fun h' k => go h' k w⟩
        | stuck => exact fun _ => trivial
    · trivial
  · rw [exec_Assign_arm]
    refine wpAny_bind (wpAny_standAt ?_)
    rw [hs]
    refine wpAny_bind (wpAny_pure ?_)
    rw [if_neg (by decide)]
    refine wpAny_bind (Tuple_ (thn q fun us s1 ⟨u1, u2, e1, q1⟩ => ?_))
    subst e1
    refine wpAny_newObj_type ?_ (by show 2 ≤ sizeLine; decide)
    rw [hw]
    refine wpAny_bind (wpAny_pure ?_)
    show wpAny (model X.prog X.w) X.A (do rule "assign.swapped-stores"; let items ← unpackItems (.ref s1.heap.objs.size) 2 none; assignInOrder [fun v => bindName X.env y v, fun v => bindName X.env x v] items.reverse; pure Flow.next) _ _ _
    refine wpAny_bind (wpAny_rule (wpAny_bind (unpackItems_tuple (items := #[u1, u2]) (I.i.ok.hd hc) (IsTup.new s1.heap _) fun h' hx' => ?_)))
    exact wpAny_bind (thn (q1 h' hx') fun _ s2 q2 => wpAny_pure q2)
theorem ds_par3 {i j l : Nat} {x y z : Str} {a b c : Expr} {fs : M (List R)} {px py pz pt pt2 : Pos} {kt k2 : Nat} (hc : X.calm = true) (hN : X.N.Nodup) (hi : X.N[i]? = some x) (hj : X.N[j]? = some y) (hl : X.N[l]? = some z)
    (hx : X.env.scope.names.lookup x = some .local) (hy : X.env.scope.names.lookup y = some .local) (hz : X.env.scope.names.lookup z = some .local) (ha : DAr X W [a, b, c] fs)
    (hw : swappedStores [.Tuple [.Name x px, .Name y py, .Name z pz] kt pt] (.Tuple [a, b, c] k2 pt2) X.env = pure (some [x, y, z]))
    (hs : swapsWithSole [.Tuple [.Name x px, .Name y py, .Name z pz] kt pt] (.Tuple [a, b, c] k2 pt2) pos.line X.env = pure false) :
    DS X W (.Assign [.Tuple [.Name x px, .Name y py, .Name z pz] kt pt] (.Tuple [a, b, c] k2 pt2) pos) (sPar [i, j, l] fs) := by
  intro pins s σ H e g env st I S
  refine WPs.imp (tr := fun Q => wpAny (model X.prog X.w) X.A (spliced (backTo pt2 (starEach [a, b, c] X.env))) (fun us s1 => ∃ u1 u2 u3, us = [u1, u2, u3] ∧ ∀ h', Heap.ExtBut (s1.heap.push { cls := .type "tuple", data := .seq us.toArray }).objs.size (s1.heap.push { cls := .type "tuple", data := .seq us.toArray }) h' →
      wpAny (model X.prog X.w) X.A (assignInOrder [fun v => bindName X.env z v, fun v => bindName X.env y v, fun v => bindName X.env x v] [u3, u2, u1]) (fun _ s2 => Q .next s2) X.xe { s1 with heap := h' }) X.xe s) ?_ (fun Q q => ?_)
  · refine WPt.thenS (tr2 := fun us s1 Q => ∃ u1 u2 u3, us = [u1, u2, u3] ∧ ∀ h', Heap.ExtBut (s1.heap.push { cls := .type "tuple", data := .seq us.toArray }).objs.size (s1.heap.push { cls := .type "tuple", data := .seq us.toArray }) h' →
      wpAny (model X.prog X.w) X.A (assignInOrder [fun v => bindName X.env z v, fun v => bindName X.env y v, fun v => bindName X.env x v] [u3, u2, u1]) (fun _ s2 => Q Flow.next s2) X.xe { s1 with heap := h' })
      (hm := fun us s1 => ⟨fun h ⟨u1, u2, u3, e, z⟩ => ⟨u1, u2, u3, e, fun h' k => thn (z h' k) fun _ _ y => h _ _ y⟩⟩) (ha pt2 pins s σ H e g env st I S) fun rs s' us s1 g1 H1 _ I1 S1 m1 re => ?_
    split
    · rename_i hl'
      obtain ⟨vs, rv, q⟩ := re
      match rs, hl', q with
      | [r1, r2, r3], _, q =>
        obtain ⟨v1, vr, rfl, q1, ⟨v2, vr2, rfl, q2, ⟨v3, vr3, rfl, q3, q4, _⟩, dq2⟩, dq⟩ := q
        cases (q4 : vr3 = [])
        obtain ⟨u1, u2, u3, rfl, rv1, rv2, rv3⟩ : ∃ u1 u2 u3, us = [u1, u2, u3] ∧ RelV v1 u1 ∧ RelV v2 u2 ∧ RelV v3 u3 := by
          cases rv with
          | cons p q =>
            cases q with
            | cons p' q' =>
              cases q' with
              | cons p'' q'' =>
                cases q''
                exact ⟨_, _, _, rfl, p, p', p''⟩
        have go : ∀ h', Heap.ExtBut (s1.heap.push { cls := .type "tuple", data := .seq [u1, u2, u3].toArray }).objs.size (s1.heap.push { cls := .type "tuple", data := .seq [u1, u2, u3].toArray }) h' →
            WPs X W pins e g1 H1 relF (bindM (parS ([i, j, l].zip [r1, r2, r3]).reverse) (fun _ => retM .nx) s') (fun Q => wpAny (model X.prog X.w) X.A (assignInOrder [fun v => bindName X.env z v, fun v => bindName X.env y v, fun v => bindName X.env x v] [u3, u2, u1]) (fun _ s2 => Q .next s2) X.xe { s1 with heap := h' }) := fun h' hx' => by
          have I2 : Inv X pins σ H1 { s1 with heap := s1.heap.push { cls := .type "tuple", data := .seq [u1, u2, u3].toArray } } := I1.i.kept (t' := s1.toks) fun b o e => Heap.get?_push_of_some _ e
          have I3 : Iv X pins σ H1 { s1 with heap := h' } := ⟨I2.kept (h' := h') (t' := s1.toks) fun b o e => hx' b o (Nat.ne_of_lt (Heap.lt_size e)) e, I1.t⟩
          refine WPs.chain (tr2 := fun _ s2 Q => Q Flow.next s2) (hm := fun v s => ⟨fun h x => h _ _ x⟩) (par_store (N := New H env σ) hN [⟨l, z, r3, v3, u3⟩, ⟨j, y, r2, v2, u2⟩, ⟨i, x, r1, v1, u1⟩] I3 S1 ?_ ?_) fun _ s2' _ s2 σ2 g2 H2 _ I2 S2 m2 _ => ⟨σ2, g2, H2, I2, S2, .refl, rfl⟩
          · intro p hp
            simp only [List.mem_cons, List.mem_nil_iff, or_false] at hp
            rcases hp with rfl | rfl | rfl
            · exact ⟨hl, hz, rv3, q3⟩
            · exact ⟨hj, hy, rv2, q2⟩
            · exact ⟨hi, hx, rv1, q1⟩
          · refine .cons (fun q hq => ?_) (.cons (fun q hq => ?_) (.cons (fun q hq => by cases hq) .nil))
            · simp only [List.mem_cons, List.mem_nil_iff, or_false] at hq
              rcases hq with rfl | rfl
              · exact fun h2 h1 z => dq2 h1 0 r3 rfl h2 (congrArg some z)
              · exact fun h2 h1 z => dq h1 1 r3 rfl h2 (congrArg some z)
            · have : q = ⟨i, x, r1, v1, u1⟩ := by simpa using hq
              subst this
              exact fun h2 h1 z => dq h1 0 r2 rfl h2 (congrArg some z)
        revert go
        cases bindM (parS ([i, j, l].zip [r1, r2, r3]).reverse) (fun _ => retM Fl.nx) s' with
        | ok r s' => exact fun go => ⟨u1, u2, u3, rfl, fun h' k => go h' k⟩
        | exc x s' => exact fun go w => ⟨u1, u2, u3, rfl, fun h' k => go h' k w⟩
        | stuck => exact fun _ => trivial
    · trivial
  · rw [exec_Assign_arm]
    refine wpAny_bind (wpAny_standAt ?_)
    rw [hs]
    refine wpAny_bind (wpAny_pure ?_)
    rw [if_neg (by decide)]
    refine wpAny_bind (Tuple_ (thn q fun us s1 ⟨u1, u2, u3, e1, q1⟩ => ?_))
    subst e1
    refine wpAny_newObj_type ?_ (by show 3 ≤ sizeLine; decide)
    rw [hw]
    refine wpAny_bind (wpAny_pure ?_)
    show wpAny (model X.prog X.w) X.A (do rule "assign.swapped-stores"; let items ← unpackItems (.ref s1.heap.objs.size) 3 none; assignInOrder [fun v => bindName X.env z v, fun v => bindName X.env y v, fun v => bindName X.env x v] items.reverse; pure Flow.next) _ _ _
    refine wpAny_bind (wpAny_rule (wpAny_bind (unpackItems_tuple (items := #[u1, u2, u3]) (I.i.ok.hd hc) (IsTup.new s1.heap _) fun h' hx' => ?_)))
    exact wpAny_bind (thn (q1 h' hx') fun _ s2 q2 => wpAny_pure q2)
end
end Dn


/-! Dn11 -/
set_option Elab.async false
set_option linter.all false
set_option maxRecDepth 100000
set_option maxHeartbeats 1000000
namespace Dn
open PySem PySem.Spec PyProof.Rows L2

/-! ### an object of one's own, of the store, is rewritten -/
section
variable {G : Gm} {e : Ent} {g : Gh} {σ : L2.St} {H : Hp} {env : List Slot} {st : List SO} {i : Nat}
theorem MonoG.updN {a : Addr} {o : HO} (hF : ¬ g.F a) : MonoG g H g (upd H a o) := ⟨fun _ h => h, fun b u f h => by
  rw [upd_ne (fun z => hF (by rw [← z]; exact f))]; exact h, fun _ _ h => h⟩
theorem Sim.updO (S : Sim G e g σ H env st) {d d' : D} {a : Addr} {o : HO} (q : env[i]? = some (.own d)) (hs : σ[i]? = some (some (.ref a))) (ho : OwnAt G g (upd H a o) a d') : Sim G e g σ (upd H a o) (env.set i (.own d')) st := by
  obtain ⟨b, eb, h2, h3, h4, h5⟩ := S.own i d q
  rw [hs] at eb
  cases eb
  have m : MonoG g H g (upd H a o) := .updN h3
  have other : ∀ {b : Addr} {u : HO}, b ≠ a → H b = some u → upd H a o b = some u := fun {b u} hb h => by rw [upd_ne hb]; exact h
  have hi : i < env.length := (List.getElem?_eq_some_iff.mp q).1
  refine ⟨fun b u h z => ?_, S.fNew, S.fOld, S.ρx, S.ρnd, S.ρF, fun b f => ?_, by simp [S.len], fun j d1 h => ?_, fun j d1 h => ?_, fun j k d1 d2 b n h1 h2' h3' => ?_, S.slen, fun n so b h1 h2' => ?_⟩
  · exact other (fun z => by rw [z, h5] at h; cases h) (S.keep b u h z)
  · by_cases z : b = a
    · subst z; rw [upd_same]; simp
    · rw [upd_ne z]; exact S.fIn b f
  · rcases set_get' h with ⟨rfl, z, hl⟩ | ⟨ne, z⟩
    · cases z
    · obtain ⟨v, k1, k2⟩ := S.val j d1 z
      exact ⟨v, k1, k2.mono m⟩
  · rcases set_get' h with ⟨rfl, z, hl⟩ | ⟨ne, z⟩
    · cases z
      exact ⟨a, hs, ho, h3, h4, h5⟩
    · obtain ⟨b, k1, k2, k3⟩ := S.own j d1 z
      have hb : b ≠ a := by
        rintro rfl
        exact S.ownNe i j d d1 b (Ne.symm ne) q z hs k1
      exact ⟨b, k1, k2.mono m fun u hu => other hb hu, k3⟩
  · have old : ∀ {j : Nat} {d1 : D}, (env.set i (.own d'))[j]? = some (.own d1) → ∃ d0, env[j]? = some (.own d0) := fun {j d1} h => by
      rcases set_get' h with ⟨rfl, z, hl⟩ | ⟨ne, z⟩
      · exact ⟨d, q⟩
      · exact ⟨d1, z⟩
    obtain ⟨x1, y1⟩ := old h1
    obtain ⟨x2, y2⟩ := old h2'
    exact S.ownNe j k x1 x2 b n y1 y2 h3'
  · have hb : b ≠ a := by
      rintro rfl
      exact h4 (List.mem_of_getElem? h2')
    exact (S.sto n so b h1 h2').mono m fun u hu => other hb hu
theorem Sim.updR (S : Sim G e g σ H env st) {n : Nat} {a : Addr} {o : HO} {so so' : SO} (q : st[n]? = some so) (hs : g.ρ[n]? = some a) (ho : SOAt G g (upd H a o) a so') : Sim G e g σ (upd H a o) env (st.set n so') := by
  have ha : a ∈ g.ρ := List.mem_of_getElem? hs
  have h3 : ¬ g.F a := S.ρF a ha
  have m : MonoG g H g (upd H a o) := .updN h3
  have other : ∀ {b : Addr} {u : HO}, b ≠ a → H b = some u → upd H a o b = some u := fun {b u} hb h => by rw [upd_ne hb]; exact h
  refine ⟨fun b u h z => ?_, S.fNew, S.fOld, S.ρx, S.ρnd, S.ρF, fun b f => ?_, S.len, fun j d1 h => ?_, fun j d1 h => ?_, S.ownNe, by simp [S.slen], fun k so1 b h1 h2' => ?_⟩
  · refine other (fun y => ?_) (S.keep b u h z)
    obtain ⟨more, e1, e2⟩ := S.ρx
    rw [y] at h z
    rw [e1] at ha
    rcases List.mem_append.mp ha with ha | ha
    · exact z ha
    · rw [e2 a ha] at h; cases h
  · by_cases z : b = a
    · subst z; rw [upd_same]; simp
    · rw [upd_ne z]; exact S.fIn b f
  · obtain ⟨v, k1, k2⟩ := S.val j d1 h
    exact ⟨v, k1, k2.mono m⟩
  · obtain ⟨b, k1, k2, k3, k4, k5⟩ := S.own j d1 h
    have hb : b ≠ a := fun z => k4 (by rw [z]; exact ha)
    exact ⟨b, k1, k2.mono m fun u hu => other hb hu, k3, k4, k5⟩
  · by_cases hk : k = n
    · subst hk
      rw [hs] at h2'
      cases h2'
      have hl : k < st.length := (List.getElem?_eq_some_iff.mp q).1
      rw [List.getElem?_set_self hl] at h1
      cases h1
      exact ho
    · rw [List.getElem?_set_ne (Ne.symm hk)] at h1
      have hb : b ≠ a := by
        rintro rfl
        have i1 := List.getElem?_eq_some_iff.mp h2'
        have i2 := List.getElem?_eq_some_iff.mp hs
        exact hk ((List.getElem_inj S.ρnd (h₀ := i1.1) (h₁ := i2.1)).mp (i1.2.trans i2.2.symm))
      exact (S.sto k so1 b h1 h2').mono m fun u hu => other hb hu
end

/-! ### name[i] = value, name.append(value) -/
/-- what becomes of the list in a name -/
def modL (i : Nat) (f : List D → Option (List D)) : M Unit := fun s => match s.env[i]? with
  | some (.own (.lst l)) => match f l with
    | some l' => .ok () { s with env := s.env.set i (.own (.lst l')) }
    | none => .stuck
  | some (.val (.ref n)) => match s.st[n]? with
    | some (.lst l) => match f l with
      | some l' => .ok () { s with st := s.st.set n (.lst l') }
      | none => .stuck
    | _ => .stuck
  | _ => .stuck
section
variable {X : Cx} {W : WX} {pos : Pos} {x : Str} {i : Nat} {px : Pos}
/-- the list in a name, by its address: it is rewritten as f says -/
theorem modL_wps {pins : List (Addr × Obj)} {s : Shared} {σ : L2.St} {H : Hp} {e : Ent} {g : Gh} {env : List Slot} {st : List SO} {f : List D → Option (List D)} {v : V} {t : Tr Unit} (I : Iv X pins σ H s) (S : Sim (gm X) e g σ H env st) (hv : σ[i]? = some (some v))
    (ht : ∀ (a : Addr) (l l' : List D) (xs : List V) (Q : Unit → Shared → Prop), v = .ref a → H a = some (.lst xs) → Reps (gm X) g H l xs → f l = some l' → ¬ g.F a →
      (∀ xs' s1, Iv X pins σ (upd H a (.lst xs')) s1 → Reps (gm X) g H l' xs' → Q () s1) → t Q) : WPs X W pins e g H relU (modL i f ⟨env, st⟩) t := by
  unfold modL
  dsimp only
  cases q : env[i]? with
  | none => trivial
  | some sl =>
    cases sl with
    | un => trivial
    | own d =>
      cases d with
      | lst l =>
        dsimp only
        cases hf : f l with
        | none => trivial
        | some l' =>
          obtain ⟨a, h1, h2, h3, h4, h5⟩ := S.own i _ q
          obtain ⟨xs, hx, r⟩ := h2
          rw [hv] at h1
          cases h1
          refine ht a l l' xs _ rfl hx r hf h3 fun xs' s1 I1 r' => ?_
          exact ⟨σ, g, _, I1, S.updO q hv ⟨xs', upd_same, r'.mono (.updN h3)⟩, .updN h3, trivial⟩
      | _ => trivial
    | val d =>
      cases d with
      | ref n =>
        dsimp only
        cases hn : st[n]? with
        | none => trivial
        | some so =>
          cases so with
          | ins C fs => trivial
          | lst l =>
            dsimp only
            cases hf : f l with
            | none => trivial
            | some l' =>
              obtain ⟨w, h1, a, ea, ha⟩ := S.val i _ q
              rw [hv] at h1
              cases h1
              obtain ⟨xs, hx, r⟩ := S.sto n _ a hn ha
              have h3 := S.ρF a (List.mem_of_getElem? ha)
              refine ht a l l' xs _ ea hx r hf h3 fun xs' s1 I1 r' => ?_
              exact ⟨σ, g, _, I1, S.updR hn ha ⟨xs', upd_same, r'.mono (.updN h3)⟩, .updN h3, trivial⟩
      | _ => trivial
def putF (ix : R) (d : D) (l : List D) : Option (List D) := match asInt ix.d with
  | some k => match ixN l.length k with
    | some j => some (l.set j d)
    | none => none
  | none => none
def chkM (i : Nat) : M Unit := fun s => match s.env[i]? with
  | some (.own _) => .ok () s
  | some (.val _) => .ok () s
  | _ => .stuck
theorem name_wp (hN : X.N[i]? = some x) (hvis : Vis X.env.scope x) (hd : (x == ("__debug__" : Str)) = false) (hcd : (x == ("__classdict__" : Str)) = false) {pins : List (Addr × Obj)} {s : Shared} {σ : L2.St} {H : Hp} {v : V} {Q : Value → Shared → Prop} (I : Iv X pins σ H s) (hv : σ[i]? = some (some v))
    (hq : ∀ u s1, Iv X pins σ H s1 → RelV v u → Q u s1) : wpAny (model X.prog X.w) X.A (eval (.Name x px) X.env) Q X.xe s := by
  refine tkn I.t ((pe_var hN hvis hd hcd).run pins s σ H (fun z H' => z = v ∧ H' = H) I.i ⟨v, hv, rfl, rfl⟩) fun u s1 t1 ⟨z, H1, I1, r1, e1, e2⟩ => ?_
  subst e1 e2
  exact hq u s1 ⟨I1, t1⟩ r1
theorem chk_val {e : Ent} {g : Gh} {σ : L2.St} {H : Hp} {s s' : S} {G : Gm} (S : Sim G e g σ H s.env s.st) (h : chkM i s = .ok () s') : s' = s ∧ ∃ v, σ[i]? = some (some v) := by
  unfold chkM at h
  split at h
  · rename_i d q
    cases h
    obtain ⟨a, h1, _⟩ := S.own i d q
    exact ⟨rfl, _, h1⟩
  · rename_i d q
    cases h
    obtain ⟨v, h1, _⟩ := S.val i d q
    exact ⟨rfl, _, h1⟩
  · cases h
theorem chk_cases (s : S) : chkM i s = .ok () s ∨ chkM i s = .stuck := by
  unfold chkM
  split
  · exact .inl rfl
  · exact .inl rfl
  · exact .inr rfl
def sPut (i : Nat) (fe fi : M R) : M Fl := bindM (bindM fe escF) fun d => bindM (chkM i) fun _ => bindM fi fun ix => bindM (modL i (putF ix d)) fun _ => retM .nx
/-- the load of a name, then the rest -/
theorem chk_wps {α β : Type} {rel : RelS α β} {pins : List (Addr × Obj)} {s : Shared} {σ : L2.St} {H : Hp} {e : Ent} {g : Gh} {s' : S} {k : Unit → M α} {tr2 : Value → Shared → Tr β} (hN : X.N[i]? = some x) (hvis : Vis X.env.scope x) (hd : (x == ("__debug__" : Str)) = false) (hcd : (x == ("__classdict__" : Str)) = false)
    (I : Iv X pins σ H s) (S : Sim (gm X) e g σ H s'.env s'.st) (h : ∀ v u s1, σ[i]? = some (some v) → Iv X pins σ H s1 → RelV v u → WPs X W pins e g H rel (k () s') (tr2 u s1)) :
    WPs X W pins e g H rel (bindM (chkM i) k s') (fun Q => wpAny (model X.prog X.w) X.A (eval (.Name x px) X.env) (fun ov s2 => tr2 ov s2 Q) X.xe s) := by
  unfold bindM
  rcases chk_cases (i := i) s' with q | q
  · rw [q]
    obtain ⟨_, v, hv⟩ := chk_val S q
    show WPs X W pins e g H rel (k () s') _
    have h' := fun u s1 => h v u s1 hv
    revert h'
    cases k () s' with
    | ok r s2 => exact fun h' => name_wp hN hvis hd hcd I hv fun u s1 I1 r1 => h' u s1 I1 r1
    | exc x s2 => exact fun h' w => name_wp hN hvis hd hcd I hv fun u s1 I1 r1 => h' u s1 I1 r1 w
    | stuck => exact fun _ => trivial
  · rw [q]; trivial
theorem ds_put {ie ve : Expr} {fe fi : M R} {p' : Pos} (hN : X.N[i]? = some x) (hvis : Vis X.env.scope x) (hd : (x == ("__debug__" : Str)) = false) (hcd : (x == ("__classdict__" : Str)) = false)
    (he : DE X W ve fe) (hi : DE X W ie fi) (hs : swapsWithSole [.Subscript (.Name x px) ie p'] ve pos.line X.env = pure false) : DS X W (.Assign [.Subscript (.Name x px) ie p'] ve pos) (sPut i fe fi) := by
  intro pins s σ H e g env st I S
  refine WPs.imp (tr := fun Q => wpAny (model X.prog X.w) X.A (eval ve X.env) (fun u s1 => wpAny (model X.prog X.w) X.A (eval (.Name x px) X.env) (fun ov s2 => wpAny (model X.prog X.w) X.A (eval ie X.env) (fun iv s3 =>
    wpAny (model X.prog X.w) X.A (setItem ov iv u) (fun _ s4 => Q .next s4) X.xe s3) X.xe s2) X.xe s1) X.xe s) ?_ (fun Q q => wpAny_Assign_stores (thn q fun u s1 q1 => ?_) hs rfl)
  · refine WPt.thenS (tr2 := fun u s1 Q => wpAny (model X.prog X.w) X.A (eval (.Name x px) X.env) (fun ov s2 => wpAny (model X.prog X.w) X.A (eval ie X.env) (fun iv s3 => wpAny (model X.prog X.w) X.A (setItem ov iv u) (fun _ s4 => Q Flow.next s4) X.xe s3) X.xe s2) X.xe s1)
      (hm := fun u s1 => ⟨fun h x => thn x fun _ _ x => thn x fun _ _ x => thn x fun _ _ x => h _ _ x⟩) (he pins s σ H e g env st I S).esc fun d s' u s1 g1 H1 _ I1 S1 m1 re1 => ?_
    obtain ⟨w1, rw1, q1⟩ := re1
    refine chk_wps (tr2 := fun ov s2 Q => wpAny (model X.prog X.w) X.A (eval ie X.env) (fun iv s3 => wpAny (model X.prog X.w) X.A (setItem ov iv u) (fun _ s4 => Q Flow.next s4) X.xe s3) X.xe s2) hN hvis hd hcd I1 S1 fun v ov s2 hv I2 rv => ?_
    refine WPt.thenS (tr2 := fun iv s3 Q => wpAny (model X.prog X.w) X.A (setItem ov iv u) (fun _ s4 => Q Flow.next s4) X.xe s3) (hm := fun u s1 => ⟨fun h x => thn x fun _ _ x => h _ _ x⟩) (hi pins s2 σ H1 e g1 s'.env s'.st I2 S1) fun ix s3' iv s3 g3 H3 _ I3 S3 m3 re3 => ?_
    obtain ⟨w3, rw3, q3⟩ := re3
    have q1' := q1.mono m3
    refine WPs.chain (k := fun _ => retM Fl.nx) (rel := relU) (rel2 := relF) (tr1 := fun Q => wpAny (model X.prog X.w) X.A (setItem ov iv u) Q X.xe s3) (tr2 := fun _ s4 Q => Q Flow.next s4) (hm := fun u s1 => ⟨fun h x => h _ _ x⟩) (modL_wps I3 S3 hv fun a l l' xs Q ea hx r hf hF fin => ?_) fun _ s4' _ s4 σ4 g4 H4 _ I4 S4 m4 _ => ⟨σ4, g4, H4, I4, S4, .refl, rfl⟩
    unfold putF at hf
    split at hf
    · rename_i k hk
      split at hf
      · rename_i j hj
        cases hf
        subst ea
        cases RRep.int (asInt_eq hk) q3
        refine tkn I3.t (set_list pins s3 σ H3 (.ref a) (.int k) w1 ov iv u (fun H' => H' = upd H3 a (.lst (xs.set j w1))) I3.i rv rw3 rw1 ⟨a, xs, k, j, rfl, rfl, hx, by rw [r.length]; exact hj, rfl⟩) fun _ s4 t4 ⟨H4, I4, e4⟩ => ?_
        subst e4
        exact fin _ s4 ⟨I4, t4⟩ (r.set j q1')
      · cases hf
    · cases hf
  · show wpAny _ _ (assign (.Subscript (.Name x px) ie p') X.env u) _ _ _
    rw [PySem.arm_assign_Subscript]
    refine wpAny_bind (wpAny_holding (thn q1 fun ov s2 q2 => ?_))
    refine wpAny_bind (wpAny_holding (thn q2 fun iv s3 q3 => ?_))
    exact wpAny_bind (wpAny_standAt (wpAny_bind (wpAny_holding (thn q3 fun _ s4 q4 => wpAny_release q4))))
/-- a list is in the name -/
def chkL (i : Nat) : M Unit := fun s => match s.env[i]? with
  | some (.own (.lst _)) => .ok () s
  | some (.val (.ref n)) => match s.st[n]? with
    | some (.lst _) => .ok () s
    | _ => .stuck
  | _ => .stuck
theorem chkL_cases (s : S) : chkL i s = .ok () s ∨ chkL i s = .stuck := by
  unfold chkL
  split
  · exact .inl rfl
  · split
    · exact .inl rfl
    · exact .inr rfl
  · exact .inr rfl
theorem chkL_val {e : Ent} {g : Gh} {σ : L2.St} {H : Hp} {s s' : S} {G : Gm} (S : Sim G e g σ H s.env s.st) (h : chkL i s = .ok () s') : ∃ a xs, σ[i]? = some (some (.ref a)) ∧ H a = some (.lst xs) := by
  unfold chkL at h
  split at h
  · rename_i l q
    cases h
    obtain ⟨a, h1, ⟨xs, h2, _⟩, _⟩ := S.own i _ q
    exact ⟨a, xs, h1, h2⟩
  · rename_i n q
    split at h
    · rename_i l hn
      cases h
      obtain ⟨v, h1, a, ea, h2⟩ := S.val i _ q
      subst ea
      obtain ⟨xs, h3, _⟩ := S.sto n _ a hn h2
      exact ⟨a, xs, h1, h3⟩
    · cases h
  · cases h
instance instMU {β : Type} {M : Model} {A : Around} {t : Sem β} {E : Value → Shared → Prop} {s : Shared} : MonoT (fun Q : Unit → Shared → Prop => wpAny M A t (fun _ s3 => Q () s3) E s) := ⟨fun h x => thn x fun _ _ y => h _ _ y⟩
/-- name.append(value) -/
def sApp (i : Nat) (fe : M R) : M Fl := bindM (chkL i) fun _ => bindM (bindM fe escF) fun d => bindM (modL i fun l => if l.length < LIM then some (l ++ [d]) else none) fun _ => retM .nx
theorem ds_app {ve : Expr} {fe : M R} {apos cpos : Pos} (hN : X.N[i]? = some x) (hvis : Vis X.env.scope x) (hd : (x == ("__debug__" : Str)) = false) (hcd : (x == ("__classdict__" : Str)) = false) (he : DE X W ve fe)
    (hst : starEach [ve] X.env = [(false, eval ve X.env)]) (hline : (apos.endLine == cpos.line) = true) : DS X W (.Expr (.Call (.Attribute (.Name x px) "append" apos) [ve] [] cpos) pos) (sApp i fe) := by
  intro pins s σ H e g env st I S
  have hbase : attributeBase (.Name x px) "append" X.env (eval (.Name x px) X.env) = eval (.Name x px) X.env := rfl
  refine WPs.imp (tr := fun Q => wpAny (model X.prog X.w) X.A (eval (.Name x px) X.env) (fun ov s1 => ∃ a, ov = .ref a ∧ s1.TypeIs ov "list" ∧ (∀ b, ov = .ref b → ∃ ob, s1.heap.get? b = some ob ∧ ob.dict = none) ∧ wpAny (model X.prog X.w) X.A (eval ve X.env) (fun u s2 =>
    wpAny (model X.prog X.w) X.A (call (.builtin "list.append") [ov, u]) (fun _ s3 => Q .next s3) X.xe s2) X.xe s1) X.xe s) ?_ (fun Q q => wpAny_Expr_any (wpAny_Call_method1_late hbase hline (by rw [hst]; rfl) (thn q fun ov s1 q1 => ?_)) I.i.quiet rfl)
  · unfold sApp bindM
    rcases chkL_cases (i := i) ⟨env, st⟩ with q | q
    · rw [q]
      obtain ⟨a, xs, hv, hx⟩ := chkL_val S q
      have key : ∀ u s1, Iv X pins σ H s1 → RelV (.ref a) u → WPs X W pins e g H relF (bindM (bindM fe escF) (fun d => bindM (modL i fun l => if l.length < LIM then some (l ++ [d]) else none) fun _ => retM .nx) ⟨env, st⟩)
          (fun Q => ∃ a, u = .ref a ∧ s1.TypeIs u "list" ∧ (∀ b, u = .ref b → ∃ ob, s1.heap.get? b = some ob ∧ ob.dict = none) ∧ wpAny (model X.prog X.w) X.A (eval ve X.env) (fun u2 s2 => wpAny (model X.prog X.w) X.A (call (.builtin "list.append") [u, u2]) (fun _ s3 => Q .next s3) X.xe s2) X.xe s1) := fun u s1 I1 rv => by
        cases rv
        obtain ⟨z, its, n, r, eo⟩ := I1.i.hok a _ hx
        refine WPs.imp (tr := fun Q => wpAny (model X.prog X.w) X.A (eval ve X.env) (fun u2 s2 => wpAny (model X.prog X.w) X.A (call (.builtin "list.append") [.ref a, u2]) (fun _ s3 => Q .next s3) X.xe s2) X.xe s1) ?_
          (fun Q q => ⟨a, rfl, ⟨_, eo, rfl⟩, fun b eb => by cases eb; exact ⟨_, eo, rfl⟩, q⟩)
        refine WPt.thenS (tr2 := fun u2 s2 Q => wpAny (model X.prog X.w) X.A (call (.builtin "list.append") [.ref a, u2]) (fun _ s3 => Q Flow.next s3) X.xe s2) (hm := fun u s1 => ⟨fun h x => thn x fun _ _ x => h _ _ x⟩) (he pins s1 σ H e g env st I1 S).esc fun d s2' u2 s2 g2 H2 _ I2 S2 m2 re2 => ?_
        obtain ⟨w2, rw2, q2⟩ := re2
        refine WPs.chain (k := fun _ => retM Fl.nx) (rel := relU) (rel2 := relF) (tr1 := fun Q => wpAny (model X.prog X.w) X.A (call (.builtin "list.append") [.ref a, u2]) (fun _ s3 => Q () s3) X.xe s2) (tr2 := fun _ s4 Q => Q Flow.next s4) (hm := fun u s1 => ⟨fun h x => h _ _ x⟩) (modL_wps I2 S2 hv fun b l l' xs2 Q ea hx2 r2 hf hF fin => ?_) fun _ s4' _ s4 σ4 g4 H4 _ I4 S4 m4 _ => ⟨σ4, g4, H4, I4, S4, .refl, rfl⟩
        cases ea
        split at hf
        · rename_i hz
          cases hf
          have hl := r2.length
          refine tkn I2.t (mt_append pins s2 σ H2 (.ref a) [w2] (.ref a) [u2] (fun v H' => H' = upd H2 a (.lst (xs2 ++ [w2]))) I2.i rfl (.cons rw2 .nil) ⟨a, xs2, w2, rfl, rfl, hx2, by rw [hl, ← lim_eq]; exact hz, rfl⟩) fun _ s4 t4 ⟨_, H4, I4, _, e4⟩ => ?_
          subst e4
          exact fin _ s4 ⟨I4, t4⟩ (r2.append (Reps.one q2))
        · cases hf
      show WPs X W pins e g H relF (bindM (bindM fe escF) (fun d => bindM (modL i fun l => if l.length < LIM then some (l ++ [d]) else none) fun _ => retM .nx) ⟨env, st⟩) _
      revert key
      cases bindM (bindM fe escF) (fun d => bindM (modL i fun l => if l.length < LIM then some (l ++ [d]) else none) fun _ => retM Fl.nx) ⟨env, st⟩ with
      | ok r s2 => exact fun h' => name_wp hN hvis hd hcd I hv fun u s1 I1 r1 => h' u s1 I1 r1
      | exc x s2 => exact fun h' w => name_wp hN hvis hd hcd I hv fun u s1 I1 r1 => h' u s1 I1 r1 w
      | stuck => exact fun _ => trivial
    · rw [q]; trivial
  · obtain ⟨a, rfl, ty, dn, q1⟩ := q1
    exact ⟨"list", "list.append", PySem.F.plainAttrs_list, PySem.F.slot_list_append, PySem.F.type_list_append, ty, dn, Calls.callWith_builtin rfl (Calls.evalArgs_plain (Calls.spliced_cons (thn q1 fun u s2 q2 => Calls.spliced_nil q2)))⟩
end
end Dn


/-! Dn12 -/
set_option Elab.async false
set_option linter.all false
set_option maxRecDepth 100000
set_option maxHeartbeats 1000000
namespace Dn
open PySem PySem.Spec PyProof.Rows L2

/-! ### defs -/
inductive RF where
  | ok (r : R) (st : List SO) | exc (x : Exc) (st : List SO) | stuck
abbrev FT := List D → List SO → RF
/-- what a call leaves -/
structure Went (G : Gm) (g : Gh) (H : Hp) (g1 : Gh) (H1 : Hp) (st1 : List SO) : Prop where
  F : ∀ a, g.F a → g1.F a
  ρ : ∃ more, g1.ρ = g.ρ ++ more ∧ ∀ a ∈ more, H a = none
  keep : ∀ a o, H a = some o → a ∉ g.ρ → H1 a = some o
  fnew : ∀ a, g1.F a → g.F a ∨ H a = none
  nd : g1.ρ.Nodup
  ρF : ∀ a ∈ g1.ρ, ¬ g1.F a
  fIn : ∀ a, g1.F a → H1 a ≠ none
  slen : st1.length = g1.ρ.length
  sto : ∀ (n : Nat) o a, st1[n]? = some o → g1.ρ[n]? = some a → SOAt G g1 H1 a o
/-- what a call finds -/
structure StOk (G : Gm) (g : Gh) (H : Hp) (st : List SO) : Prop where
  nd : g.ρ.Nodup
  ρF : ∀ a ∈ g.ρ, ¬ g.F a
  fIn : ∀ a, g.F a → H a ≠ none
  slen : st.length = g.ρ.length
  sto : ∀ (n : Nat) o a, st[n]? = some o → g.ρ[n]? = some a → SOAt G g H a o
def RetAt (G : Gm) (H : Hp) (g1 : Gh) (H1 : Hp) : R → V → Prop
  | .val d, v => Rep G g1 H1 d v
  | .own d, v => ∃ a, v = .ref a ∧ OwnAt G g1 H1 a d ∧ a ∉ g1.ρ ∧ ¬ g1.F a ∧ H a = none
  | .tmp _, _ => False
def RetV (G : Gm) (g : Gh) (H : Hp) (r : R) (st1 : List SO) : VK := fun v H1 => ∃ g1, Went G g H g1 H1 st1 ∧ RetAt G H g1 H1 r v
def FnD (P : Program) (w : World) (K : PySem.W.Frag) (mg : Str → Option Value) (base : Heap) (k : Nat) (f : Addr) (fd : FuncData) (ps : List Str) (n0 : Nat) (F : FT) : Prop :=
  ∀ (A : Around) (outer : List Env) (s : Shared) (H : Hp) (args : Args) (us : List Value) (vs : List V) (g : Gh) (ds : List D) (st : List SO) (E : XK), Room k A → Env0 P w K mg base A outer s H → BindsTo s fd args (ps.zip us) → Vals vs us → 0 < s.toks + n0 →
    StOk ⟨K, w, mg⟩ g H st → Reps ⟨K, w, mg⟩ g H ds vs → ds.length = ps.length →
    match F ds st with
    | .ok r st1 => codeAny (model P w) A (.call (.ref f) args) (CR (L2.CX P w) outer P w H s (RetV ⟨K, w, mg⟩ g H r st1) E) s
    | .exc x st1 => (∀ cls d g1 H1, Went ⟨K, w, mg⟩ g H g1 H1 st1 → ExcRep ⟨K, w, mg⟩ g1 H1 x cls d → E cls d H1) → codeAny (model P w) A (.call (.ref f) args) (CR (L2.CX P w) outer P w H s (fun _ _ => False) E) s
    | .stuck => True
section
variable {G : Gm} {e : Ent} {g g1 : Gh} {σ : L2.St} {H H1 : Hp} {env : List Slot} {st st1 : List SO}
theorem Sim.stok (S : Sim G e g σ H env st) : StOk G g H st := ⟨S.ρnd, S.ρF, S.fIn, S.slen, S.sto⟩
theorem Went.mono (x : Went G g H g1 H1 st1) : MonoG g H g1 H1 := by
  obtain ⟨more, e1, _⟩ := x.ρ
  refine ⟨x.F, fun a o f h => x.keep a o h fun m => x.ρF a (by rw [e1]; exact List.mem_append_left _ m) (x.F a f), fun n a h => ?_⟩
  rw [e1, List.getElem?_append_left (List.getElem?_eq_some_iff.mp h).1]
  exact h
theorem Sim.went (S : Sim G e g σ H env st) (x : Went G g H g1 H1 st1) : Sim G e g1 σ H1 env st1 ∧ Step σ g H env g1 H1 env := by
  have m := x.mono
  obtain ⟨more, e1, hn⟩ := x.ρ
  obtain ⟨more0, e0, hn0⟩ := S.ρx
  have notρ : ∀ {a : Addr}, a ∉ g.ρ → H a ≠ none → a ∉ g1.ρ := fun {a} h h' z => by
    rw [e1] at z
    rcases List.mem_append.mp z with z | z
    · exact h z
    · exact h' (hn a z)
  have notF : ∀ {a : Addr}, ¬ g.F a → H a ≠ none → ¬ g1.F a := fun {a} h h' z => by
    rcases x.fnew a z with z | z
    · exact h z
    · exact h' z
  refine ⟨⟨fun a o h z => ?_, fun a f => ?_, fun a f => x.F a (S.fOld a f), ⟨more0 ++ more, by rw [e1, e0, List.append_assoc], fun a ha => ?_⟩, x.nd, x.ρF, x.fIn, S.len, fun i d h => ?_, fun i d h => ?_, S.ownNe, x.slen, x.sto⟩, ⟨x.F, x.ρ, x.keep, fun a f => ?_, fun _ h => h⟩⟩
  · refine x.keep a o (S.keep a o h z) fun m => ?_
    rw [e0] at m
    rcases List.mem_append.mp m with m | m
    · exact z m
    · rw [hn0 a m] at h; cases h
  · rcases x.fnew a f with f | f
    · exact S.fNew a f
    · exact .inr (S.eNew f)
  · rcases List.mem_append.mp ha with ha | ha
    · exact hn0 a ha
    · exact S.eNew (hn a ha)
  · obtain ⟨v, k1, k2⟩ := S.val i d h
    exact ⟨v, k1, k2.mono m⟩
  · obtain ⟨a, k1, k2, k3, k4, k5⟩ := S.own i d h
    exact ⟨a, k1, k2.mono m fun o ho => x.keep a o ho k4, notF k3 k2.some, notρ k4 k2.some, k5⟩
  · rcases x.fnew a f with f | f
    · exact .inl f
    · exact .inr (.inl f)
theorem RetAt.rrep (S : Sim G e g σ H env st) (x : Went G g H g1 H1 st1) : ∀ {r : R} {v : V}, RetAt G H g1 H1 r v → RRep (New H env σ) e g1 σ H1 env G r v
  | .val d, _, q => q
  | .tmp d, _, q => q.elim
  | .own d, _, ⟨a, h1, h2, h3, h4, h5⟩ => ⟨a, h1, h2, h3, h4, S.newO h5, S.eNew h5, .inl h5⟩
end

/-! ### a call of a def -/
def eFn (F : FT) (fs : M (List D)) : M R := bindM fs fun ds s => match F ds s.st with
  | .ok r st1 => .ok r { s with st := st1 }
  | .exc x st1 => .exc x { s with st := st1 }
  | .stuck => .stuck
section
variable {X : Cx} {W : WX} {k : Nat} {f : Addr} {fd : FuncData} {ps : List Str} {F : FT} {x : Str} {p pos : Pos} {es : List Expr} {fs : M (List D)}
/-- a def of the module that may be called -/
structure Cal (X : Cx) (k : Nat) (x : Str) (F : FT) : Prop where
  ok : ∃ (f : Addr) (fd : FuncData) (ps : List Str) (n0 : Nat), FnD X.prog X.w X.K X.mg X.base k f fd ps n0 F ∧ X.mg x = some (.ref f) ∧ PySem.W.keepIn X.K (.ref f) = true ∧ Binds X.K fd ps [] ∧ ∀ ds st, ds.length ≠ ps.length → F ds st = .stuck
theorem fn_call {n0 : Nat} (hf : FnD X.prog X.w X.K X.mg X.base k f fd ps n0 F) (hb : Binds X.K fd ps []) (hst : ∀ ds st, ds.length ≠ ps.length → F ds st = .stuck) (hr : Room k X.A) (tk : Takes X W)
    {pins : List (Addr × Obj)} {s : Shared} {σ : L2.St} {H : Hp} {e : Ent} {g : Gh} {env : List Slot} {st : List SO} {ds : List D} {us : List Value} {vs : List V} (I : Iv X pins σ H s) (S : Sim (gm X) e g σ H env st) (rv : Vals vs us) (q : Reps (gm X) g H ds vs) :
    WPt X W pins σ e g H env relV ((match F ds st with
      | .ok r st1 => .ok r ⟨env, st1⟩
      | .exc x st1 => .exc x ⟨env, st1⟩
      | .stuck => .stuck : Res R)) (fun Q => wpAny (model X.prog X.w) X.A (call (.ref f) us) Q X.xe s) := by
  by_cases hl : ds.length = ps.length
  · have hul : us.length = ps.length := by rw [← rv.length, q.length, hl]
    have b := hb s us I.i.kIn (by rw [List.append_nil]; exact hul)
    rw [List.append_nil] at b
    have z := hf X.A X.stack s H ⟨us, []⟩ us vs g ds st (WE W σ) hr I.i.env0 b rv (by have := I.t; omega) S.stok q hl
    revert z
    cases hres : F ds st with
    | stuck => exact fun _ => trivial
    | ok r st1 =>
      intro z
      show wpAny _ _ _ _ _ _
      refine tkn I.t (wpAny_call (Q := fun u s' => EP X pins σ (RetV (gm X) g H r st1) u s') (codeAny_mono z fun r' s' hq => ?_)) fun u s1 t1 hu => ?_
      · cases r' with
        | error e' => exact passAt tk σ pins H s e' s' I.i hq
        | ok fl =>
          cases fl with
          | ret u => exact I.i.after hq
          | next => exact False.elim hq
          | brk => exact False.elim hq
          | cont => exact False.elim hq
      · obtain ⟨v, H1, I1, r1, g1, w1, q1⟩ := hu
        obtain ⟨S1, x1⟩ := S.went w1
        exact ⟨g1, H1, ⟨I1, t1⟩, S1, x1, v, r1, q1.rrep S w1⟩
    | exc x st1 =>
      intro z w
      refine wpAny_call (codeAny_mono (z fun cls d g1 H1 w1 er => ?_) fun r' s' hq => ?_)
      · obtain ⟨S1, x1⟩ := S.went w1
        exact w cls d g1 H1 S1 er w1.mono
      · cases r' with
        | error e' => exact passAt tk σ pins H s e' s' I.i hq
        | ok fl =>
          cases fl with
          | ret u => obtain ⟨_, _, _, _, _, _, _, z⟩ := hq; exact z.elim
          | next => exact False.elim hq
          | brk => exact False.elim hq
          | cont => exact False.elim hq
  · rw [hst ds st hl]; trivial
theorem de_fn {e1 : Expr} (hc : Cal X k x F) (hr : Room k X.A) (tk : Takes X W) (hg : Gl X x) (ha : DAd X W (e1 :: es) fs) (hdb : (x == ("__debug__" : Str)) = false) (he : starEach (e1 :: es) X.env = (false, eval e1 X.env) :: starEach es X.env) (hpl : (backTo pos (starEach es X.env)).any (·.1) = false) :
    DE X W (.Call (.Name x p) (e1 :: es) [] pos) (eFn F fs) := by
  obtain ⟨f, fd, ps, n0, hf, hm, hk, hb, hst⟩ := hc.ok
  intro pins s σ H e g env st I S
  refine WPt.imp (tr := fun Q => wpAny (model X.prog X.w) X.A (spliced (backTo pos (starEach (e1 :: es) X.env))) (fun us s1 => X.K.In s1.heap ∧ wpAny (model X.prog X.w) X.A (call (.ref f) us) Q X.xe s1) X.xe s) ?_ (fun Q q => wpAny_Call_Name_kw (ld_glob I.i hg hm ?_ hdb))
  · refine WPt.chain (tr2 := fun us s1 Q => X.K.In s1.heap ∧ wpAny (model X.prog X.w) X.A (call (.ref f) us) Q X.xe s1) (hm := fun us s1 => ⟨fun h x => ⟨x.1, thn x.2 h⟩⟩) (ha pos pins s σ H e g env st I S) fun ds s' us s1 g1 H1 _ I1 S1 x1 re1 => ?_
    obtain ⟨vs, rv, q⟩ := re1
    exact (fn_call hf hb hst hr tk I1 S1 rv q).imp fun Q q => ⟨I1.i.kIn, q⟩
  · exact PySem.W.callWith_K (h₀ := X.base) I.i.ok.mod.kin hk q he hpl
theorem de_fn0 (hc : Cal X k x F) (hr : Room k X.A) (tk : Takes X W) (hg : Gl X x) (hdb : (x == ("__debug__" : Str)) = false) :
    DE X W (.Call (.Name x p) [] [] pos) (eFn F (retM [])) := by
  obtain ⟨f, fd, ps, n0, hf, hm, hk, hb, hst⟩ := hc.ok
  intro pins s σ H e g env st I S
  refine WPt.imp (tr := fun Q => wpAny (model X.prog X.w) X.A (call (.ref f) []) Q X.xe s) ?_ (fun Q q => wpAny_Call_Name_kw (ld_glob I.i hg hm ?_ hdb))
  · exact fn_call hf hb hst hr tk I S .nil rfl
  · exact PySem.W.callWith_K0 I.i.kIn hk q
end

/-! ### a def's body keeps its promise -/
def funF (n np : Nat) (f : M Fl) : FT := fun ds st => if ds.length = np then match f ⟨ds.map .val ++ List.replicate (n - np) .un, st⟩ with
    | .ok fl s' => match fl with
      | .ret (.val d) => .ok (.val d) s'.st
      | .ret (.own d) => .ok (.own d) s'.st
      | .nx => .ok (.val .non) s'.st
      | _ => .stuck
    | .exc x s' => .exc x s'.st
    | .stuck => .stuck
  else .stuck
theorem start_sim {G : Gm} {g : Gh} {H : Hp} {st : List SO} {ds : List D} {vs : List V} {N : List Str} {np : Nat} (k : StOk G g H st) (q : Reps G g H ds vs) (hl : ds.length = np) : Sim G ⟨g.F, g.ρ, H⟩ g (L2.start N vs) H (ds.map .val ++ List.replicate (N.length - np) .un) st := by
  have hv := q.length
  refine ⟨fun a o h _ => h, fun a h => .inl h, fun a h => h, ⟨[], by simp, by simp⟩, k.nd, k.ρF, k.fIn, ?_, fun i d h => ?_, fun i d h => ?_, fun i j d d' a _ h => ?_, k.slen, k.sto⟩
  · unfold L2.start
    simp [hv, hl]
  · by_cases hi : i < ds.length
    · rw [List.getElem?_append_left (by simpa using hi), List.getElem?_map] at h
      cases hd : ds[i]? with
      | none => rw [hd] at h; cases h
      | some d0 =>
        rw [hd] at h
        cases h
        obtain ⟨v, h1, h2⟩ := q.get hd
        refine ⟨v, ?_, h2⟩
        unfold L2.start
        rw [List.getElem?_append_left (by simp; omega), List.getElem?_map, h1]
        rfl
    · rw [List.getElem?_append_right (by simp; omega), List.getElem?_replicate] at h
      split at h <;> cases h
  · by_cases hi : i < ds.length
    · rw [List.getElem?_append_left (by simpa using hi), List.getElem?_map] at h
      cases hd : ds[i]? with
      | none => rw [hd] at h; cases h
      | some d0 => rw [hd] at h; cases h
    · rw [List.getElem?_append_right (by simp; omega), List.getElem?_replicate] at h
      split at h <;> cases h
  · by_cases hi : i < ds.length
    · rw [List.getElem?_append_left (by simpa using hi), List.getElem?_map] at h
      cases hd : ds[i]? with
      | none => rw [hd] at h; cases h
      | some d0 => rw [hd] at h; cases h
    · rw [List.getElem?_append_right (by simp; omega), List.getElem?_replicate] at h
      split at h <;> cases h
theorem Sim.wentOf {G : Gm} {g g1 : Gh} {σ1 : L2.St} {H H1 : Hp} {env1 : List Slot} {st1 : List SO} (S : Sim G ⟨g.F, g.ρ, H⟩ g1 σ1 H1 env1 st1) : Went G g H g1 H1 st1 :=
  ⟨S.fOld, S.ρx, S.keep, S.fNew, S.ρnd, S.ρF, S.fIn, S.slen, S.sto⟩
/-- how a def is entered: its frame is there, a token is out -/
def Enters (P : Program) (w : World) (K : PySem.W.Frag) (mg : Str → Option Value) (base : Heap) (k : Nat) (f : Addr) (fd : FuncData) (N ps : List Str) (n0 : Nat) (qual : Str) (scope : Scope) (cdv : Value) (body : List Stmt) : Prop :=
  ∀ (A : Around) (outer : List Env) (s : Shared) (H : Hp) (args : Args) (us : List Value) (vs : List V) (E : XK), Room (k + 1) A → Env0 P w K mg base A outer s H → BindsTo s fd args (ps.zip us) → Vals vs us → vs.length = ps.length → 0 < s.toks + n0 →
    ∀ {R : Result → Shared → Prop}, (∀ s1, 0 < s1.toks → Inv (cxOf (L2.CX P w) P w K mg base N qual scope f cdv A outer s H E) [] (L2.start N vs) H s1 →
      wpAny (model P w) (A.deeper (envOfC qual scope s.heap.objs.size f cdv)) (execs body (envOfC qual scope s.heap.objs.size f cdv)) (fun fl s' => match fl with | .ret u => R (.ok (.ret u)) s' | .next => R (.ok (.ret .none)) s' | _ => False)
        (fun e s' => wpAny (model P w) (A.deeper (envOfC qual scope s.heap.objs.size f cdv)) (leaving (envOfC qual scope s.heap.objs.size f cdv) e) (fun _ s'' => R (.error e) s'') (fun e' s'' => R (.error e') s'') s') s1) →
      codeAny (model P w) A (.call (.ref f) args) R s
section
variable {P : Program} {w : World} {K : PySem.W.Frag} {mg : Str → Option Value} {base : Heap} {k : Nat} {f : Addr} {name qual : Str} {params : Arguments} {body : List Stmt} {scope : Scope} {dV kV doc pm cdv ct oc : Value} {an od : Option Addr}
    {osl : Array (Option Value)} {N ps : List Str} {m : M Fl}
theorem enters_plain (lk : K.lookup f = some ⟨oc, od, .func (PySem.W.fnOf name qual params body scope dV kV doc pm an cdv ct), osl⟩) (hcd : PySem.W.codeIn K cdv qual = true) (S : FnScope N ps scope) (hnc : ∀ y ∈ scope.names, y.2 ≠ .cell) :
    Enters P w K mg base k f (PySem.W.fnOf name qual params body scope dV kV doc pm an cdv ct) N ps ps.length qual scope cdv body := by
  intro A outer s H args us vs E hr e0 hb r hvl ht0 R hgo
  have hul : us.length = ps.length := by rw [← r.length, hvl]
  have KX : K.In s.heap := e0.mod.kin.keeps fun b o e => (e0.bs b o e).1
  have lim : s.heap.NoLimit := e0.mod.nolimit.keeps fun b o e => (e0.bs b o e).1
  have hloc : ∀ y ∈ ps.zip us, scope.names.lookup y.1 = some .local := fun ⟨n, v⟩ hy => by
    rcases S.par n (List.of_mem_zip hy).1 with q | q
    · exact q
    · exact absurd rfl (hnc _ (PySem.mem_of_lookup q))
  refine codeAny_call_function hr.depth (KX _ _ lk) rfl S.co S.gen rfl (PySem.W.codeRec_of KX hcd) (hb _ _ _ _ ?_)
  refine wpAny_newFunctionEnv hnc hloc (fun h1 hns hsb => ?_) S.kind
  have hz : (ps.zip us).length = ps.length := by rw [List.length_zip, hul, Nat.min_self]
  have keep : ∀ b o, s.heap.get? b = some o → h1.get? b = some o := fun b o e => hsb.extBut b o (Nat.ne_of_lt (Heap.lt_size e)) (Heap.get?_push_of_some _ e)
  have hcl : cellsFrom (s.heap.objs.size + 1) scope.names [] = [] := cells_none _ _ _ hnc
  have hkl : ∀ y ∈ ps.zip us, (envOfC qual scope s.heap.objs.size f cdv).kindOf y.1 = some .local := fun y hy => by
    first
    | exact hloc y hy
    | (simp only [Env.kindOf]; exact hloc y hy)
    | (unfold Env.kindOf; rw [if_pos S.kind]; exact hloc y hy)
    | simpa [Env.kindOf, envOfC, newEnv, S.kind] using hloc y hy
  have hm : (bindL (envOfC qual scope s.heap.objs.size f cdv).kindOf (ps.zip us) fun _ => none) = fun x => (ps.zip us).reverse.lookup x := by
    funext y
    rw [bindL_loc _ _ hkl y]
    cases (ps.zip us).reverse.lookup y <;> rfl
  have x : InCallC s s.heap.objs.size (bindL (envOfC qual scope s.heap.objs.size f cdv).kindOf (ps.zip us) fun _ => none) (cellsFrom (s.heap.objs.size + 1) scope.names [])
      (bindC (envOfC qual scope s.heap.objs.size f cdv).kindOf (ps.zip us) fun _ => none) ({ s with heap := h1, toks := s.toks + (ps.zip us).length } : Shared) := by
    rw [hm, hcl]
    exact ⟨⟨⟨_, _, rfl⟩, hns, keep, Nat.le_refl _⟩, fun n c hc => absurd hc (by simp), .nil, fun n c hc => absurd hc (by simp)⟩
  have henv : newEnv scope s.heap.objs.size mainGlobals [] (qual ++ ".<locals>.") (some f) cdv none builtinsNs = envOfC qual scope s.heap.objs.size f cdv := by
    unfold envOfC
    rw [hcl] <;> rfl
  have hto : 0 < ({ s with heap := h1, toks := s.toks + (ps.zip us).length } : Shared).toks := by
    show 0 < s.toks + (ps.zip us).length
    omega
  show ({ s with heap := h1, toks := s.toks + (ps.zip us).length } : Shared).heap.NoLimit ∧ codeAny (model P w) A (.func body (newEnv scope s.heap.objs.size mainGlobals [] (qual ++ ".<locals>.") (some f) cdv none builtinsNs)) _ ({ s with heap := h1, toks := s.toks + (ps.zip us).length } : Shared)
  rw [henv]
  generalize ({ s with heap := h1, toks := s.toks + (ps.zip us).length } : Shared) = s1 at x hto ⊢
  refine ⟨lim.keeps x.toInCall.keep, codeAny_func ?_⟩
  have I : Inv (cxOf (L2.CX P w) P w K mg base N qual scope f cdv A outer s H E) [] (L2.start N vs) H s1 := inv_start S hr.hd e0 (by omega) r x
  exact wpAny_mono (hgo s1 hto I) (fun fl s' hs => by cases fl <;> first | exact hs | exact hs.elim) fun e s' hs => hs
theorem enters_cells (lk : K.lookup f = some ⟨oc, od, .func (PySem.W.fnOf name qual params body scope dV kV doc pm an cdv ct), osl⟩) (hcd : PySem.W.codeIn K cdv qual = true) (S : FnScope N ps scope) :
    Enters P w K mg base k f (PySem.W.fnOf name qual params body scope dV kV doc pm an cdv ct) N ps 0 qual scope cdv body := by
  intro A outer s H args us vs E hr e0 hb r hvl ht0 R hgo
  have KX : K.In s.heap := e0.mod.kin.keeps fun b o e => (e0.bs b o e).1
  have lim : s.heap.NoLimit := e0.mod.nolimit.keeps fun b o e => (e0.bs b o e).1
  have hkind : ∀ y ∈ ps.zip us, scope.names.lookup y.1 = some .local ∨ (scope.names.lookup y.1 = some .cell ∧ ((cellsFrom (s.heap.objs.size + 1) scope.names []).lookup y.1).isSome = true) := fun ⟨n, v⟩ hy => by
    rcases S.par n (List.of_mem_zip hy).1 with q | q
    · exact .inl q
    · exact .inr ⟨q, PySem.W.cellsFrom_some _ _ _ (.inl q)⟩
  refine codeAny_call_function hr.depth (KX _ _ lk) rfl S.co S.gen rfl (PySem.W.codeRec_of KX hcd) (hb _ _ _ _ ?_)
  refine PySem.wpAny_with_toks (n := 1) (by omega) (wpAny_newFunctionEnv_cells S.kind hkind fun env he s1 x ht1 => ?_)
  subst he
  refine ⟨lim.keeps x.toInCall.keep, codeAny_func ?_⟩
  have I : Inv (cxOf (L2.CX P w) P w K mg base N qual scope f cdv A outer s H E) [] (L2.start N vs) H s1 := inv_start S hr.hd e0 hvl r x
  exact wpAny_mono (hgo s1 ht1 I) (fun fl s' hs => by cases fl <;> first | exact hs | exact hs.elim) fun e s' hs => hs
theorem fnD_of {n0 : Nat} (hen : Enters P w K mg base k f (PySem.W.fnOf name qual params body scope dV kV doc pm an cdv ct) N ps n0 qual scope cdv body)
    (hbody : ∀ (A : Around) (outer : List Env) (s : Shared) (H : Hp) (E : XK), Room k (A.deeper (envOfC qual scope s.heap.objs.size f cdv)) →
      DSs (cxOf (L2.CX P w) P w K mg base N qual scope f cdv A outer s H E) (fun cls d _ H' => E cls d H') body m) :
    FnD P w K mg base (k + 1) f (PySem.W.fnOf name qual params body scope dV kV doc pm an cdv ct) ps n0 (funF N.length ps.length m) := by
  intro A outer s H args us vs g ds st E hr e0 hb r ht0 hst q hl
  have hvl := q.length
  have enter := @fun R => hen A outer s H args us vs E hr e0 hb r (by omega) ht0 (R := R)
  have fin : ∀ {s' : Shared} {σ' : L2.St} {H' : Hp} {v : V} {u : Value} {Q : VK}, Inv (cxOf (L2.CX P w) P w K mg base N qual scope f cdv A outer s H E) [] σ' H' s' → RelV v u → Q v H' → CE outer P w H s Q u s' :=
    fun {s' σ' H' v u Q} J rv q => ⟨v, H', J.os, J.bare, J.base, J.hok, rv, q⟩
  have S0 := start_sim (N := N) (np := ps.length) hst q hl
  have z := fun s1 h1 I1 => hbody A outer s H E (hr.deeper _) [] s1 (L2.start N vs) H ⟨g.F, g.ρ, H⟩ g (ds.map Slot.val ++ List.replicate (N.length - ps.length) Slot.un) st ⟨I1, h1⟩ S0
  unfold funF
  rw [if_pos hl]
  revert z
  cases m ⟨ds.map .val ++ List.replicate (N.length - ps.length) .un, st⟩ with
  | stuck => exact fun _ => trivial
  | exc x s' =>
    intro z hw
    refine enter _ fun s1 h1 I1 => ?_
    refine wpAny_mono (z s1 h1 I1 fun σ' cls d g' H' S' er _ => hw cls d g' H' S'.wentOf er) (fun _ _ z => z.elim) fun e s' he => ?_
    exact he
  | ok fl s' =>
    intro z
    have main : ∀ (r : R), (∀ (e1 : Ent) (g1 : Gh) (σ1 : L2.St) (H1 : Hp) (u : Flow), e1 = ⟨g.F, g.ρ, H⟩ → Sim ⟨K, w, mg⟩ e1 g1 σ1 H1 s'.env s'.st → relF e1 g1 σ1 H1 s'.env ⟨K, w, mg⟩ fl u → ∃ v w', (u = .ret w' ∨ (u = .next ∧ w' = .none)) ∧ RelV v w' ∧ RetAt ⟨K, w, mg⟩ H g1 H1 r v) →
        codeAny (model P w) A (.call (.ref f) args) (CR (L2.CX P w) outer P w H s (RetV ⟨K, w, mg⟩ g H r s'.st) E) s := fun r hr' => by
      refine enter _ fun s1 h1 I1 => ?_
      refine wpAny_mono (z s1 h1 I1) (fun u s2 hd => ?_) fun e s2 he => he
      obtain ⟨σ1, g1, H1, I2, S2, _, re⟩ := hd
      obtain ⟨v, w', hu, rv, ra⟩ := hr' _ g1 σ1 H1 u rfl S2 re
      have f1 : CE outer P w H s (RetV ⟨K, w, mg⟩ g H r s'.st) w' s2 := fin I2.i rv ⟨g1, S2.wentOf, ra⟩
      rcases hu with rfl | ⟨rfl, rfl⟩
      · exact f1
      · exact f1
    cases fl with
    | nx => exact main _ fun e1 g1 σ1 H1 u _ S1 re => ⟨.non, .none, .inr ⟨re, rfl⟩, rfl, rfl⟩
    | brk => trivial
    | cont => trivial
    | ret r =>
      cases r with
      | val d => exact main _ fun e1 g1 σ1 H1 u _ S1 ⟨v, w', e2, rv, q⟩ => ⟨v, w', .inl e2, rv, q⟩
      | tmp d => trivial
      | own d => exact main _ fun e1 g1 σ1 H1 u ee S1 ⟨v, w', e2, rv, a, h1, h2, h3, h4, h5, h6, _⟩ => ⟨v, w', .inl e2, rv, a, h1, h2, h3, h4, by rw [ee] at h6; exact h6⟩
end
theorem FnD.mono {P : Program} {w : World} {K : PySem.W.Frag} {mg : Str → Option Value} {base : Heap} {j k : Nat} {f : Addr} {fd : FuncData} {ps : List Str} {n0 : Nat} {F : FT} (h : FnD P w K mg base j f fd ps n0 F) (hjk : j ≤ k) : FnD P w K mg base k f fd ps n0 F :=
  fun A outer s H args us vs g ds st E hr => h A outer s H args us vs g ds st E (hr.mono hjk)
end Dn


/-! Dn13 -/
set_option Elab.async false
set_option linter.all false
set_option maxRecDepth 100000
set_option maxHeartbeats 1000000
namespace Dn
open PySem PySem.Spec PyProof.Rows L2

/-! ### raise -/
def sRaise (x : Str) : M Fl := fun s => .exc ⟨x, none⟩ s
/-- an own class of exceptions without own __init__ -/
def ExcD (X : Cx) (x : Str) : Prop := ∃ (C : Addr) (bmB : List Value) (B newId initId : String), ExcBaseFacts B newId initId bmB ∧ PySem.W.excIn X.K C bmB newId = true ∧ X.mg x = some (.ref C) ∧ PySem.W.keepIn X.K (.ref C) = true ∧ Raises X (.ref C)
section
variable {X : Cx} {W : WX} {pos : Pos}
theorem ds_raise {x m : Str} {j : Nat} {p p2 cpos : Pos} (hc : X.calm = true) (tk : Takes X W) (hx : ExcD X x) (hg : Gl X x) (hdb : (x == ("__debug__" : Str)) = false) :
    DS X W (.Raise (some (.Call (.Name x p) [.Constant (.str m) j p2] [] cpos)) none pos) (sRaise x) := by
  obtain ⟨C, bmB, B, newId, initId, F, q, gC, kC, r⟩ := hx
  intro pins s σ H e g env st I S w
  have h := (ps_raise (pos := pos) hc tk (pmk_own (m := m) (j := j) (p := p) (p2 := p2) (pos := cpos) F q gC kC r hg hdb)).run pins s σ H { nx := fun _ _ => False, rt := fun _ _ => False, bk := fun _ _ => False, ct := fun _ _ => False } I.i
    (w σ (.ref C) none g H S ⟨⟨C, gC, rfl⟩, rfl⟩ .refl)
  refine thn h fun fl s1 hs => ?_
  cases fl with
  | next => obtain ⟨_, _, _, z⟩ := hs; exact z.elim
  | brk => obtain ⟨_, _, _, z⟩ := hs; exact z.elim
  | cont => obtain ⟨_, _, _, z⟩ := hs; exact z.elim
  | ret u => obtain ⟨_, _, _, _, _, z⟩ := hs; exact z.elim

/-! ### try -/
def findH (sub : Str → Str → Option Bool) (x : Exc) (s' : S) : List (Str × M Fl) → Res Fl
  | [] => .exc x s'
  | (c, h) :: r => match sub x.cls c with
    | some true => match h s' with
      | .ok fl s2 => .ok fl s2
      | _ => .stuck
    | some false => findH sub x s' r
    | none => .stuck
def sTry (sub : Str → Str → Option Bool) (f : M Fl) (hs : List (Str × M Fl)) : M Fl := fun s => match f s with
  | .exc x s' => findH sub x s' hs
  | r => r
abbrev WNo : WX := fun _ _ _ _ => False
/-- what is known of the classes of the module: subclass of -/
def SubOk (X : Cx) (sub : Str → Str → Option Bool) (c : Str) (cv : Value) : Prop := ∀ (x : Str) (b : Bool) (A : Addr), sub x c = some b → X.mg x = some (.ref A) → PySem.W.exmOne X.K (.ref A) cv = some b
inductive HdD (X : Cx) (sub : Str → Str → Option Bool) : List ExceptHandler → List (Str × M Fl) → Prop
  | nil : HdD X sub [] []
  | cons {c : Str} {cv : Value} {h : M Fl} {b₀ : Stmt} {suite : List Stmt} {np pos' : Pos} {hds : List ExceptHandler} {l : List (Str × M Fl)} (hc : Names X c cv) (hsub : SubOk X sub c cv)
      (hsu : ∀ (a : Addr) (oe : Obj) (pn : List (Addr × Obj)), DSs (X.suite a ((a, oe) :: pn)) WNo (b₀ :: suite) h) (r : HdD X sub hds l) :
      HdD X sub (.ExceptHandler (some (.Name c np)) none (b₀ :: suite) pos' :: hds) ((c, h) :: l)
theorem DoneS.ofTry {xe : Value → Shared → Prop} {pins : List (Addr × Obj)} {e : Ent} {g : Gh} {H : Hp} {fl : Fl} {s' : Dn.S} {u : Flow} {s1 : Shared} (ok : X.Ok) (h : DoneS (X.tr (X.pn ++ pins) xe) [] e g H relF fl s' u s1) : DoneS X pins e g H relF fl s' u s1 := by
  obtain ⟨σ1, g1, H1, I1, S1, m1, re⟩ := h
  exact ⟨σ1, g1, H1, ⟨I1.i.ofTry ok, I1.t⟩, S1, m1, re⟩
theorem ds_try {sub : Str → Str → Option Bool} {body : List Stmt} {h₀ : ExceptHandler} {hds : List ExceptHandler} {l : List (Str × M Fl)} {f : M Fl} (hs : X.stack = X.env :: X.outer) (hf : X.env.frame = some X.env.locals) (tk : Takes X W)
    (hb : ∀ (W' : WX) (pn : List (Addr × Obj)) (xe : Value → Shared → Prop), Takes (X.tr pn xe) W' → PassesOwn (model X.prog X.w) X.A X.env xe → DSs (X.tr pn xe) W' body f)
    (hh : HdD X sub (h₀ :: hds) l) : DS X W (.Try body (h₀ :: hds) [] [] pos) (sTry sub f l) := by
  intro pins s σ H e g env st I S
  have ok := I.i.ok
  have hfr : X.A.frames = some (X.env :: X.outer) := by rw [ok.frames, hs]
  -- the body's end without an exception
  have good : ∀ {Q : Flow → Shared → Prop} {fl : Fl} {s' : Dn.S}, (∀ u s1, DoneS X pins e g H relF fl s' u s1 → Q u s1) → ∀ {xe : Value → Shared → Prop} {fl' : Flow} {s1 : Shared}, DoneS (X.tr (X.pn ++ pins) xe) [] e g H relF fl s' fl' s1 →
      (match fl' with | .next => wpAny (model X.prog X.w) X.A (execs [] X.env) Q X.xe s1 | f => Q f s1) := fun {Q fl s'} hq {xe fl' s1} hd => by
    have hd' := hq _ _ (hd.ofTry ok)
    cases fl' with
    | next => exact wpAny_execs_nil hd'
    | brk => exact hd'
    | cont => exact hd'
    | ret u => exact hd'
  -- an exception: where it lands
  have catching : ∀ {Q : Flow → Shared → Prop} {x : Exc} {s' : Dn.S} {W' : WX}, (∀ cls d σ' H', W' cls d σ' H' → ∃ g', Sim (gm X) e g' σ' H' s'.env s'.st ∧ ExcRep (gm X) g' H' x cls d ∧ MonoG g H g' H') →
      (∀ (pn : List (Addr × Obj)) (xe : Value → Shared → Prop), Takes (X.tr pn xe) W' → PassesOwn (model X.prog X.w) X.A X.env xe → ∀ (s1 : Shared), Iv (X.tr pn xe) [] σ H s1 → wpAny (model X.prog X.w) X.A (execs body X.env) (fun _ _ => False) xe s1) →
      (∀ (a : Addr) (cls : Value) (d : Option Addr) (σ' : L2.St) (H' : Hp) (g' : Gh) (hds' : List ExceptHandler) (l' : List (Str × M Fl)), Sim (gm X) e g' σ' H' s'.env s'.st → ExcRep (gm X) g' H' x cls d → MonoG g H g' H' → findH sub x s' l' = findH sub x s' l →
        match findH sub x s' l' with
        | .ok fl s2 => ∀ u s3, DoneS X pins e g H relF fl s2 u s3 → Q u s3
        | .exc _ s2 => s2 = s' ∧ W cls d σ' H'
        | .stuck => False) →
      wpAny (model X.prog X.w) X.A (exec (.Try body (h₀ :: hds) [] [] pos) X.env) Q X.xe s := fun {Q x s' W'} hW hbody hend => by
    refine wpAny_Try_except ?_
    refine wpAny_mono (wpAny_toks_of I.t (hbody (X.pn ++ pins) (fun e s₁ => wpAny (model X.prog X.w) X.A (noteFrame e X.env) (fun _ s₂ => wpAny (model X.prog X.w) X.A (setFlight e none) (fun _ s₃ => 0 < s₃.toks →
      wpAny (model X.prog X.w) X.A (handleBy e X.env (h₀ :: hds)) Q X.xe s₃) X.xe s₂) X.xe s₁) (fun u s'' xx => ?_) PassesOwn.looking s ⟨I.i.toTry _, I.t⟩)) (fun _ _ z => z.2.elim) (fun e1 s1 he => ?_)
    · obtain ⟨a, B, sI, pins', σ', H', cls, d, rfl, J', nb, up, sky, na, os, ag, w⟩ := xx
      obtain ⟨g', S', er, m'⟩ := hW _ _ _ _ w
      have J : Inv X pins σ' H' sI := J'.ofTry ok
      have sky' : Sky B (X.env :: X.outer) a (Zc cls d) X.env.locals s''.heap := by rw [← hs]; exact sky
      show wpAny (model X.prog X.w) X.A (noteFrame (.ref a) X.env) _ _ _
      refine Sky.land Zc.steady hfr hf sky' fun h3 fl3 up3 ht3 => ?_
      have J3 : Inv X pins σ' H' { s'' with heap := h3 } := J.landed nb fl3.1 (up.trans up3) os ag
      obtain ⟨oe3, vs3, he3, hz3, hd3⟩ := fl3.there
      have notFr : ∀ {h : Heap} {o : Obj} {vs : Array Value}, h.FunFrames B (X.env :: X.outer) → h.get? a = some o → o.data = .fields vs → a ∉ frs (X.env :: X.outer) := fun {h o vs} ff e dd hm => by
        obtain ⟨_, o', e', hnf⟩ := ff.mem hm
        rw [e] at e'; cases e'
        exact hnf _ dd
      have nfr := notFr fl3.2.2.1 he3 hd3
      have nL : a ≠ X.env.locals := fun z => nfr (List.mem_filterMap.mpr ⟨X.env, List.mem_cons_self, by rw [hf, z]⟩)
      have nF : a ∉ X.fs := fun hm => by
        obtain ⟨e, he, q⟩ := List.mem_filterMap.mp hm
        exact nfr (List.mem_filterMap.mpr ⟨e, List.mem_cons_of_mem _ he, q⟩)
      have S3 := J3.suite he3 hd3 na nL nF
      have go : ∀ {hds' : List ExceptHandler} {l' : List (Str × M Fl)}, HdD X sub hds' l' → findH sub x s' l' = findH sub x s' l →
          wpAny (model X.prog X.w) X.A (handleBy (.ref a) X.env hds') Q X.xe { s'' with heap := h3 } := by
        intro hds' l' hk
        induction hk with
        | nil =>
          intro hl
          have w2 := hend a cls d σ' H' g' [] [] S' er m' hl
          have w3 : W cls d σ' H' := w2.2
          refine wpAny_handleBy_nil ?_
          obtain ⟨k1, k2, k3, oe, vs, T, oT, ts', he, hz, hd, h1, hr⟩ := id fl3
          unfold PySem.passOn
          refine wpAny_bind (wpAny_field he hd h1 ?_)
          rw [if_neg (show ¬ ((Value.ref T == Value.none) = true) from by simp)]
          have fin : wpAny (model X.prog X.w) X.A (setFlight (.ref a) X.env.frame) (fun _ s4 => wpAny (model X.prog X.w) X.A (throw (.ref a) : Sem Flow) Q X.xe s4) X.xe { s'' with heap := h3 } := by
            rw [hf]
            refine HandSPX.setFlight_upZ fl3 fun h4 hh4 up4 => wpAny_throw (tk _ _ ?_)
            exact ⟨a, B, sI, pins, σ', H', cls, d, rfl, J, nb, (up.trans up3).trans up4, .inr (.inr (by rw [hs]; exact hh4)), na, os, ag, w3⟩
          first
            | exact wpAny_bind (wpAny_pure (wpAny_bind fin))
            | exact wpAny_bind fin
        | @cons c cv hm b₀ suite np pos' hds2 l2 hc hsub hsu r ih =>
          intro hl
          have LT : PySem.W.Looks (model X.prog X.w) h3 (typeOf (.ref a)) cls := fun A Q E s k q => wpAny_typeOf_ref (k _ _ he3) (by rw [hz3.1]; exact q)
          have w2 := hend a cls d σ' H' g' hds2 ((c, hm) :: l2) S' er m' hl
          obtain ⟨⟨A, hA, hcls⟩, _⟩ := er
          cases hb1 : sub x.cls c with
          | none =>
            exfalso
            unfold findH at w2
            rw [hb1] at w2
            exact w2
          | some b =>
            have hb2 : PySem.W.exmOne X.K cls cv = some b := by rw [hcls]; exact hsub _ _ _ hb1 hA
            have LM := PySem.W.exm_one (M := model X.prog X.w) (J3.kIn) LT hb2
            refine wpAny_handleBy_cons (codeAny_handlers_test ?_) (by intro q; cases q)
            have test : ∀ {Q : Value → Shared → Prop} {E : Value → Shared → Prop}, Q cv { s'' with heap := h3 } → wpAny (model X.prog X.w) (X.A.mark (some (.ref a))) (eval (.Name c np) X.env) Q E { s'' with heap := h3 } := fun {Q E} q => by
              obtain ⟨hg, hdbg, hm | ⟨hm, hv, hnn⟩⟩ := hc
              · exact ld_glob (X := X.suite a ((a, oe3) :: (X.pn ++ pins))) S3 hg hm q hdbg
              · exact ld_blt (X := X.suite a ((a, oe3) :: (X.pn ++ pins))) S3 hg hm hv q hnn hdbg
            refine test (LM.here ?_)
            cases b with
            | true =>
              refine codeAny_handlers_suite ?_
              refine HandSPX.lands_againZ fl3 fun h4 fl4 up4 => ?_
              have J4 : Inv X pins σ' H' { s'' with heap := h4 } := J.landed nb fl4.1 ((up.trans up3).trans up4) os ag
              obtain ⟨oe4, vs4, he4, hz4, hd4⟩ := fl4.there
              have S4 := J4.suite he4 hd4 na nL nF
              unfold findH at w2
              rw [hb1] at w2
              dsimp only at w2
              have z := hsu a oe4 (X.pn ++ pins) [] { s'' with heap := h4 } σ' H' e g' s'.env s'.st ⟨S4, ht3⟩ S'
              have z2 : WPs (X.suite a ((a, oe4) :: (X.pn ++ pins))) WNo [] e g' H' relF (hm s') _ := z
              revert z2 w2
              cases hm s' with
              | stuck => exact fun w2 => w2.elim
              | exc y s2 => exact fun w2 => w2.elim
              | ok fl2 s2 =>
                intro w2 z2
                refine wpAny_mono z2 (fun f s6 hsp => ?_) (fun _ _ z => False.elim z)
                obtain ⟨σ6, g6, H6, I6, S6, m6, re6⟩ := hsp
                have hq := w2 f s6 ⟨σ6, g6, H6, ⟨I6.i.unsuite ok, I6.t⟩, S6, m'.trans m6, re6⟩
                cases f with
                | next => exact hq
                | brk => exact hq
                | cont => exact hq
                | ret u => exact hq
            | false =>
              show wpAny _ X.A (handleBy (.ref a) X.env hds2) _ _ _
              refine ih ?_
              rw [← hl]
              show _ = findH sub x s' ((c, hm) :: l2)
              conv => rhs; unfold findH
              rw [hb1]
      exact go hh rfl
    · obtain ⟨ht, he⟩ := he
      refine wpAny_mono (wpAny_toks_of ht he) (fun _ s2 h2 => ?_) fun _ _ z => z.2
      obtain ⟨ht2, h2⟩ := h2
      exact wpAny_mono (wpAny_toks_of ht2 h2) (fun _ s3 h3 => h3.2 h3.1) fun _ _ z => z.2
  have takeNo : ∀ {Y : Cx}, Takes Y WNo := fun {Y} => takes_none5
  unfold sTry
  have hb0 := fun (W' : WX) pn xe t p s1 (I1 : Iv (X.tr pn xe) [] σ H s1) => hb W' pn xe t p [] s1 σ H e g env st I1 S
  revert hb0
  cases f ⟨env, st⟩ with
  | stuck => exact fun _ => trivial
  | ok fl s' =>
    intro hb0
    show wpAny _ _ _ _ _ _
    refine wpAny_Try_except ?_
    exact wpAny_mono (hb0 WNo (X.pn ++ pins) _ takeNo PassesOwn.looking s ⟨I.i.toTry _, I.t⟩) (fun fl' s1 hd => good (fun _ _ h => h) hd) fun _ _ z => z
  | exc x s' =>
    intro hb0
    show WPs X W pins e g H relF (findH sub x s' l) _
    have hb1 : ∀ (pn : List (Addr × Obj)) (xe : Value → Shared → Prop), Takes (X.tr pn xe) (fun cls d σ' H' => ∃ g', Sim (gm X) e g' σ' H' s'.env s'.st ∧ ExcRep (gm X) g' H' x cls d ∧ MonoG g H g' H') → PassesOwn (model X.prog X.w) X.A X.env xe → ∀ (s1 : Shared), Iv (X.tr pn xe) [] σ H s1 → wpAny (model X.prog X.w) X.A (execs body X.env) (fun _ _ => False) xe s1 :=
      fun pn xe t p s1 I1 => hb0 _ pn xe t p s1 I1 fun σ' cls d g' H' S' er m' => ⟨g', S', er, m'⟩
    cases hres : findH sub x s' l with
    | stuck => trivial
    | ok fl s2 =>
      show wpAny _ _ _ _ _ _
      refine catching (fun _ _ _ _ h => h) hb1 fun a cls d σ' H' g' hds' l' S' er m' hl => ?_
      rw [hl, hres]
      exact fun _ _ h => h
    | exc y s2 =>
      intro w
      have hxy : y = x ∧ s2 = s' := by
        have : ∀ l : List (Str × M Fl), findH sub x s' l = .exc y s2 → y = x ∧ s2 = s' := by
          intro l
          induction l with
          | nil => intro h; cases h; exact ⟨rfl, rfl⟩
          | cons p l ih =>
            intro h
            obtain ⟨c, hm⟩ := p
            unfold findH at h
            split at h
            · split at h <;> cases h
            · exact ih h
            · cases h
        exact this l hres
      obtain ⟨rfl, rfl⟩ := hxy
      refine catching (fun _ _ _ _ h => h) hb1 fun a cls d σ' H' g' hds' l' S' er m' hl => ?_
      rw [hl, hres]
      exact ⟨rfl, w _ _ _ _ _ S' er m'⟩
end
end Dn


/-! Dn14 -/
set_option Elab.async false
set_option linter.all false
set_option maxRecDepth 100000
set_option maxHeartbeats 1000000
namespace Dn
open PySem PySem.Spec PyProof.Rows L2

/-! ### what is wished, what is asked -/
def postS {α β : Type} (X : Cx) (pins : List (Addr × Obj)) (e : Ent) (g : Gh) (H : Hp) (rel : RelS α β) (res : Res α) : β → Shared → Prop := match res with
  | .ok r s' => DoneS X pins e g H rel r s'
  | _ => fun _ _ => False
def askS {α : Type} (X : Cx) (W : WX) (e : Ent) (g : Gh) (H : Hp) (res : Res α) : Prop := match res with
  | .ok _ _ => True
  | .exc x s' => WishS X W e g H x s'
  | .stuck => False
theorem WPs.intro {α β : Type} {X : Cx} {W : WX} {pins : List (Addr × Obj)} {e : Ent} {g : Gh} {H : Hp} {rel : RelS α β} {res : Res α} {tr : Tr β} (h : askS X W e g H res → tr (postS X pins e g H rel res)) : WPs X W pins e g H rel res tr := by
  cases res with
  | ok r s' => exact h trivial
  | exc x s' => exact fun w => h w
  | stuck => trivial
theorem WPs.elim {α β : Type} {X : Cx} {W : WX} {pins : List (Addr × Obj)} {e : Ent} {g : Gh} {H : Hp} {rel : RelS α β} {res : Res α} {tr : Tr β} (h : WPs X W pins e g H rel res tr) (k : askS X W e g H res) : tr (postS X pins e g H rel res) := by
  cases res with
  | ok r s' => exact h
  | exc x s' => exact h k
  | stuck => exact k.elim
def postT {α β : Type} (X : Cx) (pins : List (Addr × Obj)) (σ : L2.St) (e : Ent) (g : Gh) (H : Hp) (env : List Slot) (rel : RelT α β) (res : Res α) : β → Shared → Prop := match res with
  | .ok r s' => Done X pins σ e g H env rel r s'
  | _ => fun _ _ => False
def askT {α : Type} (X : Cx) (W : WX) (e : Ent) (g : Gh) (H : Hp) (σ : L2.St) (res : Res α) : Prop := match res with
  | .ok _ _ => True
  | .exc x s' => Wish X W e g H σ x s'
  | .stuck => False
theorem WPt.elim {α β : Type} {X : Cx} {W : WX} {pins : List (Addr × Obj)} {σ : L2.St} {e : Ent} {g : Gh} {H : Hp} {env : List Slot} {rel : RelT α β} {res : Res α} {tr : Tr β} (h : WPt X W pins σ e g H env rel res tr) (k : askT X W e g H σ res) : tr (postT X pins σ e g H env rel res) := by
  cases res with
  | ok r s' => exact h
  | exc x s' => exact h k
  | stuck => exact k.elim
theorem askS.up {α : Type} {X : Cx} {W : WX} {e : Ent} {g g1 : Gh} {H H1 : Hp} {res : Res α} (m : MonoG g H g1 H1) (h : askS X W e g H res) : askS X W e g1 H1 res := by
  cases res with
  | ok r s' => trivial
  | exc x s' => exact WishS.on m h
  | stuck => exact h
theorem askS.t {α : Type} {X : Cx} {W : WX} {e : Ent} {g : Gh} {H : Hp} {σ : L2.St} {res : Res α} (h : askS X W e g H res) : askT X W e g H σ res := by
  cases res with
  | ok r s' => trivial
  | exc x s' => exact WishS.wish h
  | stuck => exact h
theorem postS.up {α β : Type} {X : Cx} {pins : List (Addr × Obj)} {e : Ent} {g g1 : Gh} {H H1 : Hp} {rel : RelS α β} {res : Res α} {u : β} {s1 : Shared} (m : MonoG g H g1 H1) (h : postS X pins e g1 H1 rel res u s1) : postS X pins e g H rel res u s1 := by
  cases res with
  | ok r s' => exact DoneS.up m h
  | exc x s' => exact h
  | stuck => exact h
/-- a bind's asking, seen from its first part -/
theorem askS.bind1 {α β : Type} {X : Cx} {W : WX} {e : Ent} {g : Gh} {H : Hp} {r : Res α} {k : α → M β} (h : askS X W e g H (r.bind k)) : askS X W e g H r := by
  cases r with
  | ok a s' => trivial
  | exc x s' => exact h
  | stuck => exact h

/-! ### while -/
def sWhile (c : M Bool) (b : M Fl) : Nat → M Fl
  | 0 => stuckM
  | n + 1 => bindM c fun t => if t = true then bindM b fun fl => match fl with
      | .nx => sWhile c b n
      | .cont => sWhile c b n
      | .brk => retM .nx
      | .ret r => retM (.ret r)
    else retM .nx
section
variable {X : Cx} {W : WX} {pos : Pos}
theorem ds_while {c : Expr} {body : List Stmt} {tc : M Bool} {fb : M Fl} {n : Nat} (hp : PassesOwn (model X.prog X.w) X.A X.env X.xe) (hc : DT X W c tc) (hb : DSs X W body fb) : DS X W (.While c body [] pos) (sWhile tc fb n) := by
  intro pins s σ H e g env st I S
  refine WPs.intro fun ask => ?_
  generalize hres : sWhile tc fb n ⟨env, st⟩ = res at ask ⊢
  refine wpAny_While (codeAny_whileLoop (fun m s1 => ∃ σ1 g1 H1 sS, Iv X pins σ1 H1 s1 ∧ Sim (gm X) e g1 σ1 H1 sS.env sS.st ∧ MonoG g H g1 H1 ∧ sWhile tc fb m sS = res) ?_ n ⟨σ, g, H, ⟨env, st⟩, I, S, .refl, hres⟩)
  rintro m s1 ⟨σ1, g1, H1, sS, I1, S1, m1, e1⟩
  cases m with
  | zero => rw [← e1] at ask; exact ask.elim
  | succ m =>
    have ask1 : askS X W e g1 H1 ((tc sS).bind fun t => if t = true then bindM fb (fun fl => match fl with
      | .nx => sWhile tc fb m
      | .cont => sWhile tc fb m
      | .brk => retM .nx
      | .ret r => retM (.ret r)) else retM .nx) := by
      have : (tc sS).bind _ = res := e1
      rw [this]; exact ask.up m1
    refine wpAny_passesOwn hp (thn ((hc pins s1 σ1 H1 e g1 sS.env sS.st I1 S1).elim ask1.bind1.t) fun b s2 h2 => ?_)
    have e2 : (tc sS).bind _ = res := e1
    cases hr : tc sS with
    | exc x s' => rw [show tc ⟨sS.env, sS.st⟩ = tc sS from rfl, hr] at h2; exact h2.elim
    | stuck => rw [show tc ⟨sS.env, sS.st⟩ = tc sS from rfl, hr] at h2; exact h2.elim
    | ok t sT =>
      rw [show tc ⟨sS.env, sS.st⟩ = tc sS from rfl, hr] at h2
      rw [hr] at e2 ask1
      obtain ⟨g2, H2, I2, S2, x2, re⟩ := h2
      cases (re : t = b)
      have m2 := m1.trans (mono_of S2 x2)
      cases b with
      | false =>
        simp only [Bool.false_eq_true, if_false] at e2 ⊢
        have e3 : Res.ok Fl.nx sT = res := e2
        refine wpAny_execs_nil ?_
        rw [← e3]
        exact ⟨σ1, g2, H2, I2, S2, m2, rfl⟩
      | true =>
        simp only [if_true] at e2 ⊢
        have e3 : (fb sT).bind _ = res := e2
        have ask2 : askS X W e g2 H2 (fb sT) := askS.bind1 (k := fun fl => match fl with
          | .nx => sWhile tc fb m
          | .cont => sWhile tc fb m
          | .brk => retM .nx
          | .ret r => retM (.ret r)) (by rw [e3]; exact ask.up m2)
        refine wpAny_passesOwn hp (thn ((hb pins s2 σ1 H2 e g2 sT.env sT.st I2 S2).elim ask2) fun f s3 h3 => ?_)
        cases hr3 : fb sT with
        | exc x s' => rw [show fb ⟨sT.env, sT.st⟩ = fb sT from rfl, hr3] at h3; exact h3.elim
        | stuck => rw [show fb ⟨sT.env, sT.st⟩ = fb sT from rfl, hr3] at h3; exact h3.elim
        | ok fl s4 =>
          rw [show fb ⟨sT.env, sT.st⟩ = fb sT from rfl, hr3] at h3
          rw [hr3] at e3
          obtain ⟨σ3, g3, H3, I3, S3, m3, re3⟩ := h3
          have m4 := m2.trans m3
          cases fl with
          | nx =>
            cases (re3 : f = .next)
            exact ⟨m, Nat.lt_succ_self _, σ3, g3, H3, s4, I3, S3, m4, e3⟩
          | cont =>
            cases (re3 : f = .cont)
            exact ⟨m, Nat.lt_succ_self _, σ3, g3, H3, s4, I3, S3, m4, e3⟩
          | brk =>
            cases (re3 : f = .brk)
            have e4 : Res.ok Fl.nx s4 = res := e3
            show postS X pins e g H relF res .next s3
            rw [← e4]
            exact ⟨σ3, g3, H3, I3, S3, m4, rfl⟩
          | ret r =>
            obtain ⟨v, u, rfl, rv⟩ := re3
            have e4 : Res.ok (Fl.ret r) s4 = res := e3
            show postS X pins e g H relF res (.ret u) s3
            rw [← e4]
            exact ⟨σ3, g3, H3, I3, S3, m4, v, u, rfl, rv⟩

/-! ### what a loop walks -/
def WalkOk (G : Gm) (J : It) (ds : List D) (g : Gh) (H : Hp) : Prop := ∀ (i : Nat) (g' : Gh) (H' : Hp), MonoG g H g' H' →
  (∀ d, ds[i]? = some d → J.go i H' ∧ ∀ x H'', J.yld i H' x H'' → (H'' = H' ∧ Rep G g' H' d x) ∨ (∃ p xs ls, H' p = none ∧ x = .ref p ∧ H'' = upd H' p (.tup xs) ∧ d = .tup ls ∧ Reps G g' H' ls xs)) ∧ (i = ds.length → J.stop i H')
def DoneI (X : Cx) (pins : List (Addr × Obj)) (σ : L2.St) (e : Ent) (g : Gh) (H : Hp) (env : List Slot) (tg : Expr) (res : Res (List D)) (itv : Value) (s2 : Shared) : Prop := match res with
  | .ok ds s' => ∃ (it : Addr) (fp : List Addr) (tn : Nat → Heap → Prop) (J : It) (g1 : Gh) (H1 : Hp), itv = .ref it ∧ Iv X pins σ H1 s2 ∧ Sim (gm X) e g1 σ H1 s'.env s'.st ∧ Step σ g H env g1 H1 s'.env ∧
      Turn X.prog X.w X.K tg J fp it tn ∧ tn 0 s2.heap ∧ (∀ b ∈ fp, FpOk X pins H1 b) ∧ WalkOk (gm X) J ds g1 H1
  | _ => False
def DI (X : Cx) (W : WX) (tg iter : Expr) (f : M (List D)) : Prop :=
  ∀ (pins : List (Addr × Obj)) (s : Shared) (σ : L2.St) (H : Hp) (e : Ent) (g : Gh) (env : List Slot) (st : List SO), Iv X pins σ H s → Sim (gm X) e g σ H env st → askT X W e g H σ (f ⟨env, st⟩) →
    wpAny (model X.prog X.w) X.A (eval iter X.env) (fun v s1 => wpAny (model X.prog X.w) X.A (pyIter v) (DoneI X pins σ e g H env tg (f ⟨env, st⟩)) X.xe s1) X.xe s

/-! ### for -/
def loopM (a : R → M Unit) (b : M Fl) : List D → M Fl
  | [] => retM .nx
  | d :: ds => bindM (a (.val d)) fun _ => bindM b fun fl => match fl with
    | .nx => loopM a b ds
    | .cont => loopM a b ds
    | .brk => retM .nx
    | .ret r => retM (.ret r)
def sFor (fi : M (List D)) (a : R → M Unit) (b : M Fl) : M Fl := bindM fi (loopM a b)
theorem ds_for {tg iter : Expr} {body : List Stmt} {fi : M (List D)} {a : R → M Unit} {fb : M Fl} (hp : PassesOwn (model X.prog X.w) X.A X.env X.xe) (hc : X.calm = true) (hi : DI X W tg iter fi) (hg : DG X W tg a) (hb : DSs X W body fb)
    (hs : ∀ x, foldedSetIterable iter X.env x = pure x) : DS X W (.For tg iter body [] pos) (sFor fi a fb) := by
  intro pins s σ H e g env st I S
  refine WPs.intro fun ask => ?_
  have ask0 : askS X W e g H ((fi ⟨env, st⟩).bind (loopM a fb)) := ask
  generalize hres : sFor fi a fb ⟨env, st⟩ = res at ask ⊢
  have hres0 : (fi ⟨env, st⟩).bind (loopM a fb) = res := hres
  refine wpAny_For (thn (hi pins s σ H e g env st I S ask0.bind1.t) fun v s1 h1 => thn h1 fun itv s2 h2 => ?_) hs
  cases hfi : fi ⟨env, st⟩ with
  | exc x s' => rw [hfi] at h2; exact h2.elim
  | stuck => rw [hfi] at h2; exact h2.elim
  | ok ds s' =>
    rw [hfi] at h2 hres0
    have hres1 : loopM a fb ds s' = res := hres0
    obtain ⟨it, fp, tn, J, g2, H2, rfl, I2, S2, x2, T, st2, f2, wk⟩ := h2
    have m2 := mono_of S2 x2
    have stat : ∀ {H' : Hp}, (∀ b ∈ fp, H' b = none) → ∀ b ∈ fp, FpOk X pins H' b := fun hn b hb => ⟨hn b hb, (f2 b hb).2⟩
    refine codeAny_forLoop_any (fun n s' => ∃ i σ' g' H' sS, n = ds.length - i ∧ i ≤ ds.length ∧ Iv X pins σ' H' s' ∧ Sim (gm X) e g' σ' H' sS.env sS.st ∧ MonoG g2 H2 g' H' ∧ tn i s'.heap ∧ (∀ b ∈ fp, H' b = none) ∧ loopM a fb (ds.drop i) sS = res) ?_ ds.length
      ⟨0, σ, g2, H2, s', by simp, Nat.zero_le _, I2, S2, .refl, st2, fun b hb => (f2 b hb).1, hres1⟩
    rintro n s3 ⟨i, σ3, g3, H3, sS, rfl, hle, I3, S3, m3, st3, fr3, e3⟩
    obtain ⟨wk1, wk2⟩ := wk i g3 H3 m3
    by_cases hi' : i = ds.length
    · have e4 : Res.ok Fl.nx sS = res := by
        rw [hi', List.drop_length] at e3; exact e3
      refine wpAny_passesOwn hp (thn (tkn I3.t (T.done X rfl rfl rfl hc i pins s3 σ3 H3 X.xe I3.i (stat fr3) st3 (wk2 hi')) fun _ _ ht z => And.intro ht z) fun r s4 ⟨ht, hr, I4⟩ => ?_)
      subst hr
      refine wpAny_execs_nil ?_
      show postS X pins e g H relF res .next s4
      rw [← e4]
      exact ⟨σ3, g3, H3, ⟨I4, ht⟩, S3, m2.trans m3, rfl⟩
    · have hlt : i < ds.length := by omega
      have hd : ds[i]? = some ds[i] := List.getElem?_eq_getElem hlt
      have hdrop : ds.drop i = ds[i] :: ds.drop (i + 1) := List.drop_eq_getElem_cons hlt
      rw [hdrop] at e3
      obtain ⟨go, yl⟩ := wk1 _ hd
      refine wpAny_passesOwn hp (thn (tkn I3.t (T.item X rfl rfl rfl hc i pins s3 σ3 H3 X.xe I3.i (stat fr3) st3 go) fun _ _ ht z => And.intro ht z) fun r s4 ⟨ht, u, hr, h4⟩ => ?_)
      subst hr
      refine wpAny_passesOwn hp (thn (tkn ht h4 fun _ _ ht z => And.intro ht z) fun _ s5 ⟨ht5, x, H5, I5, r5, y5, st5, fr5⟩ => ?_)
      have I5' := I5.pinned (stat fr5) (T.obj _ _ st5)
      -- the item is told
      have told : ∃ g5, Sim (gm X) e g5 σ3 H5 sS.env sS.st ∧ MonoG g3 H3 g5 H5 ∧ Rep (gm X) g5 H5 ds[i] x := by
        rcases yl x H5 y5 with ⟨rfl, rp⟩ | ⟨p, xs, ls, hp', rfl, rfl, hds, rps⟩
        · exact ⟨g3, S3, .refl, rp⟩
        · rw [hds]
          exact ⟨g3.add p, S3.layF hp' _, .layF hp', rep_tup_new hp' rps⟩
      obtain ⟨g5, S5, m5, rp5⟩ := told
      have mm5 := m2.trans (m3.trans m5)
      have e4 : (a (.val ds[i]) sS).bind _ = res := e3
      have ask4 : askS X W e g5 H5 (a (.val ds[i]) sS) := askS.bind1 (k := fun _ => bindM fb fun fl => match fl with
        | .nx => loopM a fb (ds.drop (i + 1))
        | .cont => loopM a fb (ds.drop (i + 1))
        | .brk => retM .nx
        | .ret r => retM (.ret r)) (by rw [e4]; exact ask.up mm5)
      refine wpAny_passesOwn hp (thn ((hg _ s5 σ3 H5 e g5 sS.env sS.st (fun _ => True) (.val ds[i]) u ⟨I5', ht5⟩ S5 ⟨x, r5, rp5⟩).elim ask4) fun _ s6 h6 => ?_)
      cases hra : a (.val ds[i]) sS with
      | exc x s' => rw [show a (.val ds[i]) ⟨sS.env, sS.st⟩ = a (.val ds[i]) sS from rfl, hra] at h6; exact h6.elim
      | stuck => rw [show a (.val ds[i]) ⟨sS.env, sS.st⟩ = a (.val ds[i]) sS from rfl, hra] at h6; exact h6.elim
      | ok _ s6' =>
        rw [show a (.val ds[i]) ⟨sS.env, sS.st⟩ = a (.val ds[i]) sS from rfl, hra] at h6
        rw [hra] at e4
        obtain ⟨σ6, g6, H6, I6, S6, m6, _⟩ := h6
        have mm6 := mm5.trans m6
        have e5 : (fb s6').bind _ = res := e4
        have ask5 : askS X W e g6 H6 (fb s6') := askS.bind1 (k := fun fl => match fl with
          | .nx => loopM a fb (ds.drop (i + 1))
          | .cont => loopM a fb (ds.drop (i + 1))
          | .brk => retM .nx
          | .ret r => retM (.ret r)) (by rw [e5]; exact ask.up mm6)
        refine wpAny_passesOwn hp (thn ((hb _ s6 σ6 H6 e g6 s6'.env s6'.st I6 S6).elim ask5) fun f s7 h7 => ?_)
        cases hrb : fb s6' with
        | exc x s' => rw [show fb ⟨s6'.env, s6'.st⟩ = fb s6' from rfl, hrb] at h7; exact h7.elim
        | stuck => rw [show fb ⟨s6'.env, s6'.st⟩ = fb s6' from rfl, hrb] at h7; exact h7.elim
        | ok fl s7' =>
          rw [show fb ⟨s6'.env, s6'.st⟩ = fb s6' from rfl, hrb] at h7
          rw [hrb] at e5
          obtain ⟨σ7, g7, H7, I7, S7, m7, re7⟩ := h7
          have again : loopM a fb (ds.drop (i + 1)) s7' = res → ∃ m, m < ds.length - i ∧ ∃ i σ' g' H' sS, m = ds.length - i ∧ i ≤ ds.length ∧ Iv X pins σ' H' s7 ∧ Sim (gm X) e g' σ' H' sS.env sS.st ∧ MonoG g2 H2 g' H' ∧ tn i s7.heap ∧ (∀ b ∈ fp, H' b = none) ∧ loopM a fb (ds.drop i) sS = res := fun el =>
            ⟨ds.length - (i + 1), by omega, i + 1, σ7, g7, H7, s7', rfl, hlt, ⟨I7.i.unpinned, I7.t⟩, S7, m3.trans (m5.trans (m6.trans m7)), T.keep _ _ _ st5 fun b hb o e => (I7.i.pin (b, o) (List.mem_append_right _ (List.mem_append_right _ (mem_pinsAt hb e)))).1, fun b hb => by
              obtain ⟨o, e, d⟩ := T.obj _ _ st5 b hb
              exact (I7.i.pin (b, o) (List.mem_append_right _ (List.mem_append_right _ (mem_pinsAt hb e)))).2.1, el⟩
          cases fl with
          | nx =>
            cases (re7 : f = .next)
            exact again e5
          | cont =>
            cases (re7 : f = .cont)
            exact again e5
          | brk =>
            cases (re7 : f = .brk)
            have e6 : Res.ok Fl.nx s7' = res := e5
            show postS X pins e g H relF res .next s7
            rw [← e6]
            exact ⟨σ7, g7, H7, ⟨I7.i.unpinned, I7.t⟩, S7, mm6.trans m7, rfl⟩
          | ret r =>
            obtain ⟨v, u, rfl, rv⟩ := re7
            have e6 : Res.ok (Fl.ret r) s7' = res := e5
            show postS X pins e g H relF res (.ret u) s7
            rw [← e6]
            exact ⟨σ7, g7, H7, ⟨I7.i.unpinned, I7.t⟩, S7, mm6.trans m7, v, u, rfl, rv⟩
end
end Dn


/-! Dn15 -/
set_option Elab.async false
set_option linter.all false
set_option maxRecDepth 100000
set_option maxHeartbeats 1000000
namespace Dn
open PySem PySem.Spec PyProof.Rows L2

/-! ### a list, a tuple, a text is walked -/
def iterD : D → Option (List D)
  | .lst l => some l
  | .tup l => some l
  | .str z => some (z.cps.toList.map fun c => .str ⟨#[c]⟩)
  | _ => none
/-- an address of a frozen (or module's) list | tuple, seen later -/
theorem LstAt.later {G : Gm} {g g' : Gh} {H H' : Hp} {a : Addr} {xs : List V} (h : LstAt G g H a xs) (m : MonoG g H g' H') : SqL G.K H' a xs := (h.mono m).sq
theorem TupAt.later {G : Gm} {g g' : Gh} {H H' : Hp} {a : Addr} {xs : List V} (h : TupAt G g H a xs) (m : MonoG g H g' H') : SqT G.K H' a xs := (h.mono m).sq
theorem Reps.some_of {G : Gm} {g : Gh} {H : Hp} {l : List D} {xs : List V} {i : Nat} {d : D} (r : Reps G g H l xs) (h : l[i]? = some d) : ∃ x, xs[i]? = some x ∧ Rep G g H d x := r.get h
theorem SqL.inj {K : PySem.W.Frag} {H : Hp} {a : Addr} {xs ys : List V} {X : Cx} {pins : List (Addr × Obj)} {σ : L2.St} {s : Shared} (hK : X.K = K) (I : Inv X pins σ H s) (h : SqL K H a xs) (h' : SqL K H a ys) : xs = ys := by
  subst hK; exact I.list_inj h h'
section
variable {X : Cx} {W : WX} {tg : Expr} {pos p : Pos}
/-- the list at a, its items fixed -/
def ItL (K : PySem.W.Frag) (a : Addr) (xs : List V) : It := ⟨fun i H => SqL K H a xs ∧ i < xs.length, fun i H x H' => H' = H ∧ xs[i]? = some x, fun i H => SqL K H a xs ∧ xs.length ≤ i⟩
def ItT (K : PySem.W.Frag) (a : Addr) (xs : List V) : It := ⟨fun i H => SqT K H a xs ∧ i < xs.length, fun i H x H' => H' = H ∧ xs[i]? = some x, fun i H => SqT K H a xs ∧ xs.length ≤ i⟩
/-- another reading of the same walk -/
theorem turn_to {P : Program} {w : World} {K : PySem.W.Frag} {J J' : It} {fp : List Addr} {it : Addr} {tn : Nat → Heap → Prop} (T : Turn P w K tg J fp it tn) (h1 : ∀ i H, J'.go i H → J.go i H) (h2 : ∀ i H x H', J'.go i H → J.yld i H x H' → J'.yld i H x H') (h3 : ∀ i H, J'.stop i H → J.stop i H) :
    Turn P w K tg J' fp it tn :=
  ⟨T.mem, T.obj, T.keep, fun X a b c d i pins s σ H E I hf st hg => thn (T.item X a b c d i pins s σ H E I hf st (h1 i H hg)) fun r s1 ⟨u, e1, q⟩ => ⟨u, e1, thn q fun _ s2 ⟨x, H', I', r', y, z⟩ => ⟨x, H', I', r', h2 i H x H' hg y, z⟩⟩,
    fun X a b c d i pins s σ H E I hf st hg => T.done X a b c d i pins s σ H E I hf st (h3 i H hg), T.self⟩
theorem turnL {P : Program} {w : World} {K : PySem.W.Frag} (a it : Addr) (xs : List V) : Turn P w K tg (ItL K a xs) [it] it (fun i h => h.IsListIter it a i) :=
  turn_to (turn_list a it) (fun i H ⟨h, hi⟩ => ⟨xs, xs[i], h, by simp [hi]⟩) (fun i H x H' ⟨h, _⟩ ⟨e, y⟩ => ⟨e, y xs h⟩) fun i H ⟨h, hi⟩ => ⟨xs, h, hi⟩
theorem turnT {P : Program} {w : World} {K : PySem.W.Frag} (a it : Addr) (xs : List V) : Turn P w K tg (ItT K a xs) [it] it (fun i h => h.IsTupleIter it a i) :=
  turn_to (turn_tuple a it) (fun i H ⟨h, hi⟩ => ⟨xs, xs[i], h, by simp [hi]⟩) (fun i H x H' ⟨h, _⟩ ⟨e, y⟩ => ⟨e, y xs h⟩) fun i H ⟨h, hi⟩ => ⟨xs, h, hi⟩
theorem walkL {G : Gm} {a : Addr} {xs : List V} {l : List D} {g : Gh} {H : Hp} (h : LstAt G g H a xs) (r : Reps G g H l xs) : WalkOk G (ItL G.K a xs) l g H := fun i g' H' m => by
  refine ⟨fun d hd => ?_, fun hi => ⟨h.later m, by rw [r.length, hi]; exact Nat.le_refl _⟩⟩
  obtain ⟨x, hx, rx⟩ := (r.mono m).get hd
  have hlt : i < xs.length := (List.getElem?_eq_some_iff.mp hx).1
  exact ⟨⟨h.later m, hlt⟩, fun y H'' ⟨e, hy⟩ => .inl ⟨e, by rw [hx] at hy; cases hy; exact rx⟩⟩
theorem walkT {G : Gm} {a : Addr} {xs : List V} {l : List D} {g : Gh} {H : Hp} (h : TupAt G g H a xs) (r : Reps G g H l xs) : WalkOk G (ItT G.K a xs) l g H := fun i g' H' m => by
  refine ⟨fun d hd => ?_, fun hi => ⟨h.later m, by rw [r.length, hi]; exact Nat.le_refl _⟩⟩
  obtain ⟨x, hx, rx⟩ := (r.mono m).get hd
  have hlt : i < xs.length := (List.getElem?_eq_some_iff.mp hx).1
  exact ⟨⟨h.later m, hlt⟩, fun y H'' ⟨e, hy⟩ => .inl ⟨e, by rw [hx] at hy; cases hy; exact rx⟩⟩
theorem walkS {G : Gm} {z : Str} {g : Gh} {H : Hp} : WalkOk G (Its z) (z.cps.toList.map fun c => D.str ⟨#[c]⟩) g H := fun i g' H' m => by
  refine ⟨fun d hd => ?_, fun hi => by show z.cps.size ≤ i; rw [hi]; simp⟩
  rw [List.getElem?_map] at hd
  cases hc : z.cps.toList[i]? with
  | none => rw [hc] at hd; cases hd
  | some c =>
    rw [hc] at hd
    cases hd
    have hlt : i < z.cps.size := by have := (List.getElem?_eq_some_iff.mp hc).1; simpa using this
    refine ⟨hlt, fun y H'' ⟨e, c', hc', ey⟩ => .inl ⟨e, ?_⟩⟩
    have : z.cps[i]? = some c := by rw [← hc]; simp
    rw [this] at hc'
    cases hc'
    exact ey
def eIter (fe : M R) : M (List D) := bindM (bindM fe escF) (pureF iterD)
theorem new_fp {pins : List (Addr × Obj)} {σ : L2.St} {H : Hp} {s : Shared} (I : Iv X pins σ H s) : ∀ b ∈ [s.heap.objs.size], FpOk X pins H b := fun b hb => by
  have e : b = s.heap.objs.size := by simpa using hb
  subst e
  exact I.i.fpOk (Nat.le_refl _) (I.i.hok.fresh (Nat.le_refl _))
theorem di_seq {ex : Expr} {fe : M R} (he : DE X W ex fe) : DI X W tg ex (eIter fe) := by
  intro pins s σ H e g env st I S ask
  have h := (he pins s σ H e g env st I S).esc
  have ask1 : askT X W e g H σ ((fe ⟨env, st⟩).bind escF) := by
    have : askT X W e g H σ (((fe ⟨env, st⟩).bind escF).bind (pureF iterD)) := ask
    revert this
    cases (fe ⟨env, st⟩).bind escF with
    | ok r s' => exact fun _ => trivial
    | exc x s' => exact fun h => h
    | stuck => exact fun h => h
  refine thn (h.elim ask1) fun v s1 h1 => ?_
  show wpAny _ _ (pyIter v) (DoneI X pins σ e g H env tg (((fe ⟨env, st⟩).bind escF).bind (pureF iterD))) _ _
  have ask2 : askT X W e g H σ (((fe ⟨env, st⟩).bind escF).bind (pureF iterD)) := ask
  revert h1 ask2
  cases (fe ⟨env, st⟩).bind escF with
  | exc x s' => exact fun h1 => h1.elim
  | stuck => exact fun h1 => h1.elim
  | ok d s' =>
    intro h1 ask2
    obtain ⟨g1, H1, I1, S1, x1, w, rw1, rp⟩ := h1
    cases d with
    | lst l =>
      obtain ⟨a, xs, rfl, la, rs⟩ := rp
      cases rw1
      obtain ⟨its, rv, pl, hz⟩ := I1.i.list la.sq
      refine wpAny_pyIter_list pl.isList ?_
      exact ⟨s1.heap.objs.size, [s1.heap.objs.size], _, _, g1, H1, rfl, ⟨I1.i.kept (t' := s1.toks) fun b o e => Heap.get?_push_of_some _ e, I1.t⟩, S1, x1, turnL a _ xs, ⟨_, Heap.get?_push_size _ rfl, rfl, rfl⟩, new_fp I1, walkL la rs⟩
    | tup l =>
      obtain ⟨a, xs, rfl, la, rs⟩ := rp
      cases rw1
      obtain ⟨its, rv, pl, hz⟩ := I1.i.tuple la.sq
      refine wpAny_pyIter_tuple (show s1.heap.IsTuple a its.toArray from pl) ?_
      exact ⟨s1.heap.objs.size, [s1.heap.objs.size], _, _, g1, H1, rfl, ⟨I1.i.kept (t' := s1.toks) fun b o e => Heap.get?_push_of_some _ e, I1.t⟩, S1, x1, turnT a _ xs, ⟨_, Heap.get?_push_size _ rfl, rfl, rfl⟩, new_fp I1, walkT la rs⟩
    | str z =>
      cases (rp : w = .str z)
      obtain ⟨t, rfl⟩ := rw1
      cases ha : z.cps.all (· < 128)
      · refine wpAny_pyIter_wide ha ?_
        exact ⟨s1.heap.objs.size, [s1.heap.objs.size], _, _, g1, H1, rfl, ⟨I1.i.kept (t' := s1.toks) fun b o e => Heap.get?_push_of_some _ e, I1.t⟩, S1, x1, turn_str _ z t "str_iterator" (.inr rfl), ⟨_, Heap.get?_push_size _ rfl, rfl, rfl⟩, new_fp I1, walkS⟩
      · refine wpAny_pyIter_ascii ha ?_
        exact ⟨s1.heap.objs.size, [s1.heap.objs.size], _, _, g1, H1, rfl, ⟨I1.i.kept (t' := s1.toks) fun b o e => Heap.get?_push_of_some _ e, I1.t⟩, S1, x1, turn_str _ z t "str_ascii_iterator" (.inl rfl), ⟨_, Heap.get?_push_size _ rfl, rfl, rfl⟩, new_fp I1, walkS⟩
    | non => exact ask2.elim
    | bl _ => exact ask2.elim
    | int _ => exact ask2.elim
    | dct _ => exact ask2.elim
    | ref _ => exact ask2.elim

/-! ### range -/
def rangeD (lo : Int) (n : Nat) : List D := (List.range n).map fun i => .int (lo + (i : Nat))
theorem walkR {G : Gm} {lo : Int} {n : Nat} {g : Gh} {H : Hp} : WalkOk G (Itr lo n) (rangeD lo n) g H := fun i g' H' m => by
  refine ⟨fun d hd => ?_, fun hi => by show n ≤ i; rw [hi]; simp [rangeD]⟩
  unfold rangeD at hd
  rw [List.getElem?_map] at hd
  cases hc : (List.range n)[i]? with
  | none => rw [hc] at hd; cases hd
  | some c =>
    rw [hc] at hd
    cases hd
    obtain ⟨hlt, e⟩ := List.getElem?_eq_some_iff.mp hc
    simp at hlt e
    subst e
    exact ⟨hlt, fun y H'' ⟨e, ey⟩ => .inl ⟨e, ey⟩⟩
def okR (i : Int) : Bool := decide (-(2 ^ 62) ≤ i) && decide (i < 2 ^ 62)
def fRange : List R → Option (List D)
  | [r] => match asInt r.d with
    | some j => if okR j then some (rangeD 0 j.toNat) else none
    | none => none
  | [r, t] => match asInt r.d, asInt t.d with
    | some i, some j => if okR i && okR j then some (rangeD i (j - i).toNat) else none
    | _, _ => none
  | _ => none
def eRange (fs : M (List R)) : M (List D) := bindM fs (pureF fRange)
theorem range_di {pins : List (Addr × Obj)} {σ : L2.St} {e : Ent} {g g1 : Gh} {H H1 : Hp} {env : List Slot} {s' : Dn.S} {s1 : Shared} {E : Value → Shared → Prop} {lo hi : Int} {t u v : Tok} {tk : Nat} (I : Iv X pins σ H1 s1) (S1 : Sim (gm X) e g1 σ H1 s'.env s'.st) (x1 : Step σ g H env g1 H1 s'.env) (h1 : okR lo = true) (h2 : okR hi = true)
    (htk : 0 < tk) : wpAny (model X.prog X.w) X.A (pyIter (.ref s1.heap.objs.size)) (DoneI X pins σ e g H env tg (.ok (rangeD lo (hi - lo).toNat) s')) E { s1 with heap := s1.heap.push { cls := .type "range", data := .fields #[.int lo t, .int hi u, .int 1 v] }, toks := tk } := by
  simp only [okR, Bool.and_eq_true, decide_eq_true_eq] at h1 h2
  have I0 : Iv X pins σ H1 { s1 with toks := tk } := ⟨I.i.tok tk, htk⟩
  refine tkn (by exact htk) (range_it (tg := tg) (R := fun J H2 => J = Itr lo (hi - lo).toNat ∧ H2 = H1) I.i h1.1 h1.2 h2.1 h2.2 ⟨rfl, rfl⟩) fun itv s2 t2 h => ?_
  obtain ⟨it, fp, tn, J, H2, e1, I2, T, st2, f2, rfl, rfl⟩ := h
  exact ⟨it, fp, tn, _, g1, H2, e1, ⟨I2, t2⟩, S1, x1, T, st2, f2, walkR⟩
theorem di_bind {α β γ : Type} {pins : List (Addr × Obj)} {σ : L2.St} {e : Ent} {g : Gh} {H : Hp} {env : List Slot} {rel : RelT α β} {res : Res α} {k : α → M γ} {tr : Tr β} [MonoT tr] {G : Res γ → β → Shared → Prop} (h : WPt X W pins σ e g H env rel res tr) (ask : askT X W e g H σ (res.bind k))
    (go : ∀ r s' u s1, res = .ok r s' → Done X pins σ e g H env rel r s' u s1 → askT X W e g H σ (k r s') → G (k r s') u s1) : tr (fun u s1 => G (res.bind k) u s1) := by
  cases res with
  | ok r s' => exact MonoT.mono (fun u s1 hd => go r s' u s1 rfl hd ask) h
  | exc x s' => exact MonoT.mono (fun _ _ z => z.elim) (h ask)
  | stuck => exact ask.elim
theorem ask_pure {α : Type} {e : Ent} {g : Gh} {H : Hp} {σ : L2.St} {f : α → Option (List D)} {a : α} {s' : Dn.S} (h : askT X W e g H σ (pureF f a s')) : ∃ ds, f a = some ds ∧ pureF f a s' = .ok ds s' := by
  unfold pureF at h ⊢
  cases q : f a with
  | none => rw [q] at h; exact h.elim
  | some ds => exact ⟨ds, rfl, rfl⟩
theorem di_range {a : Expr} {es : List Expr} {fs : M (List R)} (hg : Gl X "range") (hm : X.mg "range" = none) (ha : DAr X W (a :: es) fs) (hs : starEach (a :: es) X.env = (false, eval a X.env) :: starEach es X.env) (hpl : (backTo pos (starEach es X.env)).any (·.1) = false) :
    DI X W tg (.Call (.Name "range" p) (a :: es) [] pos) (eRange fs) := by
  intro pins s σ H e g env st I S ask
  refine Call_ (ld_blt I.i hg hm boot_range (PyProof.Rows.callWith_type1 (di_bind (G := fun res us s1 => wpAny _ _ (call (.type "range") us) (fun v s1 => wpAny _ _ (pyIter v) (DoneI X pins σ e g H env tg res) _ s1) _ s1) (ha pos pins s σ H e g env st I S) ask fun rs s' us s1 _ hd ask2 => ?_) hs hpl))
  obtain ⟨g1, H1, I1, S1, x1, vs, rv, q⟩ := hd
  obtain ⟨ds, hds, hres⟩ := ask_pure ask2
  rw [hres]
  unfold fRange at hds
  split at hds
  · rename_i r
    split at hds
    · rename_i j hj
      split at hds
      · rename_i hok
        cases hds
        obtain ⟨v, rfl, q1⟩ := RReps.one q
        cases RRep.int (asInt_eq hj) q1
        obtain ⟨u, rfl, t, rfl⟩ := rv.one
        have h0 := range_di (tg := tg) (lo := 0) (hi := j) (t := s1.toks) (u := t) (v := s1.toks + 1) (tk := s1.toks + 1 + 1) (E := X.xe) I1 S1 x1 (by decide) hok (by omega)
        have e0 : (j - 0).toNat = j.toNat := by simp
        rw [e0] at h0
        exact call_range_1 h0
      · cases hds
    · cases hds
  · rename_i r t
    split at hds
    · rename_i i j hi hj
      split at hds
      · rename_i hok
        cases hds
        simp only [Bool.and_eq_true] at hok
        obtain ⟨v, w, rfl, q1, q2⟩ := RReps.two q
        cases RRep.int (asInt_eq hi) q1
        cases RRep.int (asInt_eq hj) q2
        obtain ⟨u1, u2, rfl, ⟨t1, rfl⟩, ⟨t2, rfl⟩⟩ := rv.two
        exact call_range_2 (range_di (tg := tg) (t := t1) (u := t2) (v := s1.toks) (tk := s1.toks + 1) (E := X.xe) I1 S1 x1 hok.1 hok.2 (by omega))
      · cases hds
    · cases hds
  · cases hds
end

/-! ### enumerate, zip of what is walked -/
/-- an inner iterator -/
structure Src (prog : Program) (w : World) (K : PySem.W.Frag) (it : Addr) (rest : List Addr) (vs : List V) (C : Hp → Prop) (t0 : Nat → Heap → Prop) : Prop where
  obj : ∀ i h, t0 i h → ∃ o, h.get? it = some o ∧ ∀ v, o.data ≠ .cell v
  keep : ∀ i h h', t0 i h → (∀ o, h.get? it = some o → h'.get? it = some o) → t0 i h'
  draw : ∀ (X : Cx), X.prog = prog → X.w = w → X.K = K → ∀ (pins : List (Addr × Obj)) (σ : L2.St) (H : Hp) (s : Shared), Inv X pins σ H s → C H → it ∉ rest →
    ∃ (Pv : Nat → Value → Prop) (St : Nat → Heap → Prop), (∀ A : Around, A.handled = none → Draws prog w A it (it :: rest) vs.length Pv St) ∧ (∀ i, t0 i s.heap → St i s.heap) ∧ (∀ i h, St i h → t0 i h) ∧ ∀ i x, Pv i x → ∃ v, vs[i]? = some v ∧ RelV v x
/-- what can be walked: its iterator's object, what it walks -/
structure SrcOf (X : Cx) (H : Hp) (s : Shared) (g : Gh) (u : Value) (ds : List D) (o : Obj) (Hc : Heap → Prop) (rest : List Addr) (vs : List V) (C : Hp → Prop) (t0 : Addr → Nat → Heap → Prop) : Prop where
  beg : Begins u o Hc
  hc : Hc s.heap
  restLt : ∀ b ∈ rest, b < s.heap.objs.size
  start : ∀ it h, h.get? it = some o → t0 it 0 h
  later : ∀ g' H', MonoG g H g' H' → C H' ∧ Reps (gm X) g' H' ds vs
  src : ∀ it, Src X.prog X.w X.K it rest vs C (t0 it)
theorem at_of {its : List Value} {xs : List V} {i : Nat} {x : Value} (r : Vals xs its) (h : its.toArray[i]? = some x) : ∃ v, xs[i]? = some v ∧ RelV v x := by
  have h' : its[i]? = some x := by simpa using h
  have hl := r.length
  have hlt : i < xs.length := by have := (List.getElem?_eq_some_iff.mp h').1; omega
  obtain ⟨u, hu, ru⟩ := r.get (List.getElem?_eq_getElem hlt)
  rw [h'] at hu
  cases hu
  exact ⟨_, List.getElem?_eq_getElem hlt, ru⟩
section
variable {X : Cx} {W : WX} {tg : Expr} {pos p : Pos}
theorem src_of {pins : List (Addr × Obj)} {σ : L2.St} {H : Hp} {s : Shared} {g : Gh} {d : D} {v : V} {u : Value} {ds : List D} (I : Iv X pins σ H s) (hd : iterD d = some ds) (rp : Rep (gm X) g H d v) (rv : RelV v u) :
    ∃ o Hc rest vs C t0, SrcOf X H s g u ds o Hc rest vs C t0 := by
  cases d with
  | lst l =>
    cases hd
    obtain ⟨a, xs, rfl, la, rs⟩ := rp
    cases rv
    obtain ⟨its, r, pl, hz⟩ := I.i.list la.sq
    have hlt : a < s.heap.objs.size := by obtain ⟨_, e, _⟩ := pl.isList; exact Heap.lt_size e
    refine ⟨_, _, [a], xs, fun H' => SqL X.K H' a xs, fun it i h => h.IsListIter it a i, begins_list a its.toArray, pl.isList, fun b hb => ?_, fun it h e => ⟨_, e, rfl, rfl⟩, fun g' H' m => ⟨la.later m, rs.mono m⟩, fun it => ⟨fun i h ⟨o, e, c, d⟩ => ⟨o, e, fun v z => by rw [d] at z; cases z⟩, fun i h h' t k => t.at fun o e => k o e, fun Y e1 e2 e3 pins' σ' H' s' I' hC hni => ?_⟩⟩
    · have : b = a := by simpa using hb
      rw [this]; exact hlt
    · rw [← e1, ← e2]
      rw [← e3] at hC
      obtain ⟨its', r', pl', _⟩ := I'.list hC
      have hl := r'.length
      refine ⟨fun i v => its'.toArray[i]? = some v, fun i h => h.IsListIter it a i ∧ h.IsList a its'.toArray, fun A hh => ?_, fun i t => ?_, fun i h st => st.1, fun i x hx => at_of r' hx⟩
      · have D := Draws.list (prog := Y.prog) (w := Y.w) hh it a (fun z => hni (by simp [z])) its'.toArray
        rw [List.size_toArray, ← hl] at D
        exact D
      · exact ⟨t, pl'.isList⟩
  | tup l =>
    cases hd
    obtain ⟨a, xs, rfl, la, rs⟩ := rp
    cases rv
    obtain ⟨its, r, pl, hz⟩ := I.i.tuple la.sq
    have pl0 : s.heap.IsTuple a its.toArray := pl
    have hlt : a < s.heap.objs.size := by obtain ⟨_, e, _⟩ := pl; exact Heap.lt_size e
    refine ⟨_, _, [a], xs, fun H' => SqT X.K H' a xs, fun it i h => h.IsTupleIter it a i, begins_tuple a its.toArray, pl0, fun b hb => ?_, fun it h e => ⟨_, e, rfl, rfl⟩, fun g' H' m => ⟨la.later m, rs.mono m⟩, fun it => ⟨fun i h ⟨o, e, c, d⟩ => ⟨o, e, fun v z => by rw [d] at z; cases z⟩, fun i h h' t k => t.at fun o e => k o e, fun Y e1 e2 e3 pins' σ' H' s' I' hC hni => ?_⟩⟩
    · have : b = a := by simpa using hb
      rw [this]; exact hlt
    · rw [← e1, ← e2]
      rw [← e3] at hC
      obtain ⟨its', r', pl', _⟩ := I'.tuple hC
      have hl := r'.length
      refine ⟨fun i v => its'.toArray[i]? = some v, fun i h => h.IsTupleIter it a i ∧ h.IsTuple a its'.toArray, fun A hh => ?_, fun i t => ?_, fun i h st => st.1, fun i x hx => at_of r' hx⟩
      · have D := Draws.tuple (prog := Y.prog) (w := Y.w) hh it a (fun z => hni (by simp [z])) its'.toArray
        rw [List.size_toArray, ← hl] at D
        exact D
      · exact ⟨t, pl'⟩
  | str z =>
    cases hd
    cases (rp : v = .str z)
    obtain ⟨t, rfl⟩ := rv
    refine ⟨_, _, [], z.cps.toList.map fun c => V.str ⟨#[c]⟩, fun _ => True, fun it i h => h.IsStrIter it (strIterType z) z t i, begins_text z t, trivial, fun b hb => (by cases hb), fun it h e => ⟨_, e, rfl, rfl⟩, fun g' H' m => ⟨trivial, ?_⟩, fun it => ⟨fun i h ⟨o, e, c, d⟩ => ⟨o, e, fun v z => by rw [d] at z; cases z⟩, fun i h h' ⟨o, ho, r⟩ k => ⟨o, k o ho, r⟩, fun Y e1 e2 e3 pins' σ' H' s' I' hC hni => ?_⟩⟩
    · generalize z.cps.toList = l
      induction l with
      | nil => rfl
      | cons c l ih => exact ⟨_, _, rfl, rfl, ih⟩
    · rw [← e1, ← e2]
      refine ⟨fun i v => ∃ c u, z.cps[i]? = some c ∧ v = .str ⟨#[c]⟩ u, fun i h => h.IsStrIter it (strIterType z) z t i, fun A hh => ?_, fun i t => t, fun i h st => st, fun i x ⟨c, u', hc, hx⟩ => ⟨.str ⟨#[c]⟩, ?_, u', hx⟩⟩
      · have D := Draws.text (prog := Y.prog) (w := Y.w) hh it z t
        have e : (z.cps.toList.map fun c => V.str ⟨#[c]⟩).length = z.cps.size := by simp
        rw [e]
        exact D
      · rw [List.getElem?_map]
        have : z.cps.toList[i]? = some c := by rw [← hc]; simp
        rw [this]; rfl
  | non => cases hd
  | bl _ => cases hd
  | int _ => cases hd
  | dct _ => cases hd
  | ref _ => cases hd

/-- enumerate -/
def ItE (C : Hp → Prop) (vs : List V) : It := ⟨fun i H => C H ∧ i < vs.length, fun i H x H' => ∃ T v, x = .ref T ∧ H T = none ∧ H' = upd H T (.tup [.int (i : Nat), v]) ∧ vs[i]? = some v, fun i H => C H ∧ i = vs.length⟩
theorem turn_enumS {P : Program} {w : World} {K : PySem.W.Frag} {elts : List Expr} {kk : Nat} {tpos : Pos} {e it : Addr} {rest : List Addr} {vs : List V} {C : Hp → Prop} {t0 : Nat → Heap → Prop} (Sr : Src P w K it rest vs C t0) (hne : e ≠ it) (her : e ∉ rest) (hir : it ∉ rest) :
    Turn P w K (.Tuple elts kk tpos) (ItE C vs) [e, it] e (fun i h => (∃ old, IsEnum h e it ((i : Nat) : Int) old) ∧ t0 i h) where
  mem := by simp
  obj := fun i h st b hb => by
    obtain ⟨⟨old, he⟩, ht⟩ := st
    have e' : b = e ∨ b = it := by simpa using hb
    rcases e' with z | z
    · rw [z]; exact ⟨_, he, fun v q => nomatch q⟩
    · rw [z]; exact Sr.obj i h ht
  keep := fun i h h' st k => let ⟨⟨old, he⟩, hi⟩ := st; ⟨⟨old, k e (by simp) _ he⟩, Sr.keep i h h' hi fun o q => k it (by simp) o q⟩
  item := by
    intro X hP hw hK hc i pins s σ H E I hf st hg
    subst hP hw hK
    obtain ⟨⟨old, he⟩, hit⟩ := st
    obtain ⟨hC, hlt⟩ := hg
    obtain ⟨Pv, St, D, d1, d2, d3⟩ := Sr.draw X rfl rfl rfl pins σ H s I hC hir
    have hel : e < s.heap.objs.size := Heap.lt_size he
    have hil : it < s.heap.objs.size := by obtain ⟨_, q, _⟩ := Sr.obj i _ hit; exact Heap.lt_size q
    refine wpAny_pyNext_enum_itemD (D X.A.in1 (I.ok.hd hc)) he (d1 i hit) hlt hne (by simp only [List.mem_cons, not_or]; exact ⟨hne, her⟩) fun x h' tk hx ho hit' hT hsz hk => ?_
    obtain ⟨v, hv, ru⟩ := d3 i x hx
    refine ⟨_, rfl, wpAny_letOwnedTupleGo_enum (s := { s with heap := h', toks := tk + 1 }) ho fun h'' he' sb => ?_⟩
    have hT2 : h''.get? s.heap.objs.size = some { cls := .type "tuple", data := .seq #[.int i tk, x] } := (sb.2 _ (Nat.ne_of_gt hel)).trans hT
    have new : ObjOk X.prog X.w (upd H s.heap.objs.size (.tup [.int (i : Nat), v])) h'' s.heap.objs.size (.tup [.int (i : Nat), v]) :=
      ⟨by show 2 ≤ sizeLine; decide, [.int i tk, x], .cons ⟨_, rfl⟩ (.cons ru .nil), ⟨_, hT2, rfl, _, rfl⟩⟩
    have I1 : Inv X pins σ (upd H s.heap.objs.size (.tup [.int (i : Nat), v])) { s with heap := h'', toks := tk + 1 } :=
      I.turnedNew (ch := [e, it]) (fun b ob hb q => (sb.2 b (fun z => hb (by simp [z]))).trans (hk b ob (fun z => hb (by simp [z])) (fun z => hb (by simp [z])) q)) hf (Nat.le_refl _) new
    refine ⟨.ref s.heap.objs.size, _, I1, rfl, ⟨_, v, rfl, I.hok.fresh (Nat.le_refl _), rfl, hv⟩, ⟨⟨x, ?_⟩, Sr.keep _ _ _ (d2 _ _ hit') fun o q => (sb.2 it (Ne.symm hne)).trans q⟩, fun b hb => ?_⟩
    · have e1 : ((i + 1 : Nat) : Int) = (i : Int) + 1 := by omega
      rw [e1]; exact he'
    · have hb' : b < s.heap.objs.size := by
        have e' : b = e ∨ b = it := by simpa using hb
        rcases e' with z | z
        · rw [z]; exact hel
        · rw [z]; exact hil
      rw [upd_ne (Nat.ne_of_lt hb')]
      exact (hf b hb).1
  done := by
    intro X hP hw hK hc i pins s σ H E I hf st hg
    subst hP hw hK
    obtain ⟨⟨old, he⟩, hit⟩ := st
    obtain ⟨hC, rfl⟩ := hg
    obtain ⟨Pv, St, D, d1, d2, d3⟩ := Sr.draw X rfl rfl rfl pins σ H s I hC hir
    obtain ⟨f0, f1, f2, f3, f4, f5⟩ := hf it (by simp)
    exact wpAny_pyNext_enum_endD (D X.A.in1 (I.ok.hd hc)) he (d1 _ hit) fun h' eb => ⟨rfl, I.turned (t' := s.toks) (fun b o hb q => eb b o hb q) f0 f1 f3 f4 f5⟩
  self := fun A i s Q E st h => let ⟨⟨_, he⟩, _⟩ := st; wpAny_pyIter_enum he h
/-- zip -/
def ItZ (C1 C2 : Hp → Prop) (vs ws : List V) : It := ⟨fun i H => (C1 H ∧ C2 H) ∧ i < vs.length ∧ i < ws.length, fun i H x H' => ∃ T v u, x = .ref T ∧ H T = none ∧ H' = upd H T (.tup [v, u]) ∧ vs[i]? = some v ∧ ws[i]? = some u,
  fun i H => (C1 H ∧ C2 H) ∧ i ≤ vs.length ∧ i ≤ ws.length ∧ (i = vs.length ∨ i = ws.length)⟩
theorem turn_zipS {P : Program} {w : World} {K : PySem.W.Frag} {elts : List Expr} {kk : Nat} {tpos : Pos} {z TI TO i1 i2 : Addr} {r1 r2 : List Addr} {vs ws : List V} {C1 C2 : Hp → Prop} {t1 t2 : Nat → Heap → Prop} (S1 : Src P w K i1 r1 vs C1 t1) (S2 : Src P w K i2 r2 ws C2 t2)
    (Z : ZipSep2 z TI TO i1 i2 (i1 :: r1) (i2 :: r2)) (h1 : i1 ∉ r1) (h2 : i2 ∉ r2) :
    Turn P w K (.Tuple elts kk tpos) (ItZ C1 C2 vs ws) [z, TI, TO, i1, i2] z (fun i h => IsZip h z TI TO .none ∧ IsTupOf2 h TI (.ref i1) (.ref i2) ∧ (∃ x y, IsTupOf2 h TO x y) ∧ t1 i h ∧ t2 i h) where
  mem := by simp
  obj := fun i h st c hc => by
    obtain ⟨hz, hTI, ⟨x, y, hTO⟩, k1, k2⟩ := st
    have e' : c = z ∨ c = TI ∨ c = TO ∨ c = i1 ∨ c = i2 := by simpa using hc
    rcases e' with q | q | q | q | q
    · rw [q]; exact ⟨_, hz, fun v q => nomatch q⟩
    · rw [q]; exact ⟨_, hTI, fun v q => nomatch q⟩
    · rw [q]; exact ⟨_, hTO, fun v q => nomatch q⟩
    · rw [q]; exact S1.obj i h k1
    · rw [q]; exact S2.obj i h k2
  keep := fun i h h' st k => by
    obtain ⟨hz, hTI, ⟨x, y, hTO⟩, k1, k2⟩ := st
    exact ⟨k z (by simp) _ hz, k TI (by simp) _ hTI, ⟨x, y, k TO (by simp) _ hTO⟩, S1.keep i h h' k1 fun o q => k i1 (by simp) o q, S2.keep i h h' k2 fun o q => k i2 (by simp) o q⟩
  item := by
    intro X hP hw hK hc i pins s σ H E I hf st hg
    subst hP hw hK
    obtain ⟨hz, hTI, ⟨x0, y0, hTO⟩, k1, k2⟩ := st
    obtain ⟨⟨hC1, hC2⟩, l1, l2⟩ := hg
    obtain ⟨P1, St1, D1, d1, d1', d1''⟩ := S1.draw X rfl rfl rfl pins σ H s I hC1 h1
    obtain ⟨P2, St2, D2, d2, d2', d2''⟩ := S2.draw X rfl rfl rfl pins σ H s I hC2 h2
    have hlt : ∀ b ∈ [z, TI, TO, i1, i2], b < s.heap.objs.size := fun b hb => by
      have e' : b = z ∨ b = TI ∨ b = TO ∨ b = i1 ∨ b = i2 := by simpa using hb
      rcases e' with q | q | q | q | q
      · rw [q]; exact Heap.lt_size hz
      · rw [q]; exact Heap.lt_size hTI
      · rw [q]; exact Heap.lt_size hTO
      · rw [q]; obtain ⟨_, q, _⟩ := S1.obj i _ k1; exact Heap.lt_size q
      · rw [q]; obtain ⟨_, q, _⟩ := S2.obj i _ k2; exact Heap.lt_size q
    refine wpAny_pyNext_zipD2_item Z (D1 X.A.in1 (I.ok.hd hc)) (D2 X.A.in1 (I.ok.hd hc)) hz hTI hTO (d1 i k1) (d2 i k2) l1 l2 fun x1 x2 h' tk q1 q2 hz' hTO' st1 st2 hT hsz hk => ?_
    obtain ⟨v, hv, rv⟩ := d1'' i x1 q1
    obtain ⟨u, hu, ru⟩ := d2'' i x2 q2
    refine ⟨_, rfl, wpAny_letOwnedTupleGo_zip (s := { s with heap := h', toks := tk }) hz' fun h'' hz'' sb => ?_⟩
    have hzl := hlt z (by simp)
    have hT2 : IsTupOf2 h'' s.heap.objs.size x1 x2 := (sb.2 _ (Nat.ne_of_gt hzl)).trans hT
    have new : ObjOk X.prog X.w (upd H s.heap.objs.size (.tup [v, u])) h'' s.heap.objs.size (.tup [v, u]) :=
      ⟨by show 2 ≤ sizeLine; decide, [x1, x2], .cons rv (.cons ru .nil), ⟨_, hT2, rfl, _, rfl⟩⟩
    have I1 : Inv X pins σ (upd H s.heap.objs.size (.tup [v, u])) { s with heap := h'', toks := tk } :=
      I.turnedNew (ch := [z, TI, TO, i1, i2]) (fun b ob hb q => (sb.2 b (fun e => hb (by simp [e]))).trans (hk b ob (fun e => hb (by simp [e])) (fun e => hb (by simp [e])) (fun e => hb (by simp [e])) (fun e => hb (by simp [e])) q)) hf (Nat.le_refl _) new
    refine ⟨.ref s.heap.objs.size, _, I1, rfl, ⟨_, v, u, rfl, I.hok.fresh (Nat.le_refl _), rfl, hv, hu⟩, ⟨hz'', ?_, ⟨x1, x2, (sb.2 _ Z.TOz).trans hTO'⟩, S1.keep _ _ _ (d1' _ _ st1) fun o q => (sb.2 i1 (Ne.symm Z.zi1)).trans q, S2.keep _ _ _ (d2' _ _ st2) fun o q => (sb.2 i2 (Ne.symm Z.zi2)).trans q⟩, fun b hb => ?_⟩
    · exact (sb.2 _ Z.TIz).trans (hk TI _ Z.TIz Z.TITO Z.TIi1 Z.TIi2 hTI)
    · rw [upd_ne (Nat.ne_of_lt (hlt b hb))]
      exact (hf b hb).1
  done := by
    intro X hP hw hK hc i pins s σ H E I hf st hg
    subst hP hw hK
    obtain ⟨hz, hTI, ⟨x0, y0, hTO⟩, k1, k2⟩ := st
    obtain ⟨⟨hC1, hC2⟩, l1, l2, he⟩ := hg
    obtain ⟨P1, St1, D1, d1, d1', d1''⟩ := S1.draw X rfl rfl rfl pins σ H s I hC1 h1
    obtain ⟨P2, St2, D2, d2, d2', d2''⟩ := S2.draw X rfl rfl rfl pins σ H s I hC2 h2
    exact wpAny_pyNext_zipD2_end Z (D1 X.A.in1 (I.ok.hd hc)) (D2 X.A.in1 (I.ok.hd hc)) hz hTI hTO (d1 i k1) (d2 i k2) l1 l2 he fun h' tk hk => ⟨rfl, I.turnedL (ch := [z, TI, TO, i1, i2]) (fun c o hb q =>
      hk c o (fun q' => hb (by simp [q'])) (fun q' => hb (by simp [q'])) (fun q' => hb (by simp [q'])) (fun q' => hb (by simp [q'])) q) hf⟩
  self := fun A i s Q E st h => wpAny_pyIter_zip st.1 h
end
end Dn


/-! Dn16 -/
set_option Elab.async false
set_option linter.all false
set_option maxRecDepth 100000
set_option maxHeartbeats 1000000
namespace PySem
open Sem (wp)
set_option maxHeartbeats 1000000 in
theorem dn_meets_enum {v : Value} {o : Obj} {H : Heap → Prop} (B : Begins v o H) :
    Meets (Builtin.«enumerate.__new__» ⟨[.type "enumerate", v], []⟩) (fun _ R s => H s.heap ∧
      R (.ok (.ret (.ref (s.heap.push o).objs.size))) { s with heap := (s.heap.push o).push { cls := .type "enumerate", data := .fields #[.none, .bool false, .ref s.heap.objs.size, rawInt 0, .none, .none] } }) :=
  .of_wp fun prog w A R s h => by
    obtain ⟨hp, g, d, tk, os⟩ := s; obtain ⟨h1, h⟩ := h
    have hsub := sub_enumerate
    have q1 : ∀ {A' : Around} {E : Value → Shared → Prop} {Q : Value → Shared → Prop}, Q (.ref hp.objs.size) ⟨hp.push o, g, d, tk, os⟩ → wpAny (model prog w) A' (pyIter v) Q E ⟨hp, g, d, tk, os⟩ :=
      fun q => B.iter prog w _ _ ⟨hp, g, d, tk, os⟩ _ h1 q
    wp_walk using q1
    refine wpAny_stack_any fun st => wpAny_pure ?_
    split
    · rename_i c _ _ _ _ _
      cases (c == Value.type "enumerate")
      · wp_walk using q1
        exact ⟨_, rfl, h⟩
      · wp_walk using q1
        exact ⟨_, rfl, h⟩
    · wp_walk using q1
      exact ⟨_, rfl, h⟩
section
variable {prog : Program} {w : World} {A : Around} {E : Value → Shared → Prop} {s : Shared}
theorem dn_enum_begins {v : Value} {o : Obj} {H : Heap → Prop} {Q : Value → Shared → Prop} (B : Begins v o H) (h1 : H s.heap)
    (h : ∀ h', IsEnum h' (s.heap.objs.size + 1) s.heap.objs.size 0 .none → h'.get? s.heap.objs.size = some o → h'.objs.size = s.heap.objs.size + 2 →
      (∀ b o, s.heap.get? b = some o → h'.get? b = some o) → Q (.ref (s.heap.objs.size + 1)) { s with heap := h' }) :
    wpAny (model prog w) A (call (.type "enumerate") [v]) Q E s := by
  refine callType_new F.called_enumerate (by decide) (F.typeCall_enumerate_1 _) (F.newCall_enumerate_1 _) (fun obj => F.args_object_init_2 obj _) F.entry_enumerate_new
    (dn_meets_enum B) ⟨h1, ?_⟩
  have hz : (s.heap.push o).objs.size = s.heap.objs.size + 1 := Heap.size_push ..
  show _ ∧ _
  rw [hz]
  have he : IsEnum ((s.heap.push o).push { cls := .type "enumerate", data := .fields #[.none, .bool false, .ref s.heap.objs.size, rawInt 0, .none, .none] }) (s.heap.objs.size + 1) s.heap.objs.size 0 .none := by
    have := Heap.get?_push_size (s.heap.push o) (o := { cls := .type "enumerate", data := .fields #[.none, .bool false, .ref s.heap.objs.size, rawInt 0, .none, .none] }) rfl
    rw [hz] at this; exact this
  refine ⟨⟨_, he, rfl⟩, h _ he (Heap.get?_push_of_some _ (Heap.get?_push_size _ B.free)) (by rw [Heap.size_push, hz]) fun b o x => Heap.get?_push_of_some _ (Heap.get?_push_of_some _ x)⟩
end
end PySem
namespace Dn
open PySem PySem.Spec PyProof.Rows L2
def enumL : Nat → List D → List D
  | _, [] => []
  | i, d :: l => .tup [.int (i : Nat), d] :: enumL (i + 1) l
theorem enumL_get : ∀ (l : List D) (k i : Nat), (enumL k l)[i]? = (l[i]?).map fun d => .tup [.int ((k + i : Nat) : Int), d]
  | [], k, i => by simp [enumL]
  | d :: l, k, 0 => by simp [enumL]
  | d :: l, k, i + 1 => by
    show (enumL (k + 1) l)[i]? = (l[i]?).map _
    rw [enumL_get l (k + 1) i]
    have e : k + 1 + i = k + (i + 1) := by omega
    rw [e]
theorem enumL_len : ∀ (l : List D) (k : Nat), (enumL k l).length = l.length
  | [], _ => rfl
  | d :: l, k => by simp [enumL, enumL_len l (k + 1)]
def fEnum : List D → Option (List D)
  | [d] => match iterD d with
    | some l => some (enumL 0 l)
    | none => none
  | _ => none
def zipL : List D → List D → List D
  | a :: l, b :: m => .tup [a, b] :: zipL l m
  | _, _ => []
theorem zipL_get : ∀ (l m : List D) (i : Nat), (zipL l m)[i]? = match l[i]?, m[i]? with
    | some a, some b => some (.tup [a, b])
    | _, _ => none
  | [], m, i => by simp [zipL]
  | a :: l, [], i => by cases i <;> simp [zipL]
  | a :: l, b :: m, 0 => by simp [zipL]
  | a :: l, b :: m, i + 1 => by
    show (zipL l m)[i]? = _
    rw [zipL_get l m i]
    rfl
theorem zipL_len : ∀ (l m : List D), (zipL l m).length = min l.length m.length
  | [], m => by simp [zipL]
  | a :: l, [] => by simp [zipL]
  | a :: l, b :: m => by simp [zipL, zipL_len l m]
def fZip : List D → Option (List D)
  | [a, b] => match iterD a, iterD b with
    | some l, some m => some (zipL l m)
    | _, _ => none
  | _ => none
def eWalk (f : List D → Option (List D)) (fs : M (List D)) : M (List D) := bindM fs (pureF f)
section
variable {X : Cx} {W : WX} {tg : Expr} {pos p : Pos}
theorem walkE {C : Hp → Prop} {ds : List D} {vs : List V} {g : Gh} {H : Hp} (h : ∀ g' H', MonoG g H g' H' → C H' ∧ Reps (gm X) g' H' ds vs) : WalkOk (gm X) (ItE C vs) (enumL 0 ds) g H := fun i g' H' m => by
  obtain ⟨hC, rs⟩ := h g' H' m
  have hl := rs.length
  refine ⟨fun d hd => ?_, fun hi => ⟨hC, by rw [hi, enumL_len, hl]⟩⟩
  rw [enumL_get] at hd
  cases hc : ds[i]? with
  | none => rw [hc] at hd; cases hd
  | some c =>
    rw [hc] at hd
    cases hd
    obtain ⟨x, hx, rx⟩ := rs.get hc
    have hlt : i < vs.length := (List.getElem?_eq_some_iff.mp hx).1
    refine ⟨⟨hC, hlt⟩, fun y H'' ⟨T, v, e1, hT, e2, hv⟩ => .inr ⟨T, [.int (i : Nat), v], [.int ((0 + i : Nat) : Int), c], hT, e1, e2, rfl, ?_⟩⟩
    rw [hx] at hv
    cases hv
    refine ⟨_, _, rfl, ?_, _, _, rfl, rx, rfl⟩
    show V.int (i : Nat) = V.int ((0 + i : Nat) : Int)
    rw [Nat.zero_add]
theorem walkZ {C1 C2 : Hp → Prop} {ds es : List D} {vs ws : List V} {g : Gh} {H : Hp} (h : ∀ g' H', MonoG g H g' H' → C1 H' ∧ Reps (gm X) g' H' ds vs) (h2 : ∀ g' H', MonoG g H g' H' → C2 H' ∧ Reps (gm X) g' H' es ws) : WalkOk (gm X) (ItZ C1 C2 vs ws) (zipL ds es) g H := fun i g' H' m => by
  obtain ⟨hC, rs⟩ := h g' H' m
  obtain ⟨hC2, rs2⟩ := h2 g' H' m
  have hl := rs.length
  have hl2 := rs2.length
  refine ⟨fun d hd => ?_, fun hi => ⟨⟨hC, hC2⟩, by rw [hi, zipL_len, hl]; exact Nat.min_le_left _ _, by rw [hi, zipL_len, hl2]; exact Nat.min_le_right _ _, by rw [hi, zipL_len, hl, hl2]; omega⟩⟩
  rw [zipL_get] at hd
  split at hd
  · rename_i a b ha hb
    cases hd
    obtain ⟨x, hx, rx⟩ := rs.get ha
    obtain ⟨y, hy, ry⟩ := rs2.get hb
    have hlt : i < vs.length := (List.getElem?_eq_some_iff.mp hx).1
    have hlt2 : i < ws.length := (List.getElem?_eq_some_iff.mp hy).1
    refine ⟨⟨⟨hC, hC2⟩, hlt, hlt2⟩, fun z H'' ⟨T, v, u, e1, hT, e2, hv, hu⟩ => .inr ⟨T, [v, u], [a, b], hT, e1, e2, rfl, ?_⟩⟩
    rw [hx] at hv
    rw [hy] at hu
    cases hv
    cases hu
    exact ⟨_, _, rfl, rx, _, _, rfl, ry, rfl⟩
  · cases hd
theorem di_enum {a : Expr} {es : List Expr} {fs : M (List D)} {elts : List Expr} {kk : Nat} {tpos : Pos} (hg : Gl X "enumerate") (hm : X.mg "enumerate" = none) (ha : DAd X W (a :: es) fs) (hs : starEach (a :: es) X.env = (false, eval a X.env) :: starEach es X.env) (hpl : (backTo pos (starEach es X.env)).any (·.1) = false) :
    DI X W (.Tuple elts kk tpos) (.Call (.Name "enumerate" p) (a :: es) [] pos) (eWalk fEnum fs) := by
  intro pins s σ H e g env st I S ask
  refine Call_ (ld_blt I.i hg hm boot_enumerate (PyProof.Rows.callWith_type1 (di_bind (G := fun res us s1 => wpAny _ _ (call (.type "enumerate") us) (fun v s1 => wpAny _ _ (pyIter v) (DoneI X pins σ e g H env (.Tuple elts kk tpos) res) _ s1) _ s1) (ha pos pins s σ H e g env st I S) ask fun ds s' us s1 _ hd ask2 => ?_) hs hpl))
  obtain ⟨g1, H1, I1, S1, x1, vs, rv, q⟩ := hd
  obtain ⟨ws, hds, hres⟩ := ask_pure ask2
  rw [hres]
  unfold fEnum at hds
  split at hds
  · rename_i d
    split at hds
    · rename_i l hl
      cases hds
      obtain ⟨v, vr, rfl, q1, q2⟩ := q
      cases (q2 : vr = [])
      obtain ⟨u, rfl, ru⟩ := rv.one
      obtain ⟨o, Hc, rest, vs, C, t0, So⟩ := src_of I1 hl q1 ru
      refine dn_enum_begins So.beg So.hc fun h' he ho hsz hk => wpAny_pyIter_enum he ?_
      have I2 : Inv X pins σ H1 { s1 with heap := h' } := I1.i.kept (t' := s1.toks) hk
      have hr1 : s1.heap.objs.size + 1 ∉ rest := fun z => absurd (So.restLt _ z) (show ¬ (s1.heap.objs.size + 1 < s1.heap.objs.size) by omega)
      have hr2 : s1.heap.objs.size ∉ rest := fun z => absurd (So.restLt _ z) (Nat.lt_irrefl _)
      refine ⟨s1.heap.objs.size + 1, [s1.heap.objs.size + 1, s1.heap.objs.size], _, _, g1, H1, rfl, ⟨I2, I1.t⟩, S1, x1, turn_enumS (So.src s1.heap.objs.size) (Nat.succ_ne_self _) hr1 hr2, ⟨⟨.none, he⟩, So.start _ _ ho⟩, fun b hb => ?_, walkE So.later⟩
      have e' : b = s1.heap.objs.size + 1 ∨ b = s1.heap.objs.size := by simpa using hb
      have hle : s1.heap.objs.size ≤ b := by
        rcases e' with z | z
        · rw [z]; exact Nat.le_add_right _ _
        · rw [z]; exact Nat.le_refl _
      exact I1.i.fpOk hle (I1.i.hok.fresh hle)
    · cases hds
  · cases hds
theorem di_zip {a : Expr} {es : List Expr} {fs : M (List D)} {elts : List Expr} {kk : Nat} {tpos : Pos} (hg : Gl X "zip") (hm : X.mg "zip" = none) (ha : DAd X W (a :: es) fs) (hs : starEach (a :: es) X.env = (false, eval a X.env) :: starEach es X.env) (hpl : (backTo pos (starEach es X.env)).any (·.1) = false) :
    DI X W (.Tuple elts kk tpos) (.Call (.Name "zip" p) (a :: es) [] pos) (eWalk fZip fs) := by
  intro pins s σ H e g env st I S ask
  refine Call_ (ld_blt I.i hg hm PyProof.Rows.boot_zip (PyProof.Rows.callWith_type1 (di_bind (G := fun res us s1 => wpAny _ _ (call (.type "zip") us) (fun v s1 => wpAny _ _ (pyIter v) (DoneI X pins σ e g H env (.Tuple elts kk tpos) res) _ s1) _ s1) (ha pos pins s σ H e g env st I S) ask fun ds s' us s1 _ hd ask2 => ?_) hs hpl))
  obtain ⟨g1, H1, I1, S1, x1, vs, rv, q⟩ := hd
  obtain ⟨ws, hds, hres⟩ := ask_pure ask2
  rw [hres]
  unfold fZip at hds
  split at hds
  · rename_i d1 d2
    split at hds
    · rename_i l m hl hm'
      cases hds
      obtain ⟨v, vr, rfl, q1, w, vr2, rfl, q2, q3⟩ := q
      cases (q3 : vr2 = [])
      obtain ⟨u1, u2, rfl, ru1, ru2⟩ := rv.two
      obtain ⟨o1, Hc1, rest1, vs1, C1, t1, So1⟩ := src_of I1 hl q1 ru1
      obtain ⟨o2, Hc2, rest2, vs2, C2, t2, So2⟩ := src_of I1 hm' q2 ru2
      refine zip_begins2 So1.beg So2.beg So1.hc So2.hc fun h' hz hTI hTO h1 h2 hsz hk => wpAny_pyIter_zip hz ?_
      have I2 : Inv X pins σ H1 { s1 with heap := h' } := I1.i.kept (t' := s1.toks) hk
      have hr1 : s1.heap.objs.size ∉ rest1 := fun z => absurd (So1.restLt _ z) (Nat.lt_irrefl _)
      have hr2 : s1.heap.objs.size + 1 ∉ rest2 := fun z => absurd (So2.restLt _ z) (show ¬ (s1.heap.objs.size + 1 < s1.heap.objs.size) by omega)
      refine ⟨s1.heap.objs.size + 4, [s1.heap.objs.size + 4, s1.heap.objs.size + 2, s1.heap.objs.size + 3, s1.heap.objs.size, s1.heap.objs.size + 1], _, _, g1, H1, rfl, ⟨I2, I1.t⟩, S1, x1, turn_zipS (So1.src s1.heap.objs.size) (So2.src (s1.heap.objs.size + 1)) (zip_sep2 So1.restLt So2.restLt) hr1 hr2,
        ⟨hz, hTI, ⟨_, _, hTO⟩, So1.start _ _ h1, So2.start _ _ h2⟩, fun c hcm => ?_, walkZ So1.later So2.later⟩
      have e' : c = s1.heap.objs.size + 4 ∨ c = s1.heap.objs.size + 2 ∨ c = s1.heap.objs.size + 3 ∨ c = s1.heap.objs.size ∨ c = s1.heap.objs.size + 1 := by simpa using hcm
      have hle : s1.heap.objs.size ≤ c := by
        rcases e' with z | z | z | z | z
        · rw [z]; exact Nat.le_add_right _ _
        · rw [z]; exact Nat.le_add_right _ _
        · rw [z]; exact Nat.le_add_right _ _
        · rw [z]; exact Nat.le_refl _
        · rw [z]; exact Nat.le_add_right _ _
      exact I1.i.fpOk hle (I1.i.hok.fresh hle)
    · cases hds
  · cases hds
end
end Dn


/-! Dn17 -/
set_option Elab.async false
set_option linter.all false
set_option maxRecDepth 100000
set_option maxHeartbeats 1000000
namespace Dn
open PySem PySem.Spec PyProof.Rows L2

/-! ### a block's own names -/
def wipeE (env : List Slot) : List Nat → List Slot
  | [] => env
  | i :: is => (wipeE env is).set i .un
def mergeE (env0 env1 : List Slot) : List Nat → List Slot
  | [] => env1
  | i :: is => (mergeE env0 env1 is).set i (match env0[i]? with | some x => x | none => .un)
theorem wipeE_len (env : List Slot) : ∀ is, (wipeE env is).length = env.length
  | [] => rfl
  | i :: is => by simp [wipeE, wipeE_len env is]
theorem mergeE_len (env0 env1 : List Slot) : ∀ is, (mergeE env0 env1 is).length = env1.length
  | [] => rfl
  | i :: is => by simp [mergeE, mergeE_len env0 env1 is]
theorem wipeE_get {env : List Slot} {j : Nat} {x : Slot} (hx : x ≠ .un) : ∀ {is : List Nat}, (wipeE env is)[j]? = some x → env[j]? = some x ∧ j ∉ is
  | [], h => ⟨h, by simp⟩
  | i :: is, h => by
    rcases set_get' h with ⟨_, z, _⟩ | ⟨ne, z⟩
    · exact absurd z hx
    · obtain ⟨h1, h2⟩ := wipeE_get hx z
      exact ⟨h1, by simp only [List.mem_cons, not_or]; exact ⟨ne, h2⟩⟩
theorem wipeE_of {env : List Slot} {j : Nat} {x : Slot} : ∀ {is : List Nat}, env[j]? = some x → j ∉ is → (wipeE env is)[j]? = some x
  | [], h, _ => h
  | i :: is, h, hn => by
    simp only [List.mem_cons, not_or] at hn
    show ((wipeE env is).set i .un)[j]? = _
    rw [List.getElem?_set_ne (Ne.symm hn.1)]
    exact wipeE_of h hn.2
theorem wipe_get {σ : L2.St} {j : Nat} : ∀ {is : List Nat}, j ∉ is → (wipe σ is)[j]? = σ[j]?
  | [], _ => rfl
  | i :: is, hn => by
    simp only [List.mem_cons, not_or] at hn
    show ((wipe σ is).set i none)[j]? = _
    rw [List.getElem?_set_ne (Ne.symm hn.1)]
    exact wipe_get hn.2
theorem mergeE_get {env0 env1 : List Slot} {j : Nat} {x : Slot} (hx : x ≠ .un) : ∀ {is : List Nat}, (mergeE env0 env1 is)[j]? = some x → (j ∉ is ∧ env1[j]? = some x) ∨ (j ∈ is ∧ env0[j]? = some x)
  | [], h => .inl ⟨by simp, h⟩
  | i :: is, h => by
    rcases set_get' h with ⟨e, z, _⟩ | ⟨ne, z⟩
    · refine .inr ⟨by simp [e], ?_⟩
      rw [e]
      cases q : env0[i]? with
      | none => rw [q] at z; exact absurd z hx
      | some y => rw [q] at z; rw [z]
    · rcases mergeE_get hx z with ⟨h1, h2⟩ | ⟨h1, h2⟩
      · exact .inl ⟨by simp only [List.mem_cons, not_or]; exact ⟨ne, h1⟩, h2⟩
      · exact .inr ⟨by simp [h1], h2⟩
theorem OwnedAt.wiped {env : List Slot} {σ : L2.St} {is : List Nat} {a : Addr} (h : OwnedAt (wipeE env is) (wipe σ is) a) : ∃ (i : Nat) (d : D), i ∉ is ∧ env[i]? = some (.own d) ∧ σ[i]? = some (some (.ref a)) := by
  obtain ⟨i, d, h1, h2⟩ := h
  obtain ⟨h3, h4⟩ := wipeE_get (by simp) h1
  rw [wipe_get h4] at h2
  exact ⟨i, d, h4, h3, h2⟩
theorem OwnedAt.unwipe {env : List Slot} {σ : L2.St} {is : List Nat} {a : Addr} (h : OwnedAt (wipeE env is) (wipe σ is) a) : OwnedAt env σ a := by
  obtain ⟨i, d, _, h1, h2⟩ := h.wiped
  exact ⟨i, d, h1, h2⟩
theorem wipe_idem {σ : L2.St} {is : List Nat} {j : Nat} {x : V} (h : (wipe σ is)[j]? = some (some x)) : j ∉ is := (wipe_some h).2
section
variable {G : Gm} {e : Ent} {g g1 : Gh} {σ σ1 : L2.St} {H H1 : Hp} {env env1 : List Slot} {st st1 : List SO} {is : List Nat}
theorem Sim.wipe (S : Sim G e g σ H env st) : Sim G e g (L2.wipe σ is) H (wipeE env is) st := by
  refine ⟨S.keep, S.fNew, S.fOld, S.ρx, S.ρnd, S.ρF, S.fIn, by rw [wipeE_len, wipe_length]; exact S.len, fun i d h => ?_, fun i d h => ?_, fun i j d d' a n h1 h2 h3 => ?_, S.slen, S.sto⟩
  · obtain ⟨h1, h2⟩ := wipeE_get (by simp) h
    rw [wipe_get h2]
    exact S.val i d h1
  · obtain ⟨h1, h2⟩ := wipeE_get (by simp) h
    rw [wipe_get h2]
    exact S.own i d h1
  · obtain ⟨k1, k2⟩ := wipeE_get (by simp) h1
    obtain ⟨k3, k4⟩ := wipeE_get (by simp) h2
    rw [wipe_get k2] at h3
    rw [wipe_get k4]
    exact S.ownNe i j d d' a n k1 k3 h3
/-- what a block did, seen from where it began -/
structure InBlk (σ : L2.St) (env : List Slot) (is : List Nat) (g : Gh) (H : Hp) (g1 : Gh) (H1 : Hp) (env1 : List Slot) : Prop where
  F : ∀ a, g.F a → g1.F a
  ρ : ∃ more, g1.ρ = g.ρ ++ more ∧ ∀ a ∈ more, H a = none
  keep : ∀ a o, H a = some o → a ∉ g.ρ → H1 a = some o
  fnew : ∀ a, g1.F a → g.F a ∨ H a = none ∨ OwnedAt (wipeE env is) (L2.wipe σ is) a
  owned : ∀ a, OwnedAt env1 (L2.wipe σ is) a → OwnedAt (wipeE env is) (L2.wipe σ is) a
theorem InBlk.start : InBlk σ env is g H g H (wipeE env is) := ⟨fun _ h => h, ⟨[], by simp, by simp⟩, fun _ _ h _ => h, fun _ h => .inl h, fun _ h => h⟩
/-- a step more, of the block -/
theorem InBlk.step {g2 : Gh} {H2 : Hp} {env2 env1' : List Slot} {σ1 : L2.St} (b : InBlk σ env is g H g1 H1 env1) (S1 : Sim G e g1 σ1 H1 env1' st1) (ho : ∀ a, OwnedAt env1' σ1 a → OwnedAt env1 (L2.wipe σ is) a) (x : Step σ1 g1 H1 env1' g2 H2 env2)
    {env3 : List Slot} (hw : ∀ a, OwnedAt env3 (L2.wipe σ is) a → OwnedAt env2 σ1 a) : InBlk σ env is g H g2 H2 env3 := by
  obtain ⟨m1, e1, n1⟩ := b.ρ
  obtain ⟨m2, e2, n2⟩ := x.ρ
  have up : ∀ {a : Addr}, H1 a = none → H a = none := fun {a} h => by
    cases q : H a with
    | none => rfl
    | some o =>
      exfalso
      by_cases z : a ∈ g.ρ
      · exact S1.ρIn (by rw [e1]; exact List.mem_append_left _ z) h
      · have q1 := b.keep a o q z
        rw [h] at q1; cases q1
  refine ⟨fun a h => x.F a (b.F a h), ⟨m1 ++ m2, by rw [e2, e1, List.append_assoc], fun a h => ?_⟩, fun a o h z => ?_, fun a h => ?_, fun a h => ?_⟩
  · rcases List.mem_append.mp h with h | h
    · exact n1 a h
    · exact up (n2 a h)
  · have h1 := b.keep a o h z
    refine x.keep a o h1 fun z1 => ?_
    rw [e1] at z1
    rcases List.mem_append.mp z1 with z1 | z1
    · exact z z1
    · have := n1 a z1
      rw [h] at this; cases this
  · rcases x.fnew a h with h | h | h
    · exact b.fnew a h
    · exact .inr (.inl (up h))
    · exact .inr (.inr (b.owned a (ho a h)))
  · exact b.owned a (ho a (x.owned a (hw a h)))
/-- back in the def -/
theorem InBlk.back (S : Sim G e g σ H env st) (b : InBlk σ env is g H g1 H1 env1) (S1 : Sim G e g1 (L2.wipe σ is) H1 env1 st1) : Sim G e g1 σ H1 (mergeE env env1 is) st1 ∧ Step σ g H env g1 H1 (mergeE env env1 is) := by
  have m : MonoG g H g1 H1 := by
    obtain ⟨more, e1, _⟩ := b.ρ
    refine ⟨b.F, fun a o f h => b.keep a o h fun mm => S1.ρF a (by rw [e1]; exact List.mem_append_left _ mm) (b.F a f), fun n a h => ?_⟩
    rw [e1, List.getElem?_append_left (List.getElem?_eq_some_iff.mp h).1]
    exact h
  obtain ⟨more, e1, hn⟩ := b.ρ
  have back : ∀ (i : Nat) (d : D), (mergeE env env1 is)[i]? = some (.own d) → (i ∉ is ∧ env1[i]? = some (.own d)) ∨ (i ∈ is ∧ env[i]? = some (.own d)) := fun i d h => mergeE_get (by simp) h
  have notW : ∀ {i : Nat} {d : D} {a : Addr}, i ∈ is → env[i]? = some (.own d) → σ[i]? = some (some (.ref a)) → ¬ OwnedAt (wipeE env is) (L2.wipe σ is) a := fun {i d a} hi h1 h2 z => by
    obtain ⟨j, d', hj, h3, h4⟩ := z.wiped
    exact S.ownNe i j d d' a (fun e => hj (by rw [← e]; exact hi)) h1 h3 h2 h4
  refine ⟨⟨S1.keep, S1.fNew, S1.fOld, S1.ρx, S1.ρnd, S1.ρF, S1.fIn, ?_, fun i d h => ?_, fun i d h => ?_, fun i j d d' a n h1 h2 h3 => ?_, S1.slen, S1.sto⟩, ⟨b.F, b.ρ, b.keep, fun a f => ?_, fun a h => ?_⟩⟩
  · rw [mergeE_len]
    have := S1.len
    rw [wipe_length] at this
    exact this
  · rcases mergeE_get (by simp) h with ⟨h1, h2⟩ | ⟨h1, h2⟩
    · obtain ⟨v, k1, k2⟩ := S1.val i d h2
      rw [wipe_get h1] at k1
      exact ⟨v, k1, k2⟩
    · obtain ⟨v, k1, k2⟩ := S.val i d h2
      exact ⟨v, k1, k2.mono m⟩
  · rcases back i d h with ⟨h1, h2⟩ | ⟨h1, h2⟩
    · obtain ⟨a, k1, k2⟩ := S1.own i d h2
      rw [wipe_get h1] at k1
      exact ⟨a, k1, k2⟩
    · obtain ⟨a, k1, k2, k3, k4, k5⟩ := S.own i d h2
      refine ⟨a, k1, k2.mono m fun o ho => b.keep a o ho k4, fun f => ?_, fun z => ?_, k5⟩
      · rcases b.fnew a f with f | f | f
        · exact k3 f
        · exact k2.some f
        · exact notW h1 h2 k1 f
      · rw [e1] at z
        rcases List.mem_append.mp z with z | z
        · exact k4 z
        · exact k2.some (hn a z)
  · intro h4
    rcases back i d h1 with ⟨b1, b2⟩ | ⟨b1, b2⟩
    · rcases back j d' h2 with ⟨c1, c2⟩ | ⟨c1, c2⟩
      · exact S1.ownNe i j d d' a n b2 c2 (by rw [wipe_get b1]; exact h3) (by rw [wipe_get c1]; exact h4)
      · exact notW c1 c2 h4 (b.owned a ⟨i, d, b2, by rw [wipe_get b1]; exact h3⟩)
    · rcases back j d' h2 with ⟨c1, c2⟩ | ⟨c1, c2⟩
      · exact notW b1 b2 h3 (b.owned a ⟨j, d', c2, by rw [wipe_get c1]; exact h4⟩)
      · exact S.ownNe i j d d' a n b2 c2 h3 h4
  · rcases b.fnew a f with f | f | f
    · exact .inl f
    · exact .inr (.inl f)
    · exact .inr (.inr f.unwipe)
  · obtain ⟨i, d, h1, h2⟩ := h
    rcases back i d h1 with ⟨b1, b2⟩ | ⟨b1, b2⟩
    · exact (b.owned a ⟨i, d, b2, by rw [wipe_get b1]; exact h2⟩).unwipe
    · exact ⟨i, d, b2, h2⟩
end

/-! ### a block's target -/
def relC (is : List Nat) (g : Gh) (H : Hp) (σ : L2.St) (env : List Slot) : RelS Unit Unit := fun _ g1 σ1 H1 env1 _ _ _ => g1 = g ∧ H1 = H ∧ (∀ b, OwnedAt env1 σ1 b → OwnedAt env σ b) ∧ wipe σ1 is = wipe σ is ∧ wipeE env1 is = wipeE env is
def DGc (X : Cx) (W : WX) (is : List Nat) (tg : Expr) (a : R → M Unit) : Prop :=
  ∀ (pins : List (Addr × Obj)) (s : Shared) (σ : L2.St) (H : Hp) (e : Ent) (g : Gh) (env : List Slot) (st : List SO) (d : D) (v : V) (u : Value), Iv X pins σ H s → Sim (gm X) e g σ H env st → RelV v u → Rep (gm X) g H d v →
    WPs X W pins e g H (relC is g H σ env) (a (.val d) ⟨env, st⟩) (fun Q => wpAny (model X.prog X.w) X.A (assign tg X.env u) Q X.xe s)
def DGcs (X : Cx) (W : WX) (is : List Nat) (ts : List Expr) (a : List D → M Unit) : Prop :=
  ∀ (pins : List (Addr × Obj)) (s : Shared) (σ : L2.St) (H : Hp) (e : Ent) (g : Gh) (env : List Slot) (st : List SO) (l : List D) (us : List Value), Iv X pins σ H s → Sim (gm X) e g σ H env st → (∃ vs, Vals vs us ∧ Reps (gm X) g H l vs) →
    WPs X W pins e g H (relC is g H σ env) (a l ⟨env, st⟩) (fun Q => wpAny (model X.prog X.w) X.A (assignInOrder ((assignEach ts X.env).map (·.2)) us) Q X.xe s)
theorem wipe_set {σ : L2.St} {i : Nat} {x : Option V} : ∀ {is : List Nat}, i ∈ is → wipe (σ.set i x) is = wipe σ is
  | [], h => by cases h
  | j :: is, h => by
    show (wipe (σ.set i x) is).set j none = (wipe σ is).set j none
    by_cases hj : i ∈ is
    · rw [wipe_set hj]
    · have e : i = j := by simpa [hj] using h
      subst e
      have : wipe (σ.set i x) is = (wipe σ is).set i x := by
        clear h
        induction is with
        | nil => rfl
        | cons k is ih =>
          simp only [List.mem_cons, not_or] at hj
          show (wipe (σ.set i x) is).set k none = ((wipe σ is).set k none).set i x
          rw [ih hj.2, List.set_comm _ _ hj.1]
      rw [this, List.set_set]
theorem wipeE_set {env : List Slot} {i : Nat} {x : Slot} : ∀ {is : List Nat}, i ∈ is → wipeE (env.set i x) is = wipeE env is
  | [], h => by cases h
  | j :: is, h => by
    show (wipeE (env.set i x) is).set j .un = (wipeE env is).set j .un
    by_cases hj : i ∈ is
    · rw [wipeE_set hj]
    · have e : i = j := by simpa [hj] using h
      subst e
      have : wipeE (env.set i x) is = (wipeE env is).set i x := by
        clear h
        induction is with
        | nil => rfl
        | cons k is ih =>
          simp only [List.mem_cons, not_or] at hj
          show (wipeE (env.set i x) is).set k .un = ((wipeE env is).set k .un).set i x
          rw [ih hj.2, List.set_comm _ _ hj.1]
      rw [this, List.set_set]
section
variable {X : Cx} {W : WX} {pos : Pos} {x : Str} {i : Nat} {is : List Nat}
theorem dgc_name (hN : X.N.Nodup) (hi : X.N[i]? = some x) (hx : Loc X.env.scope x) (hf : X.fn x = true ∨ X.env.scope.names.lookup x = some .local) (hm : i ∈ is) : DGc X W is (.Name x pos) (asgM i) := by
  intro pins s σ H e g env st d v u I S rv rp
  refine WPs.imp (tr := fun Q => wpAny (model X.prog X.w) X.A (storeName X.env x u) Q X.xe s) ?_ (fun Q q => wpAny_assign_Name q)
  show wpAny _ _ _ _ _ _
  refine tkn I.t (store_ok (Q := fun _ s' => Inv X pins (σ.set i (some v)) H s') I.i hN hi hx rv (fun s' I' => I') hf) fun _ s' ht I' => ⟨_, g, H, ⟨I', ht⟩, S.setV rp, .refl, rfl, rfl, fun b h => ?_, wipe_set hm, wipeE_set hm⟩
  rcases h.put S.len with h | ⟨h, _⟩
  · exact h
  · cases h
theorem dgcs_nil : DGcs X W is [] gsNil := by
  intro pins s σ H e g env st l us I S ⟨vs, rv, q⟩
  cases l with
  | nil =>
    cases (q : vs = [])
    cases rv
    exact assignInOrder_nil ⟨σ, g, H, I, S, .refl, rfl, rfl, fun _ h => h, rfl, rfl⟩
  | cons d l => trivial
theorem dgcs_cons {t : Expr} {ts : List Expr} {a : R → M Unit} {as : List D → M Unit} (h1 : DGc X W is t a) (h2 : DGcs X W is ts as) (hs : (assignEach (t :: ts) X.env).map (·.2) = assign t X.env :: (assignEach ts X.env).map (·.2)) : DGcs X W is (t :: ts) (gsCons a as) := by
  intro pins s σ H e g env st l us I S ⟨vs, rv, q⟩
  cases l with
  | nil => trivial
  | cons d l =>
    obtain ⟨v, vr, rfl, q1, q2⟩ := q
    cases rv with
    | cons r rr =>
      rename_i u us'
      rw [hs]
      refine WPs.imp (tr := fun Q => wpAny (model X.prog X.w) X.A (assign t X.env u) (fun _ s1 => wpAny (model X.prog X.w) X.A (assignInOrder ((assignEach ts X.env).map (·.2)) us') Q X.xe s1) X.xe s) ?_ (fun Q q => assignInOrder_cons q)
      refine WPs.chain (rel2 := relC is g H σ env) (h1 pins s σ H e g env st d v u I S r q1) fun _ s' _ s1 σ1 g1 H1 _ I1 S1 m1 re => ?_
      obtain ⟨rfl, rfl, o1, w1, w2⟩ := re
      have z := h2 pins s1 σ1 H1 e g1 s'.env s'.st l us' I1 S1 ⟨vr, rr, q2⟩
      revert z
      show WPs X W pins e g1 H1 (relC is g1 H1 σ1 s'.env) (as l s') _ → WPs X W pins e g1 H1 (relC is g1 H1 σ env) (as l s') _
      cases as l s' with
      | stuck => exact fun _ => trivial
      | exc y s2 => exact fun z => z
      | ok r s2 =>
        intro z
        refine thn (Q := DoneS X pins e g1 H1 (relC is g1 H1 σ1 s'.env) r s2) z fun u s1 hd => ?_
        obtain ⟨σ2, g2, H2, I2, S2, m2, e1, e2, o2, w3, w4⟩ := hd
        exact ⟨σ2, g2, H2, I2, S2, m2, e1, e2, fun b h => o1 b (o2 b h), w3.trans w1, w4.trans w2⟩
theorem dgc_tup {es : List Expr} {k n : Nat} {as : List D → M Unit} (hc : X.calm = true) (h : DGcs X W is es as) (hn : (assignEach es X.env).length = n) (hst : (assignEach es X.env).findIdx? (·.1) = none) : DGc X W is (.Tuple es k pos) (gTupM n as) := by
  intro pins s σ H e g env st d v u I S rv q
  unfold gTupM
  show WPs X W pins e g H _ ((match asTup d with
    | some l => if l.length = n then as l else stuckM
    | none => stuckM) _) _
  cases hl : asTup d with
  | none => trivial
  | some l =>
    dsimp only
    split
    · rename_i hlen
      cases asTup_eq hl
      obtain ⟨a, xs, rfl, ta, r1⟩ := q
      have t1 := ta.sq
      cases rv
      obtain ⟨its, rv, ht, hz⟩ := I.i.tuple t1
      have hl2 := rv.length
      have hl3 := r1.length
      refine WPs.imp (tr := fun Q => ∀ h', Heap.ExtBut s.heap.objs.size s.heap h' → wpAny (model X.prog X.w) X.A (assignInOrder ((assignEach es X.env).map (·.2)) its) Q X.xe { s with heap := h' }) ?_
        (fun Q q => assign_Tuple_tuple (I.i.ok.hd hc) ht (by simp; omega) hst fun h' hx => by simpa using q h' hx)
      have go : ∀ h', Heap.ExtBut s.heap.objs.size s.heap h' → WPs X W pins e g H (relC is g H σ env) (as l ⟨env, st⟩) (fun Q => wpAny (model X.prog X.w) X.A (assignInOrder ((assignEach es X.env).map (·.2)) its) Q X.xe { s with heap := h' }) := fun h' hx =>
        h pins { s with heap := h' } σ H e g env st l its ⟨I.i.kept (t' := s.toks) fun b o e => hx b o (Nat.ne_of_lt (Heap.lt_size e)) e, I.t⟩ S ⟨xs, rv, r1⟩
      revert go
      cases as l ⟨env, st⟩ with
      | ok r s' => exact fun go h' hx => go h' hx
      | exc x s' => exact fun go w h' hx => go h' hx w
      | stuck => exact fun _ => trivial
    · trivial
end

/-! ### a clause's tests -/
def DTs (X : Cx) (W : WX) (ifs : List Expr) (f : M Bool) : Prop := RunsE X W (forIn ifs true fun c r => if r = true then do let ok ← isTrue c X.env (eval c X.env); pure (ForInStep.yield ok) else pure (ForInStep.yield r)) relB f
section
variable {X : Cx} {W : WX}
theorem dts_nil : DTs X W [] (retM true) := fun pins s σ H e g env st I S => wpAny_tests_nil ⟨g, H, I, S, Step.refl, rfl⟩
theorem dts_one {c : Expr} {t : M Bool} (h : DT X W c t) : DTs X W [c] t := fun pins s σ H e g env st I S => (h pins s σ H e g env st I S).imp fun Q q => wpAny_tests_one q
end
/-! ### a list comprehension -/
def compM (is : List Nat) (a : R → M Unit) (tt : M Bool) (te : M R) : List D → List D → M (List D)
  | [], acc => retM acc
  | d :: ds, acc => bindM (a (.val d)) fun _ => bindM tt fun b => if b = true then bindM (bindM te escF) fun y => if acc.length < LIM then fun s => compM is a tt te ds (acc ++ [y]) ⟨wipeE s.env is, s.st⟩ else stuckM
    else fun s => compM is a tt te ds acc ⟨wipeE s.env is, s.st⟩
def eComp (is : List Nat) (fi : M (List D)) (a : R → M Unit) (tt : M Bool) (te : M R) : M R := bindM fi fun ds s => match compM is a tt te ds [] ⟨wipeE s.env is, s.st⟩ with
  | .ok acc s' => .ok (.own (.lst acc)) ⟨mergeE s.env s'.env is, s'.st⟩
  | _ => .stuck
end Dn


/-! Dn18 -/
set_option Elab.async false
set_option linter.all false
set_option maxRecDepth 100000
set_option maxHeartbeats 1000000
namespace Dn
open PySem PySem.Spec PyProof.Rows L2
theorem wipe_in {σ : L2.St} {j : Nat} : ∀ {is : List Nat}, j ∈ is → j < σ.length → (wipe σ is)[j]? = some none
  | [], h, _ => by cases h
  | i :: is, h, hl => by
    show ((wipe σ is).set i none)[j]? = _
    by_cases e : j = i
    · subst e
      rw [List.getElem?_set_self (by rw [wipe_length]; exact hl)]
    · rw [List.getElem?_set_ne (Ne.symm e)]
      exact wipe_in (by simpa [e] using h) hl
theorem wipe_wipe {σ : L2.St} {is : List Nat} : wipe (wipe σ is) is = wipe σ is := by
  apply List.ext_getElem?
  intro j
  by_cases h : j ∈ is
  · by_cases hl : j < σ.length
    · rw [wipe_in h (by rw [wipe_length]; exact hl), wipe_in h hl]
    · rw [List.getElem?_eq_none (by rw [wipe_length, wipe_length]; omega), List.getElem?_eq_none (by rw [wipe_length]; omega)]
  · rw [wipe_get h]
section
variable {G : Gm} {e : Ent} {g g1 : Gh} {σ σ1 : L2.St} {H H1 : Hp} {env env1 : List Slot} {st st1 : List SO} {is : List Nat}
theorem InBlk.updD (b : InBlk σ env is g H g1 H1 env1) {a : Addr} {o : HO} (ha : H a = none) : InBlk σ env is g H g1 (upd H1 a o) env1 :=
  ⟨b.F, b.ρ, fun c u h z => by rw [upd_ne (fun e => by rw [e, ha] at h; cases h)]; exact b.keep c u h z, b.fnew, b.owned⟩
theorem Sim.updX (S : Sim G e g σ H env st) {a : Addr} {o : HO} (hF : ¬ g.F a) (hρ : a ∉ g.ρ) (hO : ¬ OwnedAt env σ a) (he : e.H a = none) : Sim G e g σ (upd H a o) env st := by
  have m : MonoG g H g (upd H a o) := .updN hF
  have other : ∀ {b : Addr} {u : HO}, b ≠ a → H b = some u → upd H a o b = some u := fun {b u} hb h => by rw [upd_ne hb]; exact h
  refine ⟨fun b u h z => other (fun y => by rw [y, he] at h; cases h) (S.keep b u h z), S.fNew, S.fOld, S.ρx, S.ρnd, S.ρF, fun b f => ?_, S.len, fun j d1 h => ?_, fun j d1 h => ?_, S.ownNe, S.slen, fun n so b h1 h2 => ?_⟩
  · by_cases z : b = a
    · subst z; rw [upd_same]; simp
    · rw [upd_ne z]; exact S.fIn b f
  · obtain ⟨v, k1, k2⟩ := S.val j d1 h
    exact ⟨v, k1, k2.mono m⟩
  · obtain ⟨b, k1, k2, k3⟩ := S.own j d1 h
    have hb : b ≠ a := by
      rintro rfl
      exact hO ⟨j, d1, h, k1⟩
    exact ⟨b, k1, k2.mono m fun u hu => other hb hu, k3⟩
  · have hb : b ≠ a := by
      rintro rfl
      exact hρ (List.mem_of_getElem? h2)
    exact (S.sto n so b h1 h2).mono m fun u hu => other hb hu
end
theorem bind_ok {α β : Type} {r : Res α} {k : α → M β} {b : β} {s : S} (h : r.bind k = .ok b s) : ∃ a s', r = .ok a s' ∧ k a s' = .ok b s := by
  cases r with
  | ok a s' => exact ⟨a, s', rfl, h⟩
  | exc x s' => cases h
  | stuck => cases h
section
variable {X : Cx} {W : WX}
theorem dlc_core {pins : List (Addr × Obj)} {s : Shared} {σ : L2.St} {H : Hp} {e : Ent} {g : Gh} {env : List Slot} {st : List SO} {elt tg iter : Expr} {ifs : List Expr} {scope : Scope} {own : List (Str × Nat)} {pos pos' : Pos} {fi : M (List D)} {a : R → M Unit} {tt : M Bool} {te : M R} {use : Option (Value → Sem Unit)} {Qf : Value → Shared → Prop}
    (hc : X.calm = true) (hN : X.N.Nodup) (I : Iv X pins σ H s) (S : Sim (gm X) e g σ H env st) (hi : DI X W tg iter fi) (ok : BlkOk X.N X.env.scope scope own)
    (hg : ∀ (s : Shared) (H : Hp) (C : Addr) (cl : List (Str × Addr)) (fp : List Addr), DGc (X.blk s H scope (compEnvC scope cl C X.env) fp) WNo (own.map (·.2)) tg a) (ht : ∀ (s : Shared) (H : Hp) (C : Addr) (cl : List (Str × Addr)) (fp : List Addr), DTs (X.blk s H scope (compEnvC scope cl C X.env) fp) WNo ifs tt)
    (he : ∀ (s : Shared) (H : Hp) (C : Addr) (cl : List (Str × Addr)) (fp : List Addr), DE (X.blk s H scope (compEnvC scope cl C X.env) fp) WNo elt te) (hs : ∀ x, foldedSetIterable iter X.env x = pure x)
    (ask : askT X W e g H σ (eComp (own.map (·.2)) fi a tt te ⟨env, st⟩))
    (hRR : ∀ r sF L C s' m g' H', eComp (own.map (·.2)) fi a tt te ⟨env, st⟩ = .ok r sF → Iv X pins σ H' s' → Sim (gm X) e g' σ H' sF.env sF.st → Step σ g H env g' H' sF.env → RRep (New H env σ) e g' σ H' sF.env (gm X) r (.ref L) → s'.heap.Ns C m → FpOk X pins H' C →
      compPost (model X.prog X.w) X.A X.xe use Qf (.ref L) C (.ok .next) s') :
    wpAny (model X.prog X.w) X.A (comprehension (.ListComp elt [⟨tg, iter, ifs, 0⟩] scope pos) scope X.env pos' (newList []) false (eval iter X.env) use) Qf X.xe s := by
  generalize his : own.map (·.2) = is at *
  have hfree : ∀ y ∈ scope.names, y.2 = .free → ∃ c, X.env.cells.lookup y.1 = some c := fun y hy e => by
    rcases ok.free y hy e with k | k
    · exact I.i.ok.has _ (.inl k)
    · exact I.i.ok.has _ (.inr k)
  have ask1 : askT X W e g H σ (fi ⟨env, st⟩) := by
    have : askT X W e g H σ ((fi ⟨env, st⟩).bind _) := ask
    revert this
    cases fi ⟨env, st⟩ with
    | ok r s' => exact fun _ => trivial
    | exc x s' => exact fun h => h
    | stuck => exact fun h => h
  refine wpAny_comprehension_free (use := use) rfl hs (closure_ok hfree) ok.kind (fun y hy e => by rw [ok.uniq y hy, e])
    (thn (hi pins s σ H e g env st I S ask1) fun xv s1 hx => thn hx fun itv s2 h2 => ?_)
  cases hfi : fi ⟨env, st⟩ with
  | exc x s' => rw [hfi] at h2; exact h2.elim
  | stuck => rw [hfi] at h2; exact h2.elim
  | ok ds sI =>
  rw [hfi] at h2
  obtain ⟨it, fp, tn, J, g2, H2, rfl, I2, S2, x2, T, st2, f2, wk⟩ := h2
  -- the block's end is known
  have hcomp : eComp is fi a tt te ⟨env, st⟩ = (match compM is a tt te ds [] ⟨wipeE sI.env is, sI.st⟩ with
    | .ok acc s' => .ok (.own (.lst acc)) ⟨mergeE sI.env s'.env is, s'.st⟩
    | _ => .stuck) := by
    show (fi ⟨env, st⟩).bind _ = _
    rw [hfi]; rfl
  rw [hcomp] at ask
  cases hcm : compM is a tt te ds [] ⟨wipeE sI.env is, sI.st⟩ with
  | exc x s' => rw [hcm] at ask; exact ask.elim
  | stuck => rw [hcm] at ask; exact ask.elim
  | ok accF sE =>
  rw [hcm] at hcomp
  refine wpAny_newObj_type (newEnv_comp ?_) (by show 0 ≤ sizeLine; decide)
  generalize hD : s2.heap.objs.size = D
  have hDn : H2 D = none := I2.i.hok.fresh (Nat.le_of_eq hD)
  generalize hs3 : ({ s2 with heap := s2.heap.push { cls := .type "list", data := .seq ([] : List Value).toArray } } : Shared) = s3
  have t3 : 0 < s3.toks := by rw [← hs3]; exact I2.t
  have I3 : Inv X pins σ (upd H2 D (.lst [])) s3 := by
    rw [← hs3]
    refine I2.i.laid (t' := s2.toks) (fun b o e => Heap.get?_push_of_some _ e) (Nat.le_of_eq hD) ⟨Nat.zero_le _, [], 0, .nil, ?_⟩
    rw [← hD]
    exact Heap.get?_push_size _ rfl
  have h3 : s3.heap = s2.heap.push { cls := .type "list", data := .seq ([] : List Value).toArray } := by rw [← hs3]
  have sz : ∀ b ∈ fp, b < s2.heap.objs.size := fun b hb => by
    obtain ⟨o, e, _⟩ := T.obj _ _ st2 b hb
    exact Heap.lt_size e
  have f3 : ∀ b ∈ fp, FpOk X pins (upd H2 D (.lst [])) b ∧ b < s3.heap.objs.size := fun b hb => by
    have hlt := sz b hb
    refine ⟨⟨?_, (f2 b hb).2⟩, by rw [h3, Heap.size_push]; exact Nat.lt_succ_of_lt hlt⟩
    rw [upd_ne (by rw [← hD]; exact Nat.ne_of_lt hlt)]
    exact (f2 b hb).1
  have st3 : tn 0 s3.heap := T.keep _ _ _ st2 fun b _ o e => by rw [h3]; exact Heap.get?_push_of_some _ e
  have I4 := block_start I3 ok hN f3
  rw [his] at I4
  have pg := hg s3 (upd H2 D (.lst [])) s3.heap.objs.size (cellsFrom (s3.heap.objs.size + 1) scope.names (cloFrom X.env.cells scope.names [])) fp
  have pt := ht s3 (upd H2 D (.lst [])) s3.heap.objs.size (cellsFrom (s3.heap.objs.size + 1) scope.names (cloFrom X.env.cells scope.names [])) fp
  have pe := he s3 (upd H2 D (.lst [])) s3.heap.objs.size (cellsFrom (s3.heap.objs.size + 1) scope.names (cloFrom X.env.cells scope.names [])) fp
  show codeAny _ _ (.compStart (.ListComp elt [⟨tg, iter, ifs, 0⟩] scope pos) 0 (.ref it) (.ref D) (compEnvC scope (cellsFrom (s3.heap.objs.size + 1) scope.names (cloFrom X.env.cells scope.names [])) s3.heap.objs.size X.env)) (compPost (model X.prog X.w) X.A X.xe use Qf (.ref D) s3.heap.objs.size) { s3 with heap := pushCells (s3.heap.push { cls := .type "dict", data := .dict #[] }) scope.names }
  have nfp : ∀ b ∈ fp, (upd H2 D (.lst [])) b = none := fun b hb => (f3 b hb).1.1
  generalize hce : compEnvC scope (cellsFrom (s3.heap.objs.size + 1) scope.names (cloFrom X.env.cells scope.names [])) s3.heap.objs.size X.env = ce at I4 pg pt pe ⊢
  have cL : ce.locals = s3.heap.objs.size := by subst hce; rfl
  -- the state is told at the block's start
  have hDρ : D ∉ g2.ρ := S2.newρ hDn
  have hDF : ¬ g2.F D := S2.newF hDn
  have hDO : ¬ OwnedAt sI.env σ D := S2.newO hDn
  have hDe : e.H D = none := S2.eNew hDn
  have Sb : Sim (gm X) e g2 (wipe σ is) (upd H2 D (.lst [])) (wipeE sI.env is) sI.st := (S2.lay hDn _).wipe
  have Bb : InBlk σ sI.env is g2 H2 g2 (upd H2 D (.lst [])) (wipeE sI.env is) := InBlk.updD InBlk.start hDn
  have hD0 : upd H2 D (.lst []) D = some (.lst []) := upd_same
  generalize hH3 : upd H2 D (.lst []) = H3 at I3 I4 pg pt pe nfp f3 Sb Bb hD0
  generalize hs4 : ({ s3 with heap := pushCells (s3.heap.push { cls := .type "dict", data := .dict #[] }) scope.names } : Shared) = s4 at I4 ⊢
  have t4 : 0 < s4.toks := by rw [← hs4]; exact t3
  have st4 : tn 0 s4.heap := T.keep _ _ _ st3 fun b _ o e => by rw [← hs4]; exact pushCells_keeps _ _ _ _ (Heap.get?_push_of_some _ e)
  have stat : ∀ {σ' : L2.St} {H' : Hp} {s' : Shared}, Inv (X.blk s3 H3 scope ce fp) [] σ' H' s' → (∀ b ∈ fp, H' b = none) → ∀ b ∈ fp, FpOk (X.blk s3 H3 scope ce fp) [] H' b := fun {σ' H' s'} I' hn b hb =>
    ⟨hn b hb, (I'.ok.exf b hb).1, I'.ok.exfs b hb, .inl hb, fun x c e => (I'.ok.exf b hb).2 x c e, fun p hp => absurd (show p ∈ ([] : List (Addr × Obj)) ++ [] from hp) (by simp)⟩
  have loop : codeAny (model X.prog X.w) X.A (.compLoop (.ListComp elt [⟨tg, iter, ifs, 0⟩] scope pos) 0 (.ref it) (.ref D) ce) (compPost (model X.prog X.w) X.A X.xe use Qf (.ref D) s3.heap.objs.size) s4 := by
    refine compLoop_any (fun n s' => ∃ i gk Hk sK acc accv, n = ds.length - i ∧ i ≤ ds.length ∧ Iv (X.blk s3 H3 scope ce fp) [] (wipe σ is) Hk s' ∧ Sim (gm X) e gk (wipe σ is) Hk sK.env sK.st ∧ InBlk σ sI.env is g2 H2 gk Hk sK.env ∧ MonoG g2 H2 gk Hk ∧ tn i s'.heap ∧ (∀ b ∈ fp, Hk b = none) ∧
      Hk D = some (.lst accv) ∧ Reps (gm X) gk Hk acc accv ∧ D ∉ gk.ρ ∧ ¬ gk.F D ∧ compM is a tt te (ds.drop i) acc sK = .ok accF sE) ?_ ds.length
      ⟨0, g2, H3, ⟨wipeE sI.env is, sI.st⟩, [], [], by simp, Nat.zero_le _, ⟨I4, t4⟩, Sb, Bb, by rw [← hH3]; exact .lay hDn, st4, nfp, hD0, rfl, hDρ, hDF, hcm⟩
    rintro n s5 ⟨i, gk, Hk, sK, acc, accv, rfl, hle, I5, S5, B5, m5, st5, n5, hDk, rk, hρk, hFk, e5⟩
    have hOk : ¬ OwnedAt sK.env (wipe σ is) D := fun z => hDO (B5.owned D z).unwipe
    obtain ⟨wk1, wk2⟩ := wk i gk Hk m5
    by_cases hi' : i = ds.length
    · have td := tkn I5.t (T.done (X.blk s3 H3 scope ce fp) rfl rfl rfl hc i [] s5 _ Hk (fun _ _ => False) I5.i (stat I5.i n5) st5 (wk2 hi')) fun _ _ ht z => And.intro ht z
      refine thnF td fun r s6 ⟨ht6, hr, I6⟩ => ?_
      subst hr
      have e6 : (Res.ok acc sK : Res (List Dn.D)) = .ok accF sE := by
        rw [hi', List.drop_length] at e5; exact e5
      injection e6 with ea es
      subst ea es
      have I7 : Inv X pins σ Hk s6 := I3.call' (ch := fp) I6.os I6.base I6.hok I6.bare fun b hb => ⟨(f3 b hb).1.2.2.2.1, (f3 b hb).1.2.1, (f3 b hb).1.2.2.2.2.1, (f3 b hb).1.2.2.2.2.2⟩
      have nC : Hk s3.heap.objs.size = none := by
        have z : Hk ce.locals = none := I6.free
        rw [cL] at z
        exact z
      obtain ⟨m, hn, _⟩ := I6.loc
      have hn : s6.heap.Ns ce.locals m := hn
      rw [cL] at hn
      obtain ⟨SF, xF⟩ := B5.back S2 S5
      have hOF : ¬ OwnedAt (mergeE sI.env sK.env is) σ D := fun z => hDO (xF.owned D z)
      exact hRR (.own (.lst acc)) ⟨mergeE sI.env sK.env is, sK.st⟩ D s3.heap.objs.size s6 m gk Hk hcomp ⟨I7, ht6⟩ SF (x2.trans S2 xF) ⟨D, rfl, ⟨accv, hDk, rk⟩, hρk, hFk, hOF, hDe, .inl (x2.up S2 hDn)⟩ hn (I3.fpOk (Nat.le_refl _) nC)
    · have hlt : i < ds.length := by omega
      have hd : ds[i]? = some ds[i] := List.getElem?_eq_getElem hlt
      have hdrop : ds.drop i = ds[i] :: ds.drop (i + 1) := List.drop_eq_getElem_cons hlt
      rw [hdrop] at e5
      obtain ⟨go, yl⟩ := wk1 _ hd
      have ti := tkn I5.t (T.item (X.blk s3 H3 scope ce fp) rfl rfl rfl hc i [] s5 _ Hk (fun _ _ => False) I5.i (stat I5.i n5) st5 go) fun _ _ ht z => And.intro ht z
      refine thnF ti fun r s6 ⟨ht6, u, hr, h6⟩ => ?_
      subst hr
      refine thnF (tkn ht6 h6 fun _ _ ht z => And.intro ht z) fun _ s7 ⟨ht7, x, H7, I7, r7, y7, st7, n7⟩ => ?_
      have I7' := I7.pinned (stat I7 n7) (T.obj _ _ st7)
      -- the item is told
      have told : ∃ g7, Sim (gm X) e g7 (wipe σ is) H7 sK.env sK.st ∧ Step (wipe σ is) gk Hk sK.env g7 H7 sK.env ∧ Rep (gm X) g7 H7 ds[i] x := by
        rcases yl x H7 y7 with ⟨rfl, rp⟩ | ⟨p, xs, ls, hp', rfl, rfl, hds, rps⟩
        · exact ⟨gk, S5, Step.refl, rp⟩
        · rw [hds]
          exact ⟨gk.add p, S5.layF hp' _, Step.layF hp', rep_tup_new hp' rps⟩
      obtain ⟨g7, S7, x7, rp7⟩ := told
      have B7 : InBlk σ sI.env is g2 H2 g7 H7 sK.env := B5.step S5 (fun _ h => h) x7 fun _ h => h
      have hD7 : H7 D = some (.lst accv) := x7.keep D _ hDk hρk
      have r7k := rk.mono (mono_of S7 x7)
      have hρ7 : D ∉ g7.ρ := x7.notρ hρk (by rw [hDk]; simp)
      obtain ⟨_, s8', ea, e6⟩ := bind_ok (show (a (.val ds[i]) sK).bind _ = _ from e5)
      have h8 := pg _ s7 _ H7 e g7 sK.env sK.st ds[i] x u ⟨I7', ht7⟩ S7 r7 rp7
      rw [show a (.val ds[i]) ⟨sK.env, sK.st⟩ = a (.val ds[i]) sK from rfl, ea] at h8
      refine thnF h8 fun _ s8 ⟨σ8, g8, H8, I8, S8, m8, eg, eH, o8, w8, w8'⟩ => ?_
      subst eg eH
      have hw8 : wipe σ8 is = wipe σ is := w8.trans wipe_wipe
      obtain ⟨b, s9', eb, e7⟩ := bind_ok (show (tt s8').bind _ = _ from e6)
      have h9 := pt _ s8 σ8 H8 e g8 s8'.env s8'.st I8 S8
      rw [show tt ⟨s8'.env, s8'.st⟩ = tt s8' from rfl, eb] at h9
      refine thnF h9 fun b' s9 ⟨g9, H9, I9, S9, x9, (re9 : b = b')⟩ => ?_
      subst re9
      -- the turn's end
      have fin : ∀ {s' : Shared} {g' : Gh} {H' : Hp} {sN : Dn.S} {acc' : List Dn.D} {accv' : List V}, Iv (X.blk s3 H3 scope ce fp) ([] ++ pinsAt fp s7.heap) σ8 H' s' → Sim (gm X) e g' σ8 H' sN.env sN.st → InBlk σ sI.env is g2 H2 g' H' (wipeE sN.env is) → MonoG g2 H2 g' H' → H' D = some (.lst accv') → Reps (gm X) g' H' acc' accv' → D ∉ g'.ρ → ¬ g'.F D →
          compM is a tt te (ds.drop (i + 1)) acc' ⟨wipeE sN.env is, sN.st⟩ = .ok accF sE → ∃ m, m < ds.length - i ∧ ∃ i gk Hk sK acc accv, m = ds.length - i ∧ i ≤ ds.length ∧ Iv (X.blk s3 H3 scope ce fp) [] (wipe σ is) Hk s' ∧ Sim (gm X) e gk (wipe σ is) Hk sK.env sK.st ∧ InBlk σ sI.env is g2 H2 gk Hk sK.env ∧ MonoG g2 H2 gk Hk ∧ tn i s'.heap ∧ (∀ b ∈ fp, Hk b = none) ∧
      Hk D = some (.lst accv) ∧ Reps (gm X) gk Hk acc accv ∧ D ∉ gk.ρ ∧ ¬ gk.F D ∧ compM is a tt te (ds.drop i) acc sK = .ok accF sE := fun {s' g' H' sN acc' accv'} I' S' B' m' hD' r' hρ' hF' ec => by
        have pin' : ∀ b ∈ fp, ∀ o, s7.heap.get? b = some o → s'.heap.get? b = some o ∧ H' b = none := fun b hb o e =>
          let z := I'.i.pin (b, o) (List.mem_append_right _ (List.mem_append_right _ (mem_pinsAt hb e)))
          ⟨z.1, z.2.1⟩
        have hl : (wipe σ is).length = σ8.length := by rw [← hw8, wipe_length]
        refine ⟨ds.length - (i + 1), by omega, i + 1, g', H', ⟨wipeE sN.env is, sN.st⟩, acc', accv', rfl, hlt, ⟨(I'.i.unpinned (pins := [])).weak hl (fun j v e => ?_), I'.t⟩, ?_, B', m', T.keep _ _ _ st7 fun b hb o e => (pin' b hb o e).1, fun b hb => ?_, hD', r', hρ', hF', ec⟩
        · rw [← hw8] at e
          exact (wipe_some e).1
        · have := S'.wipe (is := is)
          rw [hw8] at this
          exact this
        · obtain ⟨o, e, _⟩ := T.obj _ _ st7 b hb
          exact (pin' b hb o e).2
      have ho8 : ∀ b, OwnedAt s8'.env σ8 b → OwnedAt sK.env (wipe σ is) b := o8
      have hD9 : H9 D = some (.lst accv) := x9.keep D _ hD7 hρ7
      have hρ9 : D ∉ g9.ρ := x9.notρ hρ7 (by rw [hD7]; simp)
      have r9k := r7k.mono (mono_of S9 x9)
      have hF7 : ¬ g8.F D := fun f => by
        rcases x7.fnew D f with f | f | f
        · exact hFk f
        · rw [hDk] at f; cases f
        · exact hOk f
      have hF9 : ¬ g9.F D := fun f => by
        rcases x9.fnew D f with f | f | f
        · exact hF7 f
        · rw [hD7] at f; cases f
        · exact hOk (ho8 D f)
      have uw : ∀ {env' : List Slot} {c : Addr}, OwnedAt (wipeE env' is) (wipe σ is) c → OwnedAt env' σ8 c := fun {env' c} h => by
        rw [← hw8] at h; exact h.unwipe
      have m9 := m5.trans ((mono_of S7 x7).trans (mono_of S9 x9))
      cases b with
      | false =>
        simp only [Bool.false_eq_true, if_false] at e7 ⊢
        exact fin I9 S9 (B7.step S8 ho8 x9 fun _ h => uw h) m9 hD9 r9k hρ9 hF9 e7
      | true =>
        simp only [if_true] at e7 ⊢
        obtain ⟨y, s10', ey, e8⟩ := bind_ok (show ((te s9').bind escF).bind _ = _ from e7)
        have h10 := (pe _ s9 σ8 H9 e g9 s9'.env s9'.st I9 S9).esc
        rw [show te ⟨s9'.env, s9'.st⟩ = te s9' from rfl, ey] at h10
        refine thnF h10 fun z s10 ⟨g10, H10, I10, S10, x10, yv, r10, rp10⟩ => ?_
        split at e8
        · rename_i hz
          have hD10 : H10 D = some (.lst accv) := x10.keep D _ hD9 hρ9
          have hρ10 : D ∉ g10.ρ := x10.notρ hρ9 (by rw [hD9]; simp)
          have r10k := r9k.mono (mono_of S10 x10)
          have hF10 : ¬ g10.F D := fun f => by
            rcases x10.fnew D f with f | f | f
            · exact hF9 f
            · rw [hD9] at f; cases f
            · exact hOk (ho8 D (x9.owned D f))
          have hO10 : ¬ OwnedAt s10'.env σ8 D := fun z => hOk (ho8 D (x9.owned D (x10.owned D z)))
          have mu : MonoG g10 H10 g10 (upd H10 D (.lst (accv ++ [yv]))) := .updN hF10
          refine tkn I10.t (app_ok (X := X.blk s3 H3 scope ce fp) I10.i hD10 (by rw [r10k.length, ← lim_eq]; exact hz) r10 (Q := fun _ s' => Inv (X.blk s3 H3 scope ce fp) ([] ++ pinsAt fp s7.heap) σ8 (upd H10 D (.lst (accv ++ [yv]))) s') fun s11 I11 => I11) fun _ s11 t11 I11 => ?_
          refine fin (accv' := accv ++ [yv]) ⟨I11, t11⟩ (S10.updX hF10 hρ10 hO10 hDe) ?_ ((m9.trans (mono_of S10 x10)).trans mu) upd_same ((r10k.mono mu).append (Reps.one (rp10.mono mu))) hρ10 hF10 e8
          exact InBlk.updD ((B7.step S8 ho8 (x9.trans S9 x10) fun _ h => uw h)) hDn
        · cases e8
  exact codeAny_compStart_list loop (T.self X.A 0 _ _ _ st4 loop)
end
end Dn


/-! Dn19 -/
set_option Elab.async false
set_option linter.all false
set_option maxRecDepth 100000
set_option maxHeartbeats 1000000
namespace Dn
open PySem PySem.Spec PyProof.Rows L2
theorem WPt.intro {α β : Type} {X : Cx} {W : WX} {pins : List (Addr × Obj)} {σ : L2.St} {e : Ent} {g : Gh} {H : Hp} {env : List Slot} {rel : RelT α β} {res : Res α} {tr : Tr β} (h : askT X W e g H σ res → tr (postT X pins σ e g H env rel res)) : WPt X W pins σ e g H env rel res tr := by
  cases res with
  | ok r s' => exact h trivial
  | exc x s' => exact fun w => h w
  | stuck => trivial
section
variable {X : Cx} {W : WX}
theorem de_lc {elt tg iter : Expr} {ifs : List Expr} {scope : Scope} {own : List (Str × Nat)} {pos : Pos} {fi : M (List D)} {a : R → M Unit} {tt : M Bool} {te : M R}
    (hc : X.calm = true) (hN : X.N.Nodup) (hi : DI X W tg iter fi) (ok : BlkOk X.N X.env.scope scope own)
    (hg : ∀ (s : Shared) (H : Hp) (C : Addr) (cl : List (Str × Addr)) (fp : List Addr), DGc (X.blk s H scope (compEnvC scope cl C X.env) fp) WNo (own.map (·.2)) tg a) (ht : ∀ (s : Shared) (H : Hp) (C : Addr) (cl : List (Str × Addr)) (fp : List Addr), DTs (X.blk s H scope (compEnvC scope cl C X.env) fp) WNo ifs tt)
    (he : ∀ (s : Shared) (H : Hp) (C : Addr) (cl : List (Str × Addr)) (fp : List Addr), DE (X.blk s H scope (compEnvC scope cl C X.env) fp) WNo elt te) (hs : ∀ x, foldedSetIterable iter X.env x = pure x) :
    DE X W (.ListComp elt [⟨tg, iter, ifs, 0⟩] scope pos) (eComp (own.map (·.2)) fi a tt te) := by
  intro pins s σ H e g env st I S
  refine WPt.intro fun ask => ?_
  rw [eval_ListComp]
  refine dlc_core hc hN I S hi ok hg ht he hs ask fun r sF L C s' m g' H' er I' S' x' q hn f => ⟨m, hn, fun h'' sb => ?_⟩
  rw [er]
  obtain ⟨f0, f1, f2, f3, f4, f5⟩ := f
  exact ⟨g', H', ⟨I'.i.turned (t' := s'.toks) (fun b o hb e => (sb.2 b hb).trans e) f0 f1 f3 f4 f5, I'.t⟩, S', x', .ref L, rfl, q⟩
theorem eComp_own {is : List Nat} {fi : M (List D)} {a : R → M Unit} {tt : M Bool} {te : M R} {s s' : S} {r : R} (h : eComp is fi a tt te s = .ok r s') : ∃ l, r = .own (.lst l) := by
  unfold eComp bindM at h
  obtain ⟨ds, s1, _, h2⟩ := bind_ok h
  split at h2
  · injection h2 with h3 _; exact ⟨_, h3.symm⟩
  · cases h2
theorem ds_setLc {i : Nat} {y : Str} {py : Pos} {elt tg iter : Expr} {ifs : List Expr} {scope : Scope} {own : List (Str × Nat)} {pos spos : Pos} {fi : M (List D)} {a : R → M Unit} {tt : M Bool} {te : M R}
    (hc : X.calm = true) (hN : X.N.Nodup) (hy : X.N[i]? = some y) (hyl : X.env.scope.names.lookup y = some .local)
    (hsw : swapsWith (.ListComp elt [⟨tg, iter, ifs, 0⟩] scope pos) (some (.Name y py)) spos.line X.env = pure true) (hi : DI X W tg iter fi) (ok : BlkOk X.N X.env.scope scope own)
    (hg : ∀ (s : Shared) (H : Hp) (C : Addr) (cl : List (Str × Addr)) (fp : List Addr), DGc (X.blk s H scope (compEnvC scope cl C X.env) fp) WNo (own.map (·.2)) tg a) (ht : ∀ (s : Shared) (H : Hp) (C : Addr) (cl : List (Str × Addr)) (fp : List Addr), DTs (X.blk s H scope (compEnvC scope cl C X.env) fp) WNo ifs tt)
    (he : ∀ (s : Shared) (H : Hp) (C : Addr) (cl : List (Str × Addr)) (fp : List Addr), DE (X.blk s H scope (compEnvC scope cl C X.env) fp) WNo elt te) (hs : ∀ x, foldedSetIterable iter X.env x = pure x) :
    DS X W (.Assign [.Name y py] (.ListComp elt [⟨tg, iter, ifs, 0⟩] scope pos) spos) (sAsg (eComp (own.map (·.2)) fi a tt te) (asgM i)) := by
  intro pins s σ H e g env st I S
  refine WPs.intro fun ask => ?_
  have ask0 : askS X W e g H ((eComp (own.map (·.2)) fi a tt te ⟨env, st⟩).bind fun r => bindM (asgM i r) fun _ => retM Fl.nx) := ask
  rw [exec_Assign_Name_used _ _ _ _ hsw]
  refine wpAny_bind (wpAny_standAt (wpAny_bind ?_))
  show wpAny _ X.A (do let _ ← comprehension (.ListComp elt [⟨tg, iter, ifs, 0⟩] scope pos) scope X.env (firstIterPos [⟨tg, iter, ifs, 0⟩] pos) (newList []) false (eval iter X.env) (some (assign (.Name y py) X.env))) _ _ s
  refine wpAny_bind (thn (dlc_core (Qf := fun _ s' => postS X pins e g H relF (sAsg (eComp (own.map (·.2)) fi a tt te) (asgM i) ⟨env, st⟩) .next s') hc hN I S hi ok hg ht he hs ask0.bind1.t fun r sF L C s' m g' H' er I' S' x' q hn f => ?_) fun _ s' hq => wpAny_pure (wpAny_pure hq))
  obtain ⟨l, rfl⟩ := eComp_own er
  have hres : sAsg (eComp (own.map (·.2)) fi a tt te) (asgM i) ⟨env, st⟩ = .ok .nx ⟨sF.env.set i (.own (.lst l)), sF.st⟩ := by
    unfold sAsg bindM
    rw [er]
    rfl
  rw [hres]
  obtain ⟨a', ea, h2, h3, h4, h5, h6, h7⟩ := q
  cases ea
  show wpAny _ _ (assign (.Name y py) X.env (.ref L)) _ _ _
  refine wpAny_assign_Name (tkn I'.t (store_ok2 (Q := fun _ s2 => Inv X pins (σ.set i (some (V.ref L))) H' s2 ∧ ∃ a, Heap.SameBut a s'.heap s2.heap ∧ (a = X.env.locals ∨ X.env.cells.lookup y = some a)) (v := V.ref L) I'.i hN hy (.inl hyl) rfl (fun s2 I2 z => ⟨I2, z⟩) (.inr hyl)) fun _ s2 t2 ⟨I2, a, sb, ha⟩ => ?_)
  obtain ⟨f0, f1, f2, f3, f4, f5⟩ := f
  have haC : C ≠ a := by
    rcases ha with z | z
    · rw [z]; exact f1
    · exact fun e => f4 y a z e.symm
  refine ⟨m, hn.sameBut sb haC, fun h3' sb3 => ?_⟩
  exact ⟨_, g', H', ⟨I2.turned (t' := s2.toks) (fun b o hb e => (sb3.2 b hb).trans e) f0 f1 f3 f4 f5, t2⟩, S'.setO h2 h3 h4 h5 h6, mono_of S' x', rfl⟩
end
end Dn


/-! Dn20 -/
set_option Elab.async false
set_option linter.all false
set_option maxRecDepth 100000
set_option maxHeartbeats 1000000
namespace Dn
open PySem PySem.Spec PyProof.Rows L2
/-! ### dicts with texts as keys -/
def valD : List (D × D) → Str → Option D
  | [], _ => none
  | (.str z, d) :: l, k => if z = k then some d else valD l k
  | _ :: l, k => valD l k
theorem RepK.val {G : Gm} {g : Gh} {H : Hp} : ∀ {l : List (D × D)} {kvs : List (Key × V)} {k : Str} {d : D}, RepK G g H l kvs → valD l k = some d → ∃ y, valV kvs (.inr k) = some y ∧ Rep G g H d y
  | [], _, _, _, _, h => by cases h
  | (k0, d0) :: l, _, k, d, ⟨z, y, r, h0, h1, h2, h3⟩, h => by
    subst h0 h1
    unfold valD at h
    split at h
    · rename_i e
      cases h
      subst e
      exact ⟨y, valV_pos rfl, h2⟩
    · rename_i e
      obtain ⟨y', q1, q2⟩ := RepK.val h3 h
      exact ⟨y', (valV_neg (fun z' => e (by injection z'))).trans q1, q2⟩
theorem RepE.noStr {G : Gm} {g : Gh} {H : Hp} : ∀ {l : List (D × D)} {es : List DictEntry} {k : Str}, RepE G g H l es → valD l k = none
  | [], _, _, _ => rfl
  | (k0, d0) :: l, _, k, ⟨e, r, x, y, n, h0, h1, h2, h3, h4, h5, h6, h7, ks, h8⟩ => by
    subst h8
    exact RepE.noStr (l := l) h7
theorem RRep.dctK {G : Gm} {e : Ent} {g : Gh} {σ : L2.St} {H : Hp} {env : List Slot} {N : Addr → Prop} {v : V} {l : List (D × D)} {k : Str} {d : D} (hd : valD l k = some d) : ∀ {r : R}, r.d = .dct l → RRep N e g σ H env G r v → ∃ a kvs, v = .ref a ∧ H a = some (.dK kvs) ∧ RepK G g H l kvs
  | .val d0, h, q => by
    cases (show d0 = .dct l from h)
    obtain ⟨a, es, kvs, ea, ⟨t, r⟩ | ⟨t, r⟩⟩ := q
    · rw [r.noStr] at hd; cases hd
    · exact ⟨a, kvs, ea, t.2, r⟩
  | .tmp d0, h, ⟨a, ea, o, _⟩ => by
    cases (show d0 = .dct l from h)
    obtain ⟨es, kvs, ⟨_, _, r⟩ | ⟨t, r⟩⟩ := o
    · rw [r.noStr] at hd; cases hd
    · exact ⟨a, kvs, ea, t, r⟩
  | .own d0, h, ⟨a, ea, o, _⟩ => by
    cases (show d0 = .dct l from h)
    obtain ⟨es, kvs, ⟨_, _, r⟩ | ⟨t, r⟩⟩ := o
    · rw [r.noStr] at hd; cases hd
    · exact ⟨a, kvs, ea, t, r⟩
theorem nodup_inr : ∀ {ks : List Str}, ks.Nodup → (ks.map (Sum.inr : Str → Key)).Nodup
  | [], _ => by simp
  | z :: ks, h => by
    have h' := List.nodup_cons.mp h
    rw [List.map_cons]
    refine List.nodup_cons.mpr ⟨fun m => ?_, nodup_inr h'.2⟩
    obtain ⟨y, hy, e⟩ := List.mem_map.mp m
    injection e with e
    rw [e] at hy
    exact h'.1 hy
def relPs (ks : List Str) : RelT (List D) (List (Value × Value)) := fun _ _ g _ H _ G ds ws => ∃ kvs : List (Key × V), kvs.map (·.1) = ks.map Sum.inr ∧ VV (kvs.map fun kv => (kV kv.1, kv.2)) ws ∧ Reps G g H ds (kvs.map (·.2))
instance {ks : List Str} : Up (relPs ks) := ⟨fun h q => q⟩
def DPk (X : Cx) (W : WX) (pos : Pos) (keys : List (Option Expr)) (values : List Expr) (ks : List Str) (f : M (List D)) : Prop := RunsE X W (evalPairs (pairTrees keys values X.env pos)) (relPs ks) f
theorem mergeK_new : ∀ (kvs acc : List (Key × V)), (kvs.map (·.1)).Nodup → (∀ k ∈ kvs.map (·.1), valV acc k = none) → mergeK acc kvs = acc ++ kvs
  | [], acc, _, _ => by simp [mergeK]
  | p :: kvs, acc, nd, h => by
    have nd' := List.nodup_cons.mp nd
    show mergeK (putK acc p.1 p.2) kvs = _
    rw [putK_new p.2 (h p.1 (by simp)), mergeK_new kvs _ nd'.2 fun k hk => ?_]
    · simp
    · have hn : ¬ p.1 = k := fun e => nd'.1 (by show p.1 ∈ _; rw [e]; exact hk)
      have := h k (List.mem_cons_of_mem _ hk)
      unfold valV at this ⊢
      rw [List.find?_append]
      cases q : acc.find? fun kv => decide (kv.1 = k) with
      | some x => rw [q] at this; cases this
      | none => simp [hn]
def zipK : List Str → List D → List (D × D)
  | z :: ks, d :: ds => (.str z, d) :: zipK ks ds
  | _, _ => []
theorem zipK_rep {G : Gm} {g : Gh} {H : Hp} : ∀ {ks : List Str} {ds : List D} {kvs : List (Key × V)}, kvs.map (·.1) = ks.map Sum.inr → Reps G g H ds (kvs.map (·.2)) → RepK G g H (zipK ks ds) kvs
  | [], ds, kvs, h, _ => by
    cases kvs with
    | nil => cases ds <;> rfl
    | cons p r => cases h
  | z :: ks, ds, kvs, h, q => by
    cases kvs with
    | nil => cases h
    | cons p r =>
      cases ds with
      | nil => cases q
      | cons d ds =>
        obtain ⟨x, xr, e, q1, q2⟩ := q
        injection e with e1 e2
        injection h with h1 h2
        obtain ⟨k, y⟩ := p
        cases h1
        cases e1
        rw [← e2] at q2
        exact ⟨z, y, r, rfl, rfl, q1, zipK_rep h2 q2⟩
section
variable {X : Cx} {W : WX} {pos : Pos}
theorem dp_nil : DPk X W pos [] [] [] (retM []) := fun pins s σ H e g env st I S => pairTrees_nil_walk ⟨g, H, I, S, Step.refl, [], rfl, .nil, rfl⟩
theorem dp_cons {z : Str} {j : Nat} {cp : Pos} {v : Expr} {keys : List (Option Expr)} {values : List Expr} {ks : List Str} {fv : M R} {fs : M (List D)} (hv : DE X W v fv) (hr : DPk X W pos keys values ks fs) : DPk X W pos (some (.Constant (.str z) j cp) :: keys) (v :: values) (z :: ks) (argD fv fs) := by
  intro pins s σ H e g env st I S
  have I0 : Iv X pins σ H { s with toks := s.toks + 1 } := ⟨I.i.tok _, by show 0 < s.toks + 1; omega⟩
  refine WPt.imp (tr := fun Q => wpAny (model X.prog X.w) X.A (eval v X.env) (fun u s2 => wpAny (model X.prog X.w) X.A (evalPairs (pairTrees keys values X.env pos)) (fun ws s3 => Q ((.str z s.toks, u) :: ws) s3) X.xe s2) X.xe { s with toks := s.toks + 1 }) ?_
    (fun Q q => pairTrees_cons_walk (Calls.Constant_str q))
  refine WPt.chain (tr2 := fun u s2 Q => wpAny (model X.prog X.w) X.A (evalPairs (pairTrees keys values X.env pos)) (fun ws s3 => Q ((Value.str z s.toks, u) :: ws) s3) X.xe s2) (hm := fun v s1 => ⟨fun h x => thn x fun vs s2 y => h _ _ y⟩) (hv pins _ σ H e g env st I0 S).esc fun d s' u s1 g1 H1 _ I1 S1 x1 re1 => ?_
  refine WPt.chain (tr2 := fun ws s3 Q => Q ((Value.str z s.toks, u) :: ws) s3) (hm := fun vs s2 => ⟨fun h x => h _ _ x⟩) (hr pins s1 σ H1 e g1 s'.env s'.st I1 S1) fun ds s2' ws s2 g2 H2 _ I2 S2 x2 re2 => ?_
  obtain ⟨w1, rw1, q1⟩ := re1
  obtain ⟨kvs, ek, vv, rs⟩ := re2
  exact ⟨g2, H2, I2, S2, Step.refl, (.inr z, w1) :: kvs, by simp [ek], .cons ⟨⟨_, rfl⟩, rw1⟩ vv, w1, _, rfl, q1.mono (mono_of S2 x2), rs⟩
def eDisp (ks : List Str) (fs : M (List D)) : M R := bindM fs fun ds => retM (.own (.dct (zipK ks ds)))
theorem de_disp {keys : List (Option Expr)} {values : List Expr} {ks : List Str} {fs : M (List D)} (h : DPk X W pos keys values ks fs) (nd : ks.Nodup) (hall : keys.all (·.isSome) = true) (hl : keys.length = values.length) (h0 : keys ≠ []) (h15 : keys.length ≤ 15) (hk : ks.length = keys.length) :
    DE X W (.Dict keys values pos) (eDisp ks fs) := by
  intro pins s σ H e g env st I S
  refine WPt.intro fun ask => ?_
  generalize hp : s.heap.objs.size = p
  have hn : H p = none := by rw [← hp]; exact I.i.hok.fresh (Nat.le_refl _)
  have I1 : Iv X pins σ (upd H p (.dK [])) { s with heap := s.heap.push { cls := .type "dict", data := .dict #[] } } := by
    rw [← hp]
    exact ⟨I.i.laid (a := s.heap.objs.size) (o := .dK []) (h' := s.heap.push { cls := .type "dict", data := .dict #[] }) (t' := s.toks) (fun _ _ q => Heap.get?_push_of_some _ q) (Nat.le_refl _) (dk_empty s.heap I.i.big), I.t⟩
  have S1 := S.lay hn (.dK [])
  have ask1 : askT X W e g (upd H p (.dK [])) σ (fs ⟨env, st⟩) := by
    have : askT X W e g H σ ((fs ⟨env, st⟩).bind fun ds => retM (R.own (.dct (zipK ks ds)))) := ask
    revert this
    cases fs ⟨env, st⟩ with
    | ok r s' => exact fun _ => trivial
    | exc x s' => exact fun w cls d g' H' S' er m => w cls d g' H' S' er ((MonoG.lay hn).trans m)
    | stuck => exact fun h => h
  refine wpAny_Dict_walk (knd := mixKind X.prog X.w) hall hl h0 h15 (thn ((h pins _ σ _ e g env st I1 S1).elim ask1) fun ws s2 h2 => ?_)
  show ∃ kvs, _ ∧ _ ∧ ∀ h', _ → _ → postT X pins σ e g H env relV ((fs ⟨env, st⟩).bind fun ds => retM (R.own (.dct (zipK ks ds)))) _ _
  revert h2
  cases fs ⟨env, st⟩ with
  | exc x s' => exact fun h2 => h2.elim
  | stuck => exact fun h2 => h2.elim
  | ok ds s' =>
    intro h2
    obtain ⟨g2, H2, I2, S2, x2, kvs, ek, vv, rs⟩ := h2
    have hρ : p ∉ g.ρ := S.newρ hn
    have hp2 : H2 p = some (.dK []) := x2.keep p _ upd_same hρ
    obtain ⟨rs', c, rk⟩ := carries_of (P := X.prog) (w := X.w) vv
    obtain ⟨z, hd, vs0, r0, dd⟩ := dk_of I2.i.hok hp2
    cases r0
    rw [hp]
    refine ⟨rs', c, dd, fun h' dd' hs => ?_⟩
    have hlen : kvs.length = ks.length := by have := congrArg List.length ek; simpa using this
    have hmk : mergeK [] kvs = kvs := by
      have := mergeK_new kvs [] (by rw [ek]; exact nodup_inr nd) fun k _ => rfl
      simpa using this
    have hz : kvs.length ≤ sizeLine := by rw [sizeLine_eq]; omega
    have he : ∃ q, h'.get? p = some q := let ⟨q, _, _, hq, _⟩ := dd'; ⟨q, hq⟩
    have rk' : KV kvs (merged [] rs') := by have := rk.merge (kvs := []) .nil; rw [hmk] at this; exact this
    have I3 := d_write (t' := s2.toks + ws.length) I2.i (by rw [hp2]; exact True.intro) hs he (dk_new (H' := upd H2 p (.dK kvs)) hz hd rk' dd')
    have x02 : Step σ g H env g2 H2 s'.env := (Step.lay hn).trans S1 x2
    have hF2 : ¬ g2.F p := fun f => by
      rcases x2.fnew p f with f | f | f
      · exact S.newF hn f
      · rw [upd_same] at f; cases f
      · exact S.newO hn f
    have hρ2 : p ∉ g2.ρ := x2.notρ hρ (by rw [upd_same]; simp)
    have hO2 : ¬ OwnedAt s'.env σ p := fun z => S.newO hn (x2.owned p z)
    have he0 : e.H p = none := S.eNew hn
    refine ⟨g2, upd H2 p (.dK kvs), ⟨I3, by show 0 < s2.toks + ws.length; have := I2.t; omega⟩, S2.updX hF2 hρ2 hO2 he0, ?_, .ref p, rfl, p, rfl, ⟨[], kvs, .inr ⟨upd_same, (zipK_rep ek (rs.mono (.updN hF2)))⟩⟩, hρ2, hF2, hO2, he0, .inl hn⟩
    exact ⟨x02.F, x02.ρ, fun a o h z => by rw [upd_ne (fun e => by rw [e, hn] at h; cases h)]; exact x02.keep a o h z, x02.fnew, x02.owned⟩
/-- {}: an empty dict -/
theorem de_disp0 : DE X W (.Dict [] [] pos) (retM (.own (.dct []))) := fun pins s σ H e g env st I S =>
  have hn := I.i.hok.fresh (Nat.le_refl s.heap.objs.size)
  wpAny_Dict_empty ⟨g, _, ⟨I.i.laid (a := s.heap.objs.size) (o := .dK []) (t' := s.toks) (fun _ _ q => Heap.get?_push_of_some _ q) (Nat.le_refl _) (dk_empty s.heap I.i.big), I.t⟩, S.lay hn _, Step.lay hn, .ref s.heap.objs.size, rfl, s.heap.objs.size, rfl, ⟨[], [], .inr ⟨upd_same, rfl⟩⟩, S.newρ hn, S.newF hn, S.newO hn, S.eNew hn, .inl hn⟩

/-! ### o[i] of anything -/
def ixM (x y : R) : M R := fun s => match x.d with
  | .ref n => match s.st[n]?, asInt y.d with
    | some (.lst l), some i => match L2.atI l i with
      | some d => .ok (.val d) s
      | none => .stuck
    | _, _ => .stuck
  | .dct l => match asStr y.d with
    | some k => match valD l k with
      | some d => .ok (.val d) s
      | none => .stuck
    | none => .stuck
  | _ => pureF (fun p : R × R => ixF p.1 p.2) (x, y) s
theorem RRep.ref {G : Gm} {e : Ent} {g : Gh} {σ : L2.St} {H : Hp} {env : List Slot} {N : Addr → Prop} {v : V} {n : Nat} : ∀ {r : R}, r.d = .ref n → RRep N e g σ H env G r v → ∃ a, v = .ref a ∧ g.ρ[n]? = some a
  | .val d, h, q => by cases (show d = .ref n from h); exact q
  | .tmp d, h, ⟨a, _, o, _⟩ => by cases (show d = .ref n from h); exact (o : False).elim
  | .own d, h, ⟨a, _, o, _⟩ => by cases (show d = .ref n from h); exact (o : False).elim
theorem op2_ixM {value sl : Expr} (hs : PlainIx sl) (hu : X.A.units + 1 < cLine) : Op2 X W (subscriptTail value sl) ixM := by
  intro pins s σ H e g env st N x y u v I S rx ry
  unfold ixM
  split
  · rename_i n hx
    dsimp only
    split
    · rename_i l i hn hi
      split
      · rename_i d hd
        obtain ⟨w1, rw1, q1⟩ := rx
        obtain ⟨w2, rw2, q2⟩ := ry
        obtain ⟨a, ea, ha⟩ := RRep.ref hx q1
        obtain ⟨xs, hxs, rs⟩ := S.sto n _ a hn ha
        cases RRep.int (asInt_eq hi) q2
        obtain ⟨z, hz, rz⟩ := rs.atI hd
        have ho : OpR X (subscriptTail value sl) (rIx X.K) := fun pins s σ H x y v u Q I rx ry q => ix_seq value sl pins s σ H x y v u Q I rx ry q (hs _ _)
        exact WPt.of_ep I (ho pins s σ H w1 (.int i) u v _ I.i rw1 rw2 (.inl ⟨a, xs, i, z, ea, rfl, .of hxs, hz, Gives.same S rz⟩))
      · trivial
    · trivial
  · rename_i l hx
    split
    · rename_i k hk
      split
      · rename_i d hd
        obtain ⟨w1, rw1, q1⟩ := rx
        obtain ⟨w2, rw2, q2⟩ := ry
        obtain ⟨a, kvs, ea, ha, rk⟩ := RRep.dctK hd hx q1
        cases RRep.str (asStr_eq hk) q2
        obtain ⟨z, hz, rz⟩ := rk.val hd
        subst ea
        cases rw1
        have gt : DGet H a (.str k) (some z) := by have := DGet.k (k := .inr k) ha; rw [hz] at this; exact this
        refine WPt.of_ep I (tail_any (ops := [.ref a, v]) (dict_typeIs I.i gt) PySem.F.slot_dict_getitem.lookup (d_getItem (by exact hu) I.i gt rw2 fun w' s' I' rw' => ⟨z, H, I', rw', Gives.same S rz⟩) (hs _ _))
      · trivial
    · trivial
  · exact op2_ix hs pins s σ H e g env st N x y u v I S rx ry
/-- -x -/
def negF (r : R) : Option R := (asInt r.d).map fun i => .val (.int (-i))
def eNeg (fa : M R) : M R := bindM fa (pureF negF)
theorem de_neg {a : Expr} {fa : M R} (ha : DE X W a fa) : DE X W (.UnaryOp .USub a pos) (eNeg fa) := by
  intro pins s σ H e g env st I S
  have ho : Op1 X W (unaryOp .USub) (pureF negF) := op1_of un_neg fun e g σ H env st N x u r S q hr => by
    unfold negF at hr
    cases hi : asInt x.d with
    | none => rw [hi] at hr; cases hr
    | some i =>
      rw [hi] at hr
      cases hr
      exact ⟨i, RRep.int (asInt_eq hi) q, Gives.same S rfl⟩
  refine WPt.imp (tr := fun Q => wpAny (model X.prog X.w) X.A (eval a X.env) (fun v s1 => wpAny (model X.prog X.w) X.A (unaryOp .USub v) Q X.xe s1) X.xe s) ?_ (fun Q q => UnaryOp_ q)
  exact WPt.chain (ha pins s σ H e g env st I S) fun r s' v s1 g1 H1 _ I1 S1 x1 re1 => ho pins s1 σ H1 e g1 s'.env s'.st _ r v I1 S1 re1
end
end Dn


/-! Se1 -/
set_option Elab.async false
set_option linter.all false
set_option maxRecDepth 100000
set_option maxHeartbeats 2000000
namespace Dn
open PySem PySem.Spec PyProof.Rows L2
/-! ### sets of texts: two of them side by side -/
theorem en_set_eq : entryFor table "set.__eq__" = some Builtin.«frozenset.__eq__» := entryFor_alias (id' := "frozenset.__eq__") (by kernel_rfl) rfl (by decide +kernel) (by kernel_rfl)
section
variable {P : Program} {w : World} {A : Around} {E : Value → Shared → Prop} {s : Shared} {a b : Addr} {S T : Str → Bool} {n m : Nat}
theorem quiet_txt {x : Value} {k : Str} {Q : Bool → Shared → Prop} (hk : (strKind P w).is k x = true) (q : Q true s) : wpAny (model P w) A (Builtin.Frozenset.quietEq x) Q E s := by
  cases x <;> first | (exact wpAny_pure q) | (cases hk; done) | (exact absurd hk (by simp [strKind]))
theorem walk_txt {o o2 : Obj} {es es2 : Array (Int × Value)} {ep ep2 : Nat} {t t2 : SetTable} {Q : List (Int × Value) → Shared → Prop} (ho : s.heap.get? a = some o) (hd : o.data = .set es ep t) (hf : t.fits es.size = true) (hel : ElemsOf (strKind P w) es.toList)
    (ho2 : s.heap.get? b = some o2) (hd2 : o2.data = .set es2 ep2 t2) (hf2 : t2.fits es2.size = true) (hel2 : ElemsOf (strKind P w) es2.toList) (q : Q es.toList s) : wpAny (model P w) A (Builtin.Frozenset.walkUnseen a b) Q E s := by
  unfold Builtin.Frozenset.walkUnseen
  refine wpAny_bind (wpAny_setEntries_of ho hd hf ?_)
  refine wpAny_bind (wpAny_setEntries_of ho2 hd2 hf2 ?_)
  have hk : ∀ e ∈ es.toList ++ es2.toList, ∃ k, (strKind P w).is k e.2 = true := fun e he => by
    rcases List.mem_append.mp he with he | he
    · exact hel.keys e he
    · exact hel2.keys e he
  refine wpAny_bind (wpAny_forIn_list _ (fun rest r s1 => s1 = s ∧ r = (none, ()) ∧ ∀ e ∈ rest, ∃ k, (strKind P w).is k e.2 = true) _ ?_ ?_ _ _ ⟨rfl, rfl, hk⟩)
  · rintro e rest r s1 ⟨rfl, rfl, hr⟩
    obtain ⟨k, hk⟩ := hr e (by simp)
    refine wpAny_bind (quiet_txt hk ?_)
    rw [if_neg (by decide)]
    exact wpAny_pure ⟨rfl, rfl, fun x hx => hr x (by simp [hx])⟩
  · rintro r s1 ⟨rfl, rfl, _⟩
    exact wpAny_pure q
/-- one set within the other -/
def subB (es : List (Int × Value)) (P : Program) (w : World) (T : Str → Bool) : Prop := ∀ k : Str, (∃ e ∈ es, (strKind P w).is k e.2 = true) → T k = true
theorem set_sub {nm : String} {Q : Bool → Shared → Prop} (hS : s.heap.SetOf (strKind P w) a S n) (hT : s.heap.SetOf (strKind P w) b T m) (hnm : n ≤ m)
    (q : ∀ r : Bool, (r = true ↔ ∀ k, S k = true → T k = true) → Q r s) : wpAny (model P w) A (Builtin.Frozenset.subsetOf nm a b) Q E s := by
  obtain ⟨o, es, ep, t, ho, _, hd, hel, hmem, _, hf, hn⟩ := hS
  have hT' := hT
  obtain ⟨o2, es2, ep2, t2, ho2, _, hd2, hel2, _, _, hf2, hm⟩ := hT
  unfold Builtin.Frozenset.subsetOf Builtin.Frozenset.sizeOf
  refine wpAny_bind (wpAny_bind (wpAny_setEntries_of ho hd hf (wpAny_pure ?_)))
  refine wpAny_bind (wpAny_bind (wpAny_setEntries_of ho2 hd2 hf2 (wpAny_pure ?_)))
  rw [if_neg (by omega)]
  refine wpAny_bind (wpAny_setEpoch_of ho hd hf ?_)
  refine wpAny_bind (walk_txt ho hd hf hel ho2 hd2 hf2 hel2 ?_)
  have hk : ∀ e ∈ es.toList, ∃ k, (strKind P w).is k e.2 = true ∧ e.1 = (strKind P w).hash k ∧ e.2.scannable = true := fun e he => let ⟨⟨k, h1, h2⟩, h3⟩ := hel e he; ⟨k, h1, h2, h3⟩
  refine wpAny_bind (wpAny_mono (wpAny_forIn_list _ (fun rest r s1 => s1 = s ∧ r = (none, ()) ∧ ∃ pre, es.toList = pre ++ rest ∧ ∀ e ∈ pre, ∀ k, (strKind P w).is k e.2 = true → T k = true) (fun r s1 => s1 = s ∧ ((r.1 = none ∧ ∀ e ∈ es.toList, ∀ k, (strKind P w).is k e.2 = true → T k = true) ∨ (r.1 = some false ∧ ∃ e ∈ es.toList, ∃ k, (strKind P w).is k e.2 = true ∧ T k = false))) ?_ ?_ _ _ ⟨rfl, rfl, [], rfl, fun e h => by cases h⟩) ?_ fun _ _ h => h)
  · rintro e rest r s1 ⟨rfl, rfl, pre, hp, ht⟩
    have hm : e ∈ es.toList := by rw [hp]; simp
    obtain ⟨k, h1, h2, h3⟩ := hk e hm
    obtain ⟨eh, ex⟩ := e
    dsimp only at h1 h2 h3 ⊢
    subst h2
    refine wpAny_bind (wpAny_holding (wpAny_setFind_of h1 h3 hT' fun r hr => ?_))
    cases hk2 : T k with
    | false =>
      rw [hk2] at hr
      cases r with
      | some _ => cases hr
      | none => exact wpAny_pure ⟨rfl, .inr ⟨rfl, _, hm, k, h1, hk2⟩⟩
    | true =>
      rw [hk2] at hr
      cases r with
      | none => cases hr
      | some i =>
        unfold Builtin.Frozenset.unchanged
        refine wpAny_bind (wpAny_bind (wpAny_setEpoch_of ho hd hf ?_))
        rw [if_neg (by simp)]
        refine wpAny_pure (wpAny_pure ⟨rfl, rfl, pre ++ [((strKind P w).hash k, ex)], by rw [hp]; simp, fun e he k' hk' => ?_⟩)
        rcases List.mem_append.mp he with he | he
        · exact ht e he k' hk'
        · rw [List.mem_singleton] at he
          subst he
          rw [(strKind P w).inj ex k' k hk' h1]
          exact hk2
  · rintro r s1 ⟨rfl, rfl, pre, hp, ht⟩
    rw [List.append_nil] at hp
    exact ⟨rfl, .inl ⟨rfl, by rw [hp]; exact ht⟩⟩
  · rintro ⟨r, u⟩ s1 ⟨rfl, h | h⟩
    · obtain ⟨rfl, h⟩ := h
      exact wpAny_pure (q true ⟨fun _ k hk => let ⟨e, he, hp⟩ := (hmem k).mp hk; h e he k hp, fun _ => rfl⟩)
    · obtain ⟨rfl, e, he, k, h1, h2⟩ := h
      refine wpAny_pure (q false ⟨fun z => (by cases z), fun z => ?_⟩)
      rw [z k ((hmem k).mpr ⟨e, he, h1⟩)] at h2
      cases h2
/-- set(..) == set(..) -/
theorem set_same {Q : Value → Shared → Prop} (hS : s.heap.SetOf (strKind P w) a S n) (hT : s.heap.SetOf (strKind P w) b T m) (hu : A.units < cLine)
    (q : ∀ r : Bool, (r = true ↔ (n = m ∧ ∀ k, S k = true → T k = true)) → Q (.bool r) s) : wpAny (model P w) A (compareOp .Eq (.ref a) (.ref b)) Q E s := by
  refine wpAny_richCompare_same_room (op := .Eq) hS.typeIs hT.typeIs PySem.F.slot_set_eq (wpAny_call_entry PySem.F.slot_set_eq hS.typeIs en_set_eq ?_ (PySem.F.args_set_eq_2 _ _)) hu
  show wpAny _ _ (Builtin.Frozenset.slot1 "__eq__" ⟨[.ref a, .ref b], []⟩ >>= _) _ _ s
  refine wpAny_bind ?_
  unfold Builtin.Frozenset.slot1
  refine wpAny_bind (m := slotArgs "__eq__" 1 _) (wpAny_pure (wpAny_pure ?_))
  dsimp only
  refine wpAny_bind ?_
  unfold Builtin.Frozenset.isAnySet
  refine wpAny_bind (wpAny_isInstance (T := "set") (b := true) hT.typeIs sub_set_self ?_)
  refine wpAny_pure ?_
  rw [if_neg (by decide)]
  refine wpAny_bind (wpAny_pure (wpAny_bind (wpAny_pure ?_)))
  have hS' := hS
  have hT' := hT
  obtain ⟨o, es, ep, t, ho, _, hd, hel, hmem, _, hf, hn⟩ := hS
  obtain ⟨o2, es2, ep2, t2, ho2, _, hd2, hel2, _, _, hf2, hm⟩ := hT
  refine wpAny_bind (wpAny_bind (wpAny_setEntries_of ho hd hf (wpAny_pure ?_)))
  refine wpAny_bind (wpAny_bind (wpAny_setEntries_of ho2 hd2 hf2 (wpAny_pure ?_)))
  rw [hn, hm]
  by_cases e : n = m
  · rw [if_neg (by simp [e])]
    refine wpAny_bind (wpAny_bind (wpAny_bind (wpAny_isInstance (T := "set") (b := false) hS'.typeIs PySem.F.sub_set_frozenset (wpAny_pure ?_))))
    rw [if_neg (by decide)]
    exact set_sub hS' hT' (by omega) fun r hr => wpAny_pure ⟨_, rfl, (by simp), q r ⟨fun h => ⟨e, hr.mp h⟩, fun h => hr.mpr h.2⟩⟩
  · rw [if_pos (by simpa using e)]
    exact wpAny_bind (wpAny_pure (wpAny_pure ⟨_, rfl, (by simp), q false ⟨fun z => (by cases z), fun h => absurd h.1 e⟩⟩))
/-! set(text) -/
/-- the texts, each once -/
def step1 (acc : List Str) (k : Str) : List Str := if acc.contains k then acc else acc ++ [k]
def once (ks : List Str) : List Str := ks.foldl step1 []
theorem once_snoc (ks : List Str) (k : Str) : once (ks ++ [k]) = step1 (once ks) k := by
  unfold once
  rw [List.foldl_append]
  rfl
theorem step1_len (acc : List Str) (k : Str) : (step1 acc k).length = if acc.contains k = true then acc.length else acc.length + 1 := by
  unfold step1
  by_cases h : acc.contains k = true
  · rw [if_pos h, if_pos h]
  · rw [if_neg h, if_neg h]
    simp
theorem step1_has (acc : List Str) (k j : Str) : (step1 acc k).contains j = (acc.contains j || decide (j = k)) := by
  unfold step1
  by_cases h : acc.contains k = true
  · rw [if_pos h]
    by_cases e : j = k
    · rw [e, h]
      rfl
    · rw [decide_eq_false e, Bool.or_false]
  · rw [if_neg h]
    simp [List.contains_eq_mem, List.mem_append]
theorem once_go : ∀ (ks acc : List Str), (ks.foldl step1 acc).length ≤ acc.length + ks.length
  | [], acc => Nat.le_refl _
  | k :: ks, acc => by
    have h1 := once_go ks (step1 acc k)
    rw [step1_len] at h1
    simp only [List.foldl_cons, List.length_cons]
    split at h1 <;> omega
theorem once_le (ks : List Str) : (once ks).length ≤ ks.length := by
  have := once_go ks []
  rw [List.length_nil, Nat.zero_add] at this
  exact this
/-- the set at a is of these texts -/
def OfTxts (P : Program) (w : World) (h : Heap) (a : Addr) (ks : List Str) : Prop := h.SetOf (strKind P w) a (fun j => (once ks).contains j) (once ks).length
theorem OfTxts.keep {h h' : Heap} {ks : List Str} (x : OfTxts P w h a ks) (k : ∀ o, h.get? a = some o → h'.get? a = some o) : OfTxts P w h' a ks := by
  obtain ⟨o, es, ep, t, ho, r⟩ := x
  exact ⟨o, es, ep, t, k o ho, r⟩
theorem txts_grow {I : Addr} {fp wr : List Addr} {G : Array GenState → Array GenState → Prop} {cnt : Nat} {Pv : Nat → Value → Prop} {St : Nat → Shared → Prop} {R : Result → Shared → Prop}
    (W : WalksS P w A.in1 I fp wr G cnt Pv St) (D : Addr) (hD : D ∉ fp) (ks : List Str) (hcnt : cnt = ks.length) (hb : ks.length + 1 < scanBound) (hv : ∀ i v, Pv i v → ∃ k u, ks[i]? = some k ∧ v = .str k u) :
    ∀ (left i : Nat) (sh : Shared), cnt - i = left → i ≤ cnt → St i sh → OfTxts P w sh.heap D (ks.take i) →
      (∀ sh', Moved (D :: wr) G sh sh' → OfTxts P w sh'.heap D ks → R (.ok (.ret .none)) sh') → codeAny (model P w) A (.builtin "set.update.loop" ⟨[.ref D, .ref I], []⟩) R sh := by
  have hDw : D ∉ wr := fun z => hD (W.sub _ z)
  have up : ∀ x ∈ wr, x ∈ D :: wr := fun x hx => List.mem_cons_of_mem _ hx
  intro left
  induction left with
  | zero =>
    intro i sh hl hi hst hS hR
    have hin : i = cnt := by omega
    subst hin
    refine codeAny_builtin F.entry_set_update_loop ?_
    rw [Around.under_plainId F.plain_set_update_loop _]
    show wpAny _ A.in1 (pyNext (.ref I) >>= _) _ _ sh
    refine wpAny_bind (W.done sh _ _ hst fun sh' hm => ?_)
    show wpAny _ A.in1 (ret Value.none) _ _ sh'
    rw [List.take_of_length_le (by omega)] at hS
    exact wpAny_pure (hR sh' (hm.mono up) (hS.keep fun o e => hm.heap D o hDw e))
  | succ left ih =>
    intro i sh hl hi hst hS hR
    have hlt : i < cnt := by omega
    refine codeAny_builtin F.entry_set_update_loop ?_
    rw [Around.under_plainId F.plain_set_update_loop _]
    show wpAny _ A.in1 (pyNext (.ref I) >>= _) _ _ sh
    refine wpAny_bind (W.item i sh _ _ hlt hst fun v sh' hP hst' hm => ?_)
    obtain ⟨z, u, hz, rfl⟩ := hv i v hP
    have hS' : OfTxts P w sh'.heap D (ks.take i) := hS.keep fun o e => hm.heap D o hDw e
    show wpAny _ A.in1 (holding [Value.str z u] (setAdd D (.str z u)) >>= _) _ _ sh'
    refine wpAny_bind (wpAny_holding ?_)
    unfold setAdd
    refine wpAny_holding ?_
    have hz2 : (strKind P w).is z (.str z u) = true := by
      show Value.isStrOf z (.str z u) = true
      simp [Value.isStrOf]
    refine wpAny_bind ((strKind P w).pyHash (k := z) hz2 ?_)
    have hle := once_le (ks.take i)
    rw [List.length_take] at hle
    refine wpAny_setAddHashed_of (s := { sh' with toks := sh'.toks + 1 }) hz2 rfl hS' (by omega) fun h' hsb hS2 => ?_
    have hS3 : OfTxts P w h' D (ks.take (i + 1)) := by
      have e1 : ks.take (i + 1) = ks.take i ++ [z] := by rw [List.take_add_one, hz]; rfl
      unfold OfTxts
      rw [e1, once_snoc, step1_len]
      exact SetOf_congr hS2 (fun k' => by rw [step1_has]) rfl
    refine wpAny_pure ⟨plainId_quiet F.plain_set_update_loop _, ih (i + 1) _ (by omega) hlt (W.frame _ sh' _ _ hst' (Nat.le_succ _) fun x hx o e => ?_) hS3 fun sh2 hm2 hS4 => ?_⟩
    · rw [hsb.2 x (fun z : x = D => hD (by rw [← z]; exact hx))]; exact e
    · refine hR sh2 (Moved.trans W.gtrans ((hm.mono up).then_heap (Nat.le_succ _) fun x o hx e => ?_) hm2) hS4
      rw [hsb.2 x (fun z : x = D => hx (by rw [z]; exact List.mem_cons_self))]; exact e
theorem txts_new {h : Heap} {led : Bool} (ho : h.get? a = some { cls := .type "set", dict := none, data := .set #[] 0 (.fresh 0 0 led) }) : OfTxts P w h a [] :=
  SetOf_congr ((PyProof.Rows.setObjOf_fresh (knd := strKind P w) led).setOf ho (by unfold scanBound; omega)) (fun _ => rfl) rfl
def chrs (x : Str) : List Str := x.cps.toList.map fun c => ⟨#[c]⟩
set_option maxHeartbeats 4000000 in
/-- set(x), x a text -/
theorem set_of_text {x : Str} {u : Tok} {Q : Value → Shared → Prop} (hh : A.handled = none) (hb : x.length + 1 < scanBound)
    (q : ∀ (h' : Heap) (tk : Nat), OfTxts P w h' s.heap.objs.size (chrs x) → (∀ y o, s.heap.get? y = some o → h'.get? y = some o) → Q (.ref s.heap.objs.size) { s with heap := h', toks := tk }) :
    wpAny (model P w) A (call (.type "set") [.str x u]) Q E s := by
  obtain ⟨c, tl, hmro⟩ := F.called_set.mro
  have made := F.called_set.made
  have ofT := F.called_set.sub
  refine wpAny_call (codeAny_of_tree ?_)
  show wpAny _ _ (callAny (.type "set") _) _ _ _
  refine wpAny_pure ⟨Code.quiet_builtin _ (by decide +kernel), codeAny_builtin F.entry_type_call ?_⟩
  rw [Around.under_plain (weight_type_call_type "set" [.str x u] []) rfl]
  have f1 := F.called_set.notType
  have f2 := F.called_set.canCreate
  have f3 := F.typeCall_set_1 (.str x u)
  repeat (any_goals (first | assumption | wp_step))
  refine codeAny_mono (code_set_new_1 (.str x u) (E := E) (Q₁ := fun ob s1 => ∃ led : Bool, ob = .ref s.heap.objs.size ∧ s1 = { s with heap := s.heap.push { cls := .type "set", dict := none, data := .set #[] 0 (.fresh 0 0 led) } }) fun led => ⟨led, rfl, rfl⟩) fun r s1 hr => ?_
  cases r with
  | error e => exact hr
  | ok fl =>
    cases fl with
    | ret ob =>
      obtain ⟨led, rfl, rfl⟩ := hr
      have at0 : (s.heap.push { cls := .type "set", dict := none, data := .set #[] 0 (.fresh 0 0 led) }).get? s.heap.objs.size = some { cls := .type "set", dict := none, data := .set #[] 0 (.fresh 0 0 led) } := Heap.get?_push_size _ rfl
      have ty0 : Shared.TypeIs { s with heap := s.heap.push { cls := .type "set", dict := none, data := .set #[] 0 (.fresh 0 0 led) } } (.ref s.heap.objs.size) "set" := ⟨_, at0, rfl⟩
      have f4 := F.called_set.init.lookup
      have f5 := F.called_set.init.bind (.ref s.heap.objs.size)
      repeat (any_goals (first | assumption | wp_step))
      refine codeAny_mono (codeAny_call_builtin (R := wants (fun r s2 => r = .none ∧ ∃ h' tk, s2 = { s with heap := h', toks := tk } ∧ OfTxts P w h' s.heap.objs.size (chrs x) ∧ (∀ y o, s.heap.get? y = some o → h'.get? y = some o)) E) F.called_set.init.plain F.entry_set_init (check_set_init_1 ty0 ?_)) fun r2 s2 hr2 => ?_
      · have g1 := PySem.F.sub_str_set
        have g2 := PySem.F.sub_str_frozenset
        have g3 : (Value.type "str" == Value.type "dict") = false := by decide
        unfold Builtin.«set.__init__» noKeywords Builtin.Frozenset.updateFrom
        generalize hPI : pyIter = PI
        wp_walk
        subst hPI
        refine wpAny_pyIter_str fun o St W hst => ?_
        refine wpAny_bind (wpAny_runValue ?_)
        have hh3 : A.in1.in1.in1.handled = none := by simp [hh]
        generalize hH : s.heap.push { cls := .type "set", dict := none, data := .set #[] 0 (.fresh 0 0 led) } = H0 at W hst at0 ⊢
        have sz0 : H0.objs.size = s.heap.objs.size + 1 := by rw [← hH, Heap.size_push]
        have hD : s.heap.objs.size ∉ [H0.objs.size] := fun z => by rw [List.mem_singleton.mp z] at sz0; omega
        have len : x.cps.size = (chrs x).length := by unfold chrs; simp
        have hv : ∀ i v, SignAt x i v → ∃ k u, (chrs x)[i]? = some k ∧ v = .str k u := fun i v ⟨c, u', hc, hx⟩ => ⟨⟨#[c]⟩, u', by unfold chrs; rw [List.getElem?_map, Array.getElem?_toList, hc]; rfl, hx⟩
        refine txts_grow (W A.in1.in1.in1 hh3).toS s.heap.objs.size hD (chrs x) len (by rw [← len]; exact hb) hv (x.cps.size - 0) 0 _ rfl (Nat.zero_le _) hst (txts_new (led := led) (Heap.get?_push_of_some _ at0)) fun s' hm hS' => ?_
        obtain ⟨h', g', d', tk', os'⟩ := s'
        have eg : g' = s.gens := hm.gens
        have ed : d' = s.drawn := hm.drawn
        have eo : os' = s.os := hm.os
        subst eg ed eo
        show wpAny _ _ _ _ _ _
        refine wpAny_pure ?_
        show wpAny _ _ (ret Value.none) _ _ _
        refine wpAny_pure ⟨rfl, h', tk', rfl, hS', fun y o e => ?_⟩
        have y0 : y < s.heap.objs.size := Heap.lt_size e
        refine hm.heap y o (fun z => ?_) (Heap.get?_push_of_some _ (by rw [← hH]; exact Heap.get?_push_of_some _ e))
        rcases List.mem_cons.mp z with z | z
        · exact absurd y0 (by rw [z]; exact Nat.lt_irrefl _)
        · rw [List.mem_singleton] at z
          exact absurd y0 (by rw [z, sz0]; exact Nat.not_lt.mpr (Nat.le_succ _))
      · cases r2 with
        | error e => exact hr2
        | ok fl2 =>
          cases fl2 with
          | ret r =>
            obtain ⟨rfl, h', tk, rfl, hS', hk'⟩ := hr2
            repeat (any_goals (first | assumption | wp_step))
            exact q _ _ hS' hk'
          | _ => exact hr2.elim
    | _ => exact hr.elim
end
end Dn
namespace Dn
open PySem PySem.Spec PyProof.Rows L2
/-! ### set(a) == set(b), read -/
def TxO (P : Program) (w : World) (a : Addr) (ks : List Str) : HO := .ext fun h => OfTxts P w h a ks
theorem txO_new {P : Program} {w : World} {H : Hp} {h : Heap} {a : Addr} {ks : List Str} (x : OfTxts P w h a ks) : ObjOk P w H h a (TxO P w a ks) :=
  ⟨x, (let ⟨o, _, _, _, ho, _⟩ := x; ⟨o, ho⟩), fun _ _ p k => OfTxts.keep p k⟩
def relTx (P : Program) : RelT (List Str) Value := fun _ _ g _ H _ G ks u => ∃ p, u = .ref p ∧ H p = some (TxO P G.w p ks) ∧ p ∉ g.ρ
instance {P : Program} : Up (relTx P) := ⟨fun _ q => q⟩
def txD : Option Str → M (List Str)
  | some z => if z.length < 4000 then retM (chrs z) else stuckM
  | none => stuckM
def txM : List R → M (List Str)
  | [r] => txD (asStr r.d)
  | _ => stuckM
/-- the same texts -/
def sameTx (ks ls : List Str) : Bool := decide ((once ks).length = (once ls).length) && (once ks).all (once ls).contains
def eSetEq (fs ft : M (List R)) : M R := bindM (bindM fs txM) fun ks => bindM (bindM ft txM) fun ls => retM (.val (.bl (sameTx ks ls)))
section
variable {X : Cx} {W : WX} {p pos : Pos} {e : Expr} {fs ft : M (List R)}
theorem rn_txs (hc : X.calm = true) (hg : Gl X "set") (hm : X.mg "set" = none) (ha : DAr X W [e] fs) (he : starEach [e] X.env = (false, eval e X.env) :: starEach [] X.env) : RunsE X W (eval (.Call (.Name "set" p) [e] [] pos) X.env) (relTx X.prog) (bindM fs txM) := by
  intro pins s σ H en g env st I S
  refine WPt.imp (tr := fun Q => wpAny (model X.prog X.w) X.A (spliced (backTo pos (starEach [e] X.env))) (fun vs s1 => wpAny (model X.prog X.w) X.A (call (.type "set") vs) Q X.xe s1) X.xe s) ?_
    (fun Q q => wpAny_Call_Name_kw (ld_blt I.i hg hm (by decide +kernel) (PyProof.Rows.callWith_type1 q he rfl) (by decide) (by decide)))
  refine WPt.chain (ha pos pins s σ H en g env st I S) fun rs s' us s1 g1 H1 _ I1 S1 x1 re1 => ?_
  obtain ⟨vs, rv, rr⟩ := re1
  rcases rs with _ | ⟨r, _ | ⟨r2, rs⟩⟩
  · trivial
  · show WPt X W pins σ en g1 H1 s'.env (relTx X.prog) (txD (asStr r.d) s') _
    cases hz : asStr r.d with
    | none => trivial
    | some z =>
      by_cases hl : z.length < 4000
      · have e0 : txD (some z) s' = .ok (chrs z) s' := by
          show (if z.length < 4000 then retM (chrs z) else stuckM) s' = _
          rw [if_pos hl]
          rfl
        rw [e0]
        obtain ⟨v, rfl, qv⟩ := RReps.one rr
        cases RRep.str (asStr_eq hz) qv
        obtain ⟨u, rfl⟩ : ∃ u, us = [.str z u] := by
          cases rv with
          | cons h t =>
            cases t
            obtain ⟨tk, rfl⟩ := h
            exact ⟨tk, rfl⟩
        show wpAny _ _ _ _ _ _
        refine tkn I1.t (set_of_text (P := X.prog) (w := X.w) (Q := fun u s2 => ∃ h' tk, OfTxts X.prog X.w h' s1.heap.objs.size (chrs z) ∧ (∀ y o, s1.heap.get? y = some o → h'.get? y = some o) ∧ u = .ref s1.heap.objs.size ∧ s2 = { s1 with heap := h', toks := tk }) (I1.i.ok.hd hc) (by unfold scanBound; omega) fun h' tk ho hk => ⟨h', tk, ho, hk, rfl, rfl⟩) fun u s2 t2 ⟨h', tk, ho, hk, e1, e2⟩ => ?_
        subst e1 e2
        have hn : H1 s1.heap.objs.size = none := I1.i.hok.fresh (Nat.le_refl _)
        exact ⟨g1, _, ⟨I1.i.laid (t' := tk) hk (Nat.le_refl _) (txO_new ho), t2⟩, S1.lay hn _, Step.lay hn, _, rfl, upd_same, S1.newρ hn⟩
      · have e0 : txD (some z) s' = .stuck := by
          show (if z.length < 4000 then retM (chrs z) else stuckM) s' = _
          rw [if_neg hl]
          rfl
        rw [e0]
        trivial
  · trivial
theorem sameTx_iff {ks ls : List Str} : (sameTx ks ls = true) ↔ ((once ks).length = (once ls).length ∧ ∀ k, (once ks).contains k = true → (once ls).contains k = true) := by
  unfold sameTx
  rw [Bool.and_eq_true, decide_eq_true_eq, List.all_eq_true]
  exact and_congr_right fun _ => ⟨fun h k hk => h k (List.contains_iff_mem.mp hk), fun h k hk => h k (List.contains_iff_mem.mpr hk)⟩
theorem seteq_in {e2 : Expr} {p2 pos2 : Pos} {pins : List (Addr × Obj)} {s : Shared} {σ : L2.St} {H : Hp} {en : Ent} {g : Gh} {env : List Slot} {st : List SO} (hc : X.calm = true) (hg : Gl X "set") (hm : X.mg "set" = none) (hu : X.A.units < cLine) (ha : DAr X W [e] fs) (he : starEach [e] X.env = (false, eval e X.env) :: starEach [] X.env)
    (hb : DAr X W [e2] ft) (he2 : starEach [e2] X.env = (false, eval e2 X.env) :: starEach [] X.env) (I : Iv X pins σ H s) (S : Sim (gm X) en g σ H env st) :
    WPt X W pins σ en g H env relV (eSetEq fs ft ⟨env, st⟩) (fun Q => wpAny (model X.prog X.w) X.A (eval (.Call (.Name "set" p) [e] [] pos) X.env) (fun v s1 => wpAny (model X.prog X.w) X.A (eval (.Call (.Name "set" p2) [e2] [] pos2) X.env) (fun u s2 => wpAny (model X.prog X.w) X.A (compareOp .Eq v u) Q X.xe s2) X.xe s1) X.xe s) := by
  refine WPt.chain (rn_txs hc hg hm ha he pins s σ H en g env st I S) fun ks s' v s1 g1 H1 _ I1 S1 x1 re1 => ?_
  refine WPt.chain (rn_txs hc hg hm hb he2 pins s1 σ H1 en g1 s'.env s'.st I1 S1) fun ls s2' u s2 g2 H2 _ I2 S2 x2 re2 => ?_
  obtain ⟨a, rfl, h1, n1⟩ := re1
  obtain ⟨b, rfl, h2, n2⟩ := re2
  have k1 : OfTxts X.prog X.w s2.heap a ks := (I2.i.hok a _ (x2.keep a _ h1 n1)).1
  have k2 : OfTxts X.prog X.w s2.heap b ls := (I2.i.hok b _ h2).1
  show wpAny _ _ _ _ _ _
  refine tkn I2.t (set_same (Q := fun u s3 => u = .bool (sameTx ks ls) ∧ s3 = s2) k1 k2 hu fun r hr => ⟨?_, rfl⟩) fun u s3 t3 ⟨e1, e2⟩ => ?_
  · congr 1
    rw [Bool.eq_iff_iff, hr, sameTx_iff]
  · subst e1 e2
    exact ⟨g2, H2, I2, S2, Step.refl, .bl _, rfl, rfl⟩
theorem de_seteq {e2 : Expr} {p2 pos2 pos3 : Pos} (hc : X.calm = true) (hg : Gl X "set") (hm : X.mg "set" = none) (hu : X.A.units < cLine) (ha : DAr X W [e] fs) (he : starEach [e] X.env = (false, eval e X.env) :: starEach [] X.env)
    (hb : DAr X W [e2] ft) (he2 : starEach [e2] X.env = (false, eval e2 X.env) :: starEach [] X.env) : DE X W (.Compare (.Call (.Name "set" p) [e] [] pos) [.Eq] [.Call (.Name "set" p2) [e2] [] pos2] pos3) (eSetEq fs ft) :=
  fun pins s σ H en g env st I S => (seteq_in hc hg hm hu ha he hb he2 I S).imp fun Q q => wpAny_Compare1 q rfl
theorem dt_seteq {e2 : Expr} {p2 pos2 pos3 : Pos} (hc : X.calm = true) (hg : Gl X "set") (hm : X.mg "set" = none) (hu : X.A.units < cLine) (ha : DAr X W [e] fs) (he : starEach [e] X.env = (false, eval e X.env) :: starEach [] X.env)
    (hb : DAr X W [e2] ft) (he2 : starEach [e2] X.env = (false, eval e2 X.env) :: starEach [] X.env) : DT X W (.Compare (.Call (.Name "set" p) [e] [] pos) [.Eq] [.Call (.Name "set" p2) [e2] [] pos2] pos3) (tVal (eSetEq fs ft)) := by
  intro pins s σ H en g env st I S
  refine (WPt.chain (seteq_in (p := p) (pos := pos) (p2 := p2) (pos2 := pos2) hc hg hm hu ha he hb he2 I S) fun x s' v s1 g1 H1 _ I1 S1 x1 re1 => tru_wpt I1 S1 re1).imp fun Q q => ?_
  exact wpAny_isTrue_Compare1 q rfl
end
end Dn


/-! Dn21 -/
set_option Elab.async false
set_option linter.all false
set_option maxRecDepth 100000
set_option maxHeartbeats 1000000
namespace Dn
open PySem PySem.Spec PyProof.Rows L2

/-! ### the text is read: from the tree to the reading -/
/-- what is known where a text stands -/
structure Cn where
  N : List Str
  sc : Scope
  blk : Bool
  fns : Str → Option FT
  cst : Str → Option D
  exs : Str → Bool
  mods : List Str
  sub : Str → Str → Option Bool
  hcl : Str → Option Bool
  refs : List Str
  W : Nat
def posOf (x : Str) : List Str → Option Nat
  | [] => none
  | y :: l => if x = y then some 0 else (posOf x l).map (· + 1)
theorem posOf_get {x : Str} : ∀ {l : List Str} {i : Nat}, posOf x l = some i → l[i]? = some x
  | [], _, h => by cases h
  | y :: l, i, h => by
    unfold posOf at h
    split at h
    · rename_i e
      cases h
      simp [e]
    · cases q : posOf x l with
      | none => rw [q] at h; cases h
      | some j =>
        rw [q] at h
        cases h
        simpa using posOf_get q
def kindIs (c : Cn) (x : Str) : Option NameKind := c.sc.names.lookup x
def odd (x : Str) : Bool := x == "__debug__" || x == "__classdict__" || x == "__name__"
/-- a name that is seen in the frame -/
def locOf (c : Cn) (x : Str) : Option Nat := if odd x then none else match kindIs c x with
  | some .local => posOf x c.N
  | some .cell => posOf x c.N
  | some .free => posOf x c.N
  | _ => none
/-- a name that is stored in the frame -/
def stoOf (c : Cn) (x : Str) : Option Nat := match kindIs c x with
  | some .local => posOf x c.N
  | some .cell => if c.blk then none else posOf x c.N
  | _ => none
def gloOf (c : Cn) (x : Str) : Bool := !odd x && (match kindIs c x with | some .globalImplicit => true | _ => false)
/-- a built-in name that the module does not hide -/
def bltOf (c : Cn) (x : Str) : Bool := gloOf c x && c.mods.contains x
inductive Md where
  | loc | bor | mov
def nameD (c : Cn) (m : Md) (x : Str) : M R := match locOf c x with
  | some i => match m with
    | .loc => eLoc i
    | .bor => eBor i
    | .mov => eMov i
  | none => if gloOf c x then (match c.cst x with | some d => eLit d | none => stuckM) else stuckM
def litD : Const → M R
  | .none => eLit .non
  | .bool b => eLit (.bl b)
  | .int i => eLit (.int i)
  | .str s => eLit (.str s)
  | _ => stuckM
def opD : Operator → R → R → M R
  | .Add => fun x y => pureF (fun p : R × R => addF p.1 p.2) (x, y)
  | .Sub => fun x y => pureF (fun p : R × R => subF p.1 p.2) (x, y)
  | .Mult => fun x y => pureF (fun p : R × R => mulF p.1 p.2) (x, y)
  | .Mod => fun x y => pureF (fun p : R × R => modF p.1 p.2) (x, y)
  | .FloorDiv => fun x y => pureF (fun p : R × R => fdvF p.1 p.2) (x, y)
  | .Pow => fun x y => pureF (fun p : R × R => powF p.1 p.2) (x, y)
  | _ => fun _ _ => stuckM
def cmpD : CmpOp → R → R → M R
  | .Eq => fun x y => pureF (fun p : R × R => eqF p.1 p.2) (x, y)
  | .NotEq => fun x y => pureF (fun p : R × R => neF p.1 p.2) (x, y)
  | .Lt => fun x y => pureF (fun p : R × R => icF (fun i j => decide (i < j)) p.1 p.2) (x, y)
  | .LtE => fun x y => pureF (fun p : R × R => icF (fun i j => decide (i ≤ j)) p.1 p.2) (x, y)
  | .Gt => fun x y => pureF (fun p : R × R => icF (fun i j => decide (i > j)) p.1 p.2) (x, y)
  | .GtE => fun x y => pureF (fun p : R × R => icF (fun i j => decide (i ≥ j)) p.1 p.2) (x, y)
  | .Is => fun x y => pureF (fun p : R × R => isF false p.1 p.2) (x, y)
  | .IsNot => fun x y => pureF (fun p : R × R => isF true p.1 p.2) (x, y)
  | .In => fun x y => pureF (fun p : R × R => inF false p.1 p.2) (x, y)
  | .NotIn => fun x y => pureF (fun p : R × R => inF true p.1 p.2) (x, y)
def noStarE : Expr → Bool
  | .Starred _ _ => false
  | _ => true
def noStar (es : List Expr) : Bool := es.all noStarE
def baseOk : Expr → Bool
  | .Call (.Name _ _) [] [] _ => false
  | _ => true
def isSet : Expr → Bool
  | .Set _ _ _ => true
  | _ => false
def isSlice : Expr → Bool
  | .Slice _ _ _ _ => true
  | _ => false
inductive Bk where
  | len | all | any | max | min | int | str | list | tuple
def Bk.name : Bk → Str
  | .len => "len" | .all => "all" | .any => "any" | .max => "max" | .min => "min" | .int => "int" | .str => "str" | .list => "list" | .tuple => "tuple"
def Bk.val : Bk → Value
  | .len => .builtin "len" | .all => .builtin "all" | .any => .builtin "any" | .max => .builtin "max" | .min => .builtin "min" | .int => .type "int" | .str => .type "str" | .list => .type "list" | .tuple => .type "tuple"
def Bk.h : Bk → List R → Option R
  | .len => fLen | .all => fAll true | .any => fAll false | .max => fMM true | .min => fMM false | .int => fInt | .str => fStr | .list => fList | .tuple => fTuple
def findB {α : Type} (f : Str) (nm : α → Str) : List α → Option α
  | [] => none
  | b :: l => if f = nm b then some b else findB f nm l
theorem findB_ok {α : Type} {f : Str} {nm : α → Str} : ∀ {l : List α} {b : α}, findB f nm l = some b → f = nm b
  | [], _, h => by cases h
  | a :: l, b, h => by
    unfold findB at h
    by_cases e : f = nm a
    · rw [if_pos e] at h
      cases h
      exact e
    · rw [if_neg e] at h
      exact findB_ok h
def biF (f : Str) : Option Bk := findB f Bk.name [.len, .all, .any, .max, .min, .int, .str, .list, .tuple]
inductive Tk where
  | int | bool | str | tuple | list
def Tk.name : Tk → Str
  | .int => "int" | .bool => "bool" | .str => "str" | .tuple => "tuple" | .list => "list"
def Tk.ty : Tk → String
  | .int => "int" | .bool => "bool" | .str => "str" | .tuple => "tuple" | .list => "list"
def tyF (f : Str) : Option Tk := findB f Tk.name [.int, .bool, .str, .tuple, .list]
inductive Sm where
  | index | join
def Sm.name : Sm → Str
  | .index => "index" | .join => "join"
def Sm.id : Sm → String
  | .index => "str.index" | .join => "str.join"
def Sm.h : Sm → Str → List R → Option R
  | .index => fIndex | .join => fJoin
def smF (f : Str) : Option Sm := findB f Sm.name [.index, .join]
/-- the places of a block's own names -/
def ownOf (N : List Str) : List (Str × NameKind) → List (Str × Nat)
  | [] => []
  | (x, k) :: l => match k with
    | .local => match posOf x N with
      | some i => (x, i) :: ownOf N l
      | none => ownOf N l
    | .cell => match posOf x N with
      | some i => (x, i) :: ownOf N l
      | none => ownOf N l
    | _ => ownOf N l
def strs? : List (Option Expr) → Option (List Str)
  | [] => some []
  | some (.Constant (.str z) _ _) :: l => (strs? l).map (z :: ·)
  | _ => none
def nodupB : List Str → Bool
  | [] => true
  | z :: l => !(l.contains z) && nodupB l
/-- set(a) -/
def setArg (c : Cn) : Expr → Option Expr
  | .Call (.Name x _) [a] [] _ => if x = "set" && bltOf c x && noStarE a then some a else none
  | _ => none
/-- set(a) == set(b) -/
def setPair (c : Cn) (a : Expr) (op : CmpOp) (b : Expr) : Option (Expr × Expr) := match op with
  | .Eq => match setArg c a, setArg c b with
    | some x, some y => some (x, y)
    | _, _ => none
  | _ => none
mutual
def denE : Nat → Cn → Md → Expr → M R
  | 0, _, _, _ => stuckM
  | n + 1, c, m, e => match e with
    | .Constant k _ _ => litD k
    | .Name x _ => nameD c m x
    | .BinOp a op b _ => eBin (opD op) (denE n c .bor a) (denE n c .bor b)
    | .UnaryOp op a _ => match op with
      | .USub => eNeg (denE n c .bor a)
      | .Not => eNotM (denE n c .bor a)
      | _ => stuckM
    | .BoolOp op vs pos => match vs with
      | [a] => denE n c .loc a
      | a :: b :: rest => match op with
        | .And => eAndM (denE n c .loc a) (denE n c .loc (.BoolOp .And (b :: rest) pos))
        | .Or => eOrM (denE n c .loc a) (denE n c .loc (.BoolOp .Or (b :: rest) pos))
      | [] => stuckM
    | .Compare a ops bs _ => match ops, bs with
      | [op], [b] => match setPair c a op b with
        | some (x, y) => eSetEq (denRs n c [x]) (denRs n c [y])
        | none => if isSet b then stuckM else eBin (cmpD op) (denE n c .bor a) (denE n c .bor b)
      | [op, op'], [b, d] => if isSet d then stuckM else eChain (cmpD op) (cmpD op') (denE n c .bor a) (denE n c .bor b) (denE n c .bor d)
      | _, _ => stuckM
    | .IfExp t a b _ => eIfM (denT n c t) (denE n c m a) (denE n c m b)
    | .Tuple es _ _ => eTupM (denDs n c es)
    | .List es _ => eLstM (denDs n c es)
    | .Subscript a sl _ => match sl with
      | .Slice lo hi st _ => match lo, hi, st with
        | none, none, some (.UnaryOp .USub (.Constant (.int 1) _ _) _) => eRev (denE n c .bor a)
        | none, none, none => eSlc (denE n c .bor a) (retM none) (retM none)
        | some l, none, none => eSlc (denE n c .bor a) (partF (denE n c .bor l)) (retM none)
        | none, some h, none => eSlc (denE n c .bor a) (retM none) (partF (denE n c .bor h))
        | some l, some h, none => eSlc (denE n c .bor a) (partF (denE n c .bor l)) (partF (denE n c .bor h))
        | _, _, _ => stuckM
      | sl => eBin ixM (denE n c .bor a) (denE n c .bor sl)
    | .Dict keys values _ => match keys with
      | [] => match values with
        | [] => retM (.own (.dct []))
        | _ => stuckM
      | keys => match strs? keys with
        | some ks => if nodupB ks && keys.length == values.length && decide (keys.length ≤ 15) then eDisp ks (denDs n c values) else stuckM
        | none => stuckM
    | .Call f args kws pos => match kws with
      | [] => match f with
        | .Name x _ => if gloOf c x then (match c.fns x with
            | some F => if noStar args then eFn F (denDs n c args) else stuckM
            | none => if bltOf c x && noStar args then (match biF x with
                | some b => match args with
                  | [] => stuckM
                  | args => eCall (denRs n c args) (pureF b.h)
                | none => if x = "isinstance" then (match args with
                    | [a, .Name T _] => if bltOf c T then (match tyF T with
                      | some t => eIsi t.ty (denE n c .bor a)
                      | none => stuckM) else stuckM
                    | _ => stuckM)
                  else stuckM)
              else stuckM)
          else stuckM
        | .Attribute o name apos => if baseOk o && apos.endLine == pos.line then
            (if name = "replace" then (match args with
              | [.Constant (.str y) _ _, .Constant (.str z) _ _] => if y == z then stuckM else eRepl y z none (denE n c .bor o)
              | [.Constant (.str y) _ _, .Constant (.str z) _ _, .Constant (.int (.ofNat k)) _ _] => if y == z then stuckM else eRepl y z (some k) (denE n c .bor o)
              | _ => stuckM)
            else match smF name with
              | some b => match args with
                | [a] => if noStarE a then eStrM (fun z => pureF (b.h z)) (denE n c .bor o) (denRs n c [a]) else stuckM
                | _ => stuckM
              | none => stuckM)
          else stuckM
        | _ => stuckM
      | _ => stuckM
    | .ListComp elt gens scope _ => match gens with
      | [⟨tg, iter, ifs, asy⟩] => if asy == 0 && !isSet iter && blkC c.N c.sc scope (ownOf c.N scope.names) then
          (let c' := { c with sc := relS scope c.sc, blk := true }
           match ifs with
            | [] => eComp ((ownOf c.N scope.names).map (·.2)) (denI n c tg iter) (denGc n c' ((ownOf c.N scope.names).map (·.2)) tg) (retM true) (denE n c' .loc elt)
            | [t] => eComp ((ownOf c.N scope.names).map (·.2)) (denI n c tg iter) (denGc n c' ((ownOf c.N scope.names).map (·.2)) tg) (denT n c' t) (denE n c' .loc elt)
            | _ => stuckM)
        else stuckM
      | _ => stuckM
    | _ => stuckM
termination_by structural n => n
def denT : Nat → Cn → Expr → M Bool
  | 0, _, _ => stuckM
  | n + 1, c, e => match e with
    | .UnaryOp op a _ => match op with
      | .Not => tNotM (denT n c a)
      | _ => stuckM
    | .BoolOp op vs pos => match vs with
      | [a] => denT n c a
      | a :: b :: rest => match op with
        | .And => tAndM (denT n c a) (denT n c (.BoolOp .And (b :: rest) pos))
        | .Or => tOrM (denT n c a) (denT n c (.BoolOp .Or (b :: rest) pos))
      | [] => stuckM
    | .Compare a ops bs _ => match ops, bs with
      | [op], [b] => match setPair c a op b with
        | some (x, y) => tVal (eSetEq (denRs n c [x]) (denRs n c [y]))
        | none => if isSet b then stuckM else tVal (eBin (cmpD op) (denE n c .bor a) (denE n c .bor b))
      | [op, op'], [b, d] => if isSet d then stuckM else tChn (cmpD op) (cmpD op') (denE n c .bor a) (denE n c .bor b) (denE n c .bor d)
      | _, _ => stuckM
    | .Name x p => tVal (denE n c .bor (.Name x p))
    | .Constant k j p => tVal (denE n c .bor (.Constant k j p))
    | .Call f args kws p => tVal (denE n c .bor (.Call f args kws p))
    | .Subscript a b p => tVal (denE n c .bor (.Subscript a b p))
    | _ => stuckM
termination_by structural n => n
def denDs : Nat → Cn → List Expr → M (List D)
  | 0, _, _ => stuckM
  | n + 1, c, es => match es with
    | [] => retM []
    | e :: es => if noStarE e then argD (denE n c .loc e) (denDs n c es) else stuckM
termination_by structural n => n
def denRs : Nat → Cn → List Expr → M (List R)
  | 0, _, _ => stuckM
  | n + 1, c, es => match es with
    | [] => retM []
    | e :: es => if noStarE e then argR (denE n c .bor e) (denRs n c es) else stuckM
termination_by structural n => n
/-- the iterable of a for, of a comprehension -/
def denI : Nat → Cn → Expr → Expr → M (List D)
  | 0, _, _, _ => stuckM
  | n + 1, c, tg, e => match e with
    | .Call f args kws pos => match f with
      | .Name x p => if x = "range" then (if bltOf c x && noStar args && !args.isEmpty && kws.isEmpty then eRange (denRs n c args) else stuckM)
          else if x = "enumerate" then (match tg with
            | .Tuple _ _ _ => if bltOf c x && noStar args && !args.isEmpty && kws.isEmpty then eWalk fEnum (denDs n c args) else stuckM
            | _ => stuckM)
          else if x = "zip" then (match tg with
            | .Tuple _ _ _ => if bltOf c x && noStar args && !args.isEmpty && kws.isEmpty then eWalk fZip (denDs n c args) else stuckM
            | _ => stuckM)
          else eIter (denE n c .loc (.Call (.Name x p) args kws pos))
      | f => eIter (denE n c .loc (.Call f args kws pos))
    | e => eIter (denE n c .loc e)
termination_by structural n => n
/-- targets -/
def denG : Nat → Cn → Expr → R → M Unit
  | 0, _, _ => fun _ => stuckM
  | n + 1, c, t => match t with
    | .Name x _ => match stoOf c x with
      | some i => if c.refs.contains x then asgRef i else asgM i
      | none => fun _ => stuckM
    | .Tuple es _ _ => if noStar es then gTupM es.length (denGs n c es) else fun _ => stuckM
    | _ => fun _ => stuckM
termination_by structural n => n
def denGs : Nat → Cn → List Expr → List D → M Unit
  | 0, _, _ => fun _ => stuckM
  | n + 1, c, ts => match ts with
    | [] => gsNil
    | t :: ts => if noStarE t then gsCons (denG n c t) (denGs n c ts) else fun _ => stuckM
termination_by structural n => n
def denGc : Nat → Cn → List Nat → Expr → R → M Unit
  | 0, _, _, _ => fun _ => stuckM
  | n + 1, c, is, t => match t with
    | .Name x _ => match stoOf c x with
      | some i => if is.contains i then asgM i else fun _ => stuckM
      | none => fun _ => stuckM
    | .Tuple es _ _ => if noStar es then gTupM es.length (denGcs n c is es) else fun _ => stuckM
    | _ => fun _ => stuckM
termination_by structural n => n
def denGcs : Nat → Cn → List Nat → List Expr → List D → M Unit
  | 0, _, _, _ => fun _ => stuckM
  | n + 1, c, is, ts => match ts with
    | [] => gsNil
    | t :: ts => if noStarE t then gsCons (denGc n c is t) (denGcs n c is ts) else fun _ => stuckM
termination_by structural n => n
end
/-- how the stores of a, b = x, y go: from the right, as a tuple, not told -/
inductive Sw where
  | par (l : List Nat) | tup | no
def swPure (lk : Str → Option NameKind) (ts vs : List Expr) : Option (Option (List Str)) :=
  if !(ts.length == 2 || ts.length == 3) || vs.length != ts.length then some none
  else if vs.any (fun | .Starred .. => true | _ => false) then some none
  else if (ts.filterMap fun | .Name id pos => if lk id == some .local && pos.line == (ts.head?.map (·.pos.line)).getD 0 then some id else none
                            | _ => none).length != ts.length ||
      (ts.filterMap fun | .Name id pos => if lk id == some .local && pos.line == (ts.head?.map (·.pos.line)).getD 0 then some id else none
                        | _ => none).eraseDups.length != (ts.filterMap fun | .Name id pos => if lk id == some .local && pos.line == (ts.head?.map (·.pos.line)).getD 0 then some id else none
                                                                           | _ => none).length then some none
  else if vs.all (foldedForSure 8) then some none
  else if vs.all (constantsAlone 8) then none
  else some (some (ts.filterMap fun | .Name id pos => if lk id == some .local && pos.line == (ts.head?.map (·.pos.line)).getD 0 then some id else none
                                    | _ => none))
def parD (c : Cn) (fs : M (List R)) (tl vl : List Expr) : M Fl := match tl with
  | [.Name x _, .Name y _] => if vl.length == 2 && swPure (kindIs c) tl vl == some (some [x, y]) && kindIs c x == some .local && kindIs c y == some .local then
      (match posOf x c.N, posOf y c.N with
        | some i, some j => sPar [i, j] fs
        | _, _ => stuckM)
      else stuckM
  | [.Name x _, .Name y _, .Name z _] => if vl.length == 3 && swPure (kindIs c) tl vl == some (some [x, y, z]) && kindIs c x == some .local && kindIs c y == some .local && kindIs c z == some .local then
      (match posOf x c.N, posOf y c.N, posOf z c.N with
        | some i, some j, some l => sPar [i, j, l] fs
        | _, _, _ => stuckM)
      else stuckM
  | _ => stuckM
def isComp : Expr → Bool
  | .ListComp _ _ _ _ => true
  | .SetComp _ _ _ _ => true
  | .DictComp _ _ _ _ _ => true
  | _ => false
def isTupE : Expr → Bool
  | .Tuple _ _ _ => true
  | _ => false
def isCallE : Expr → Bool
  | .Call _ _ _ _ => true
  | _ => false
mutual
def denS : Nat → Cn → Stmt → M Fl
  | 0, _, _ => stuckM
  | n + 1, c, s => match s with
    | .Pass _ => retM .nx
    | .Break _ => retM .brk
    | .Continue _ => retM .cont
    | .Return v _ => match v with
      | none => retM (.ret (.val .non))
      | some e => sRet (denE n c .mov e)
    | .If t a b _ => sIf (denT n c t) (denSs n c a) (denSs n c b)
    | .While t b els _ => if els.isEmpty then sWhile (denT n c t) (denSs n c b) c.W else stuckM
    | .For tg it b els _ => if els.isEmpty && !isSet it then sFor (denI n c tg it) (denG n c tg) (denSs n c b) else stuckM
    | .Raise e cause _ => match e, cause with
      | some (.Call (.Name x _) [.Constant (.str _) _ _] [] _), none => if gloOf c x && c.exs x then sRaise x else stuckM
      | _, _ => stuckM
    | .Expr e _ => match e with
      | .Constant k _ _ => match k with
        | .str _ => retM .nx
        | _ => stuckM
      | .Call f args kws cpos => match f with
        | .Attribute o name apos => if name = "append" then (match o with
            | .Name x _ => match args, kws with
              | [v], [] => match locOf c x with
                | some i => if noStarE v && apos.endLine == cpos.line then sApp i (denE n c .loc v) else stuckM
                | none => stuckM
              | _, _ => stuckM
            | _ => stuckM)
          else sDrop (denE n c .bor (.Call f args kws cpos))
        | f => sDrop (denE n c .bor (.Call f args kws cpos))
      | _ => stuckM
    | .Assign ts v pos => match ts with
      | [t] => match t with
        | .Name y py => match v with
          | .ListComp elt gens scope vpos => match stoOf c y with
            | some i => if c.refs.contains y then stuckM else
                if kindIs c y == some .local && py.line == vpos.line && !(scope.names.any fun (n, k) => n == y && (k == .local || k == .cell)) then
                  sAsg (denE n c .loc (.ListComp elt gens scope vpos)) (asgM i)
                else sAsg (denE n c .loc (.ListComp elt gens scope vpos)) (denG n c (.Name y py))
            | none => stuckM
          | v => if isComp v then stuckM else sAsg (denE n c .mov v) (denG n c (.Name y py))
        | .Tuple tl k tp => match v with
          | .Tuple vl k2 vp => match swPure (kindIs c) tl vl with
            | some (some _) => parD c (denRs n c vl) tl vl
            | some none => sAsg (denE n c .loc (.Tuple vl k2 vp)) (denG n c (.Tuple tl k tp))
            | none => stuckM
          | v => if isComp v then stuckM else sAsg (denE n c .loc v) (denG n c (.Tuple tl k tp))
        | .Subscript o ie _ => match o with
          | .Name x _ => match locOf c x with
            | some i => if isComp v then stuckM else sPut i (denE n c .mov v) (denE n c .bor ie)
            | none => stuckM
          | _ => stuckM
        | _ => stuckM
      | _ => stuckM
    | .Try b hs els fin _ => if els.isEmpty && fin.isEmpty && !hs.isEmpty then (match denHs n c hs with
        | some l => sTry c.sub (denSs n c b) l
        | none => stuckM) else stuckM
    | _ => stuckM
termination_by structural n => n
def denSs : Nat → Cn → List Stmt → M Fl
  | 0, _, _ => stuckM
  | n + 1, c, l => match l with
    | [] => retM .nx
    | s :: l => sSeq (denS n c s) (denSs n c l)
termination_by structural n => n
/-- the suite of an except clause: a return of what is written, continue, pass -/
def denHs : Nat → Cn → List ExceptHandler → Option (List (Str × M Fl))
  | 0, _, _ => none
  | n + 1, c, l => match l with
    | [] => some []
    | .ExceptHandler (some (.Name x _)) none [s] _ :: l => if gloOf c x && (c.hcl x).isSome then (match s with
        | .Return (some (.Constant k _ _)) _ => (denHs n c l).map ((x, sRet (litD k)) :: ·)
        | .Continue _ => (denHs n c l).map ((x, retM .cont) :: ·)
        | .Pass _ => (denHs n c l).map ((x, retM .nx) :: ·)
        | _ => none) else none
    | _ => none
termination_by structural n => n
end
end Dn


/-! Dn22 -/
set_option Elab.async false
set_option linter.all false
set_option maxRecDepth 100000
set_option maxHeartbeats 1000000
namespace Dn
open PySem PySem.Spec PyProof.Rows L2

/-! ### what is known of the text's place -/
structure Ctx (c : Cn) (X : Cx) (W : WX) (k : Nat) : Prop where
  hN : X.N = c.N
  nd : c.N.Nodup
  sc : X.env.scope = c.sc
  kind : c.sc.kind = .function
  calm : X.calm = true
  tk : Takes X W
  room : Room k X.A
  fnB : c.blk = false → ∀ x, X.fn x = true
  blt : ∀ x, c.mods.contains x = true → X.mg x = none
  fns : ∀ x F, c.fns x = some F → Cal X k x F
  cst : ∀ x d, c.cst x = some d → ∃ v u, X.mg x = some u ∧ RelV v u ∧ ∀ g H, Rep (gm X) g H d v
  exs : ∀ x, c.exs x = true → ExcD X x
  hcl : ∀ x, (c.hcl x).isSome = true → ∃ cv, (X.mg x = some cv ∨ (X.mg x = none ∧ bootBuiltins x = some cv)) ∧ SubOk X c.sub x cv
theorem Ctx.blkC {c : Cn} {X : Cx} {W : WX} {k : Nat} (h : Ctx c X W k) {scope : Scope} (hk : scope.kind = .function) (s : Shared) (H : Hp) (C : Addr) (cl : List (Str × Addr)) (fp : List Addr) :
    Ctx { c with sc := relS scope c.sc, blk := true } (X.blk s H scope (compEnvC scope cl C X.env) fp) WNo k :=
  ⟨h.hN, h.nd, by show relabel scope X.env = relS scope c.sc; rw [← h.sc]; rfl, hk, h.calm, takes_none5, h.room, fun z => (by cases z), h.blt, fun x F q => ⟨(h.fns x F q).ok⟩, h.cst, h.exs, h.hcl⟩
section
variable {c : Cn} {X : Cx} {W : WX} {k : Nat}
theorem odd_of {x : Str} (h : odd x = false) : (x == ("__debug__" : Str)) = false ∧ (x == ("__classdict__" : Str)) = false ∧ x ≠ "__name__" := by
  unfold odd at h
  simp only [Bool.or_eq_false_iff] at h
  exact ⟨h.1.1, h.1.2, by simpa using h.2⟩
theorem locOf_ok (h : Ctx c X W k) {x : Str} {i : Nat} (q : locOf c x = some i) : X.N[i]? = some x ∧ Vis X.env.scope x ∧ (x == ("__debug__" : Str)) = false ∧ (x == ("__classdict__" : Str)) = false := by
  unfold locOf at q
  split at q
  · cases q
  · rename_i ho
    obtain ⟨h1, h2, _⟩ := odd_of (by simpa using ho)
    rw [h.hN, h.sc]
    unfold kindIs at q
    split at q
    · rename_i e; exact ⟨posOf_get q, .inl e, h1, h2⟩
    · rename_i e; exact ⟨posOf_get q, .inr (.inl e), h1, h2⟩
    · rename_i e; exact ⟨posOf_get q, .inr (.inr e), h1, h2⟩
    · cases q
theorem stoOf_ok (h : Ctx c X W k) {x : Str} {i : Nat} (q : stoOf c x = some i) : X.N[i]? = some x ∧ Loc X.env.scope x ∧ (X.fn x = true ∨ X.env.scope.names.lookup x = some .local) := by
  unfold stoOf kindIs at q
  rw [h.hN, h.sc]
  split at q
  · rename_i e; exact ⟨posOf_get q, .inl e, .inr e⟩
  · rename_i e
    split at q
    · cases q
    · rename_i hb
      exact ⟨posOf_get q, .inr e, .inl (h.fnB (by simpa using hb) x)⟩
  · cases q
theorem gloOf_ok (h : Ctx c X W k) {x : Str} (q : gloOf c x = true) : Gl X x ∧ (x == ("__debug__" : Str)) = false ∧ x ≠ "__name__" := by
  unfold gloOf kindIs at q
  simp only [Bool.and_eq_true, Bool.not_eq_true'] at q
  obtain ⟨q1, q2⟩ := q
  obtain ⟨h1, h2, h3⟩ := odd_of q1
  refine ⟨?_, h1, h3⟩
  show X.env.scope.names.lookup x = _
  rw [h.sc]
  split at q2
  · assumption
  · cases q2
theorem bltOf_ok (h : Ctx c X W k) {x : Str} (q : bltOf c x = true) : Gl X x ∧ X.mg x = none ∧ (x == ("__debug__" : Str)) = false ∧ x ≠ "__name__" := by
  unfold bltOf at q
  simp only [Bool.and_eq_true] at q
  obtain ⟨h1, h2, h3⟩ := gloOf_ok h q.1
  exact ⟨h1, h.blt x q.2, h2, h3⟩
theorem stuckE {ex : Expr} : DE X W ex stuckM := fun _ _ _ _ _ _ _ _ _ _ => trivial
theorem stuckT {ex : Expr} : DT X W ex stuckM := fun _ _ _ _ _ _ _ _ _ _ => trivial
theorem stuckS {st : Stmt} : DS X W st stuckM := fun _ _ _ _ _ _ _ _ _ _ => trivial
theorem stuckSs {st : List Stmt} : DSs X W st stuckM := fun _ _ _ _ _ _ _ _ _ _ => trivial
theorem stuckI {tg ex : Expr} : DI X W tg ex stuckM := fun _ _ _ _ _ _ _ _ _ _ ask => ask.elim
theorem nameD_ok (h : Ctx c X W k) {x : Str} {pos : Pos} (m : Md) : DE X W (.Name x pos) (nameD c m x) := by
  unfold nameD
  cases q : locOf c x with
  | some i =>
    obtain ⟨h1, h2, h3, h4⟩ := locOf_ok h q
    cases m with
    | loc => exact de_loc h1 h2 h3 h4
    | bor => exact de_bor h1 h2 h3 h4
    | mov => exact de_mov h1 h2 h3 h4
  | none =>
    dsimp only
    split
    · rename_i hg
      cases hc : c.cst x with
      | none => exact stuckE
      | some d =>
        obtain ⟨v, u, h1, h2, h3⟩ := h.cst x d hc
        obtain ⟨g1, g2, g3⟩ := gloOf_ok h hg
        exact de_glb g1 h1 h2 g2 h3
    · exact stuckE
theorem litD_ok {k0 : Const} {j : Nat} {pos : Pos} : DE X W (.Constant k0 j pos) (litD k0) := by
  cases k0 with
  | none => exact de_non
  | bool b => exact de_bl
  | int i => exact de_int
  | str s => exact de_str
  | _ => exact stuckE
theorem stuckO2 {f : Value → Value → Sem Value} : Op2 X W f (fun _ _ => stuckM) := fun _ _ _ _ _ _ _ _ _ _ _ _ _ _ _ _ _ => trivial
theorem opD_ok {op : Operator} : Op2 X W (binaryOp op) (opD op) := by
  cases op with
  | Add => exact op2_add
  | Sub => exact op2_sub
  | Mult => exact op2_mul
  | Mod => exact op2_mod
  | FloorDiv => exact op2_fdv
  | Pow => exact op2_pow
  | _ => exact stuckO2
theorem cmpD_ok (h : Room k X.A) {op : CmpOp} : Op2 X W (compareOp op) (cmpD op) := by
  have hu : X.A.units + 65 < cLine := by have := h.un; omega
  cases op with
  | Eq => exact op2_eq (by omega)
  | NotEq => exact op2_ne (by omega)
  | Lt => exact op2_ic op_lt
  | LtE => exact op2_ic op_le
  | Gt => exact op2_ic op_gt
  | GtE => exact op2_ic op_ge
  | Is => exact op2_is
  | IsNot => exact op2_isnot
  | In => exact op2_in hu
  | NotIn => exact op2_notin hu
theorem noStar_cons {e : Expr} {es : List Expr} {env : Env} (h : noStarE e = true) : starEach (e :: es) env = (false, eval e env) :: starEach es env := by
  cases e <;> first | rfl | (exact absurd h (by simp [noStarE]))
theorem noStar_any : ∀ {es : List Expr} {env : Env} {pos : Pos}, noStar es = true → (backTo pos (starEach es env)).any (·.1) = false
  | [], _, _, _ => rfl
  | e :: es, env, pos, h => by
    unfold noStar at h
    rw [List.all_cons, Bool.and_eq_true] at h
    rw [noStar_cons h.1]
    show (false || (backTo pos (starEach es env)).any (·.1)) = false
    rw [noStar_any (es := es) h.2]
    rfl
theorem noStar_one {e : Expr} {env : Env} (h : noStarE e = true) : starEach [e] env = [(false, eval e env)] := by rw [noStar_cons h]; rfl
theorem base_ok {o : Expr} {m : Str} {env : Env} {w : Sem Value} (h : baseOk o = true) : attributeBase o m env w = w := by
  cases o <;> first
    | rfl
    | skip
  rename_i f args kws p
  cases f <;> first
    | rfl
    | skip
  rename_i x p2
  cases args with
  | cons a l => rfl
  | nil =>
    cases kws with
    | cons a l => rfl
    | nil => exact absurd h (by simp [baseOk])
theorem notSet_ok {it : Expr} {env : Env} (h : isSet it = false) : ∀ x, foldedSetIterable it env x = pure x := by
  intro x
  cases it <;> first | rfl | (exact absurd h (by simp [isSet]))
theorem marks_ok {op : CmpOp} {b : Expr} (h : isSet b = false) : behindInMarks op b = false := by
  cases b <;> first | rfl | (exact absurd h (by simp [isSet]))
theorem bk_boot (b : Bk) : bootBuiltins b.name = some b.val := by cases b <;> decide +kernel
theorem bk_op (h : Ctx c X W k) (b : Bk) : OpL X W b.val (pureF b.h) := by
  have hc := h.calm
  cases b with
  | len => exact opl_len
  | all => exact opl_all hc
  | any => exact opl_any hc
  | max => exact opl_max hc
  | min => exact opl_min hc
  | int => exact opl_int
  | str => exact opl_str
  | list => exact opl_list
  | tuple => exact opl_tuple
theorem tk_boot (t : Tk) : bootBuiltins t.name = some (.type t.ty) := by cases t <;> decide +kernel
theorem sm_ok (b : Sm) : PySem.Slot "str" b.name b.id ∧ typeOf (.builtin b.id) = pure (.type "method_descriptor") ∧ MtLs X W b.id (fun z => pureF (b.h z)) := by
  cases b with
  | index => exact ⟨PySem.F.slot_str_index, PySem.F.type_str_index, mtl_index⟩
  | join => exact ⟨PySem.F.slot_str_join, PySem.F.type_str_join, mtl_join⟩
end
end Dn


/-! Dn23 -/
set_option Elab.async false
set_option linter.all false
set_option maxRecDepth 100000
set_option maxHeartbeats 400000
namespace Dn
open PySem PySem.Spec PyProof.Rows L2
theorem stuckDs {X : Cx} {W : WX} {es : List Expr} : DAd X W es stuckM := fun _ _ _ _ _ _ _ _ _ _ _ => trivial
theorem stuckRs {X : Cx} {W : WX} {es : List Expr} : DAr X W es stuckM := fun _ _ _ _ _ _ _ _ _ _ _ => trivial
theorem stuckG {X : Cx} {W : WX} {t : Expr} : DG X W t (fun _ => stuckM) := fun _ _ _ _ _ _ _ _ _ _ _ _ _ _ => trivial
theorem stuckGs {X : Cx} {W : WX} {t : List Expr} : DGs X W t (fun _ => stuckM) := fun _ _ _ _ _ _ _ _ _ _ _ _ _ => trivial
theorem stuckGc {X : Cx} {W : WX} {is : List Nat} {t : Expr} : DGc X W is t (fun _ => stuckM) := fun _ _ _ _ _ _ _ _ _ _ _ _ _ _ _ => trivial
theorem stuckGcs {X : Cx} {W : WX} {is : List Nat} {t : List Expr} : DGcs X W is t (fun _ => stuckM) := fun _ _ _ _ _ _ _ _ _ _ _ _ _ => trivial
theorem asgn_cons {t : Expr} {ts : List Expr} {env : Env} (h : noStarE t = true) : (assignEach (t :: ts) env).map (·.2) = assign t env :: (assignEach ts env).map (·.2) := by
  cases t <;> first | rfl | (exact absurd h (by simp [noStarE]))
theorem asgn_cons2 {t : Expr} {ts : List Expr} {env : Env} (h : noStarE t = true) : assignEach (t :: ts) env = (false, assign t env) :: assignEach ts env := by
  cases t <;> first | rfl | (exact absurd h (by simp [noStarE]))
theorem asgn_len : ∀ {ts : List Expr} {env : Env}, noStar ts = true → (assignEach ts env).length = ts.length ∧ (assignEach ts env).findIdx? (·.1) = none
  | [], _, _ => ⟨rfl, rfl⟩
  | t :: ts, env, h => by
    unfold noStar at h
    rw [List.all_cons, Bool.and_eq_true] at h
    rw [asgn_cons2 h.1]
    obtain ⟨h1, h2⟩ := asgn_len (ts := ts) (env := env) h.2
    refine ⟨by simp [h1], ?_⟩
    rw [List.findIdx?_cons, h2]
    rfl
structure SndE (n : Nat) : Prop where
  E : ∀ {c : Cn} {X : Cx} {W : WX} {k : Nat} (m : Md) (e : Expr), Ctx c X W k → DE X W e (denE n c m e)
  T : ∀ {c : Cn} {X : Cx} {W : WX} {k : Nat} (e : Expr), Ctx c X W k → DT X W e (denT n c e)
  TW : ∀ {c : Cn} {X : Cx} {W : WX} {k : Nat} (op : BoolOp) (vs : List Expr) (pos : Pos), Ctx c X W k → DW X W (.BoolOp op vs pos) (denT n c (.BoolOp op vs pos))
  Ds : ∀ {c : Cn} {X : Cx} {W : WX} {k : Nat} (es : List Expr), Ctx c X W k → DAd X W es (denDs n c es)
  Rs : ∀ {c : Cn} {X : Cx} {W : WX} {k : Nat} (es : List Expr), Ctx c X W k → DAr X W es (denRs n c es)
  I : ∀ {c : Cn} {X : Cx} {W : WX} {k : Nat} (tg e : Expr), Ctx c X W k → DI X W tg e (denI n c tg e)
  G : ∀ {c : Cn} {X : Cx} {W : WX} {k : Nat} (t : Expr), Ctx c X W k → DG X W t (denG n c t)
  Gs : ∀ {c : Cn} {X : Cx} {W : WX} {k : Nat} (ts : List Expr), Ctx c X W k → DGs X W ts (denGs n c ts)
  Gc : ∀ {c : Cn} {X : Cx} {W : WX} {k : Nat} (is : List Nat) (t : Expr), Ctx c X W k → DGc X W is t (denGc n c is t)
  Gcs : ∀ {c : Cn} {X : Cx} {W : WX} {k : Nat} (is : List Nat) (ts : List Expr), Ctx c X W k → DGcs X W is ts (denGcs n c is ts)
section
variable {n : Nat} (ih : SndE n) {c : Cn} {X : Cx} {W : WX} {k : Nat} (h : Ctx c X W k)
include ih h
theorem snd_bool (op : BoolOp) (vs : List Expr) (pos : Pos) (m : Md) : DE X W (.BoolOp op vs pos) (denE (n + 1) c m (.BoolOp op vs pos)) := by
  cases vs with
  | nil => exact stuckE
  | cons a vs =>
    cases vs with
    | nil => exact de_one (ih.E _ a h)
    | cons b rest =>
      cases op with
      | And => exact de_and (ih.E _ a h) (ih.E _ _ h)
      | Or => exact de_or (ih.E _ a h) (ih.E _ _ h)
theorem setArg_ok {e x : Expr} (q : setArg c e = some x) : ∃ p pos, e = .Call (.Name "set" p) [x] [] pos ∧ Gl X "set" ∧ X.mg "set" = none ∧ starEach [x] X.env = (false, eval x X.env) :: starEach [] X.env := by
  unfold setArg at q
  split at q
  · rename_i y p a pos
    split at q
    · rename_i hc
      cases q
      simp only [Bool.and_eq_true, decide_eq_true_eq] at hc
      obtain ⟨⟨rfl, h2⟩, h3⟩ := hc
      obtain ⟨b1, b2, _, _⟩ := bltOf_ok h h2
      exact ⟨p, pos, rfl, b1, b2, noStar_cons h3⟩
    · cases q
  · cases q
theorem setPair_ok {a b x y : Expr} {op : CmpOp} (q : setPair c a op b = some (x, y)) : op = .Eq ∧ setArg c a = some x ∧ setArg c b = some y := by
  unfold setPair at q
  split at q
  · split at q
    · rename_i h1 h2
      cases q
      exact ⟨rfl, h1, h2⟩
    · cases q
  · cases q
theorem snd_cmp (a : Expr) (ops : List CmpOp) (bs : List Expr) (pos : Pos) (m : Md) : DE X W (.Compare a ops bs pos) (denE (n + 1) c m (.Compare a ops bs pos)) := by
  show DE X W (.Compare a ops bs pos) (match ops, bs with
      | [op], [b] => match setPair c a op b with
        | some (x, y) => eSetEq (denRs n c [x]) (denRs n c [y])
        | none => if isSet b then stuckM else eBin (cmpD op) (denE n c .bor a) (denE n c .bor b)
      | [op, op'], [b, d] => if isSet d then stuckM else eChain (cmpD op) (cmpD op') (denE n c .bor a) (denE n c .bor b) (denE n c .bor d)
      | _, _ => stuckM)
  split
  · split
    · rename_i hs
      obtain ⟨rfl, q1, q2⟩ := setPair_ok ih h hs
      obtain ⟨p1, pos1, rfl, g1, g2, g3⟩ := setArg_ok ih h q1
      obtain ⟨p2, pos2, rfl, _, _, g4⟩ := setArg_ok ih h q2
      exact de_seteq h.calm g1 g2 (by have := h.room.un; omega) (ih.Rs _ h) g3 (ih.Rs _ h) g4
    · split
      · exact stuckE
      · rename_i hs
        exact de_cmp (ih.E _ _ h) (ih.E _ _ h) (cmpD_ok h.room) (marks_ok (by simpa using hs))
  · split
    · exact stuckE
    · rename_i hs
      exact de_chain (ih.E _ _ h) (ih.E _ _ h) (ih.E _ _ h) (cmpD_ok h.room) (cmpD_ok h.room) (marks_ok (by simpa using hs))
  · exact stuckE
theorem snd_cmpT (a : Expr) (ops : List CmpOp) (bs : List Expr) (pos : Pos) : DT X W (.Compare a ops bs pos) (denT (n + 1) c (.Compare a ops bs pos)) := by
  show DT X W (.Compare a ops bs pos) (match ops, bs with
      | [op], [b] => match setPair c a op b with
        | some (x, y) => tVal (eSetEq (denRs n c [x]) (denRs n c [y]))
        | none => if isSet b then stuckM else tVal (eBin (cmpD op) (denE n c .bor a) (denE n c .bor b))
      | [op, op'], [b, d] => if isSet d then stuckM else tChn (cmpD op) (cmpD op') (denE n c .bor a) (denE n c .bor b) (denE n c .bor d)
      | _, _ => stuckM)
  split
  · split
    · rename_i hs
      obtain ⟨rfl, q1, q2⟩ := setPair_ok ih h hs
      obtain ⟨p1, pos1, rfl, g1, g2, g3⟩ := setArg_ok ih h q1
      obtain ⟨p2, pos2, rfl, _, _, g4⟩ := setArg_ok ih h q2
      exact dt_seteq h.calm g1 g2 (by have := h.room.un; omega) (ih.Rs _ h) g3 (ih.Rs _ h) g4
    · split
      · exact stuckT
      · rename_i hs
        exact dt_cmp (ih.E _ _ h) (ih.E _ _ h) (cmpD_ok h.room) (marks_ok (by simpa using hs))
  · split
    · exact stuckT
    · rename_i hs
      exact dt_chain (ih.E _ _ h) (ih.E _ _ h) (ih.E _ _ h) (cmpD_ok h.room) (cmpD_ok h.room) (marks_ok (by simpa using hs))
  · exact stuckT
theorem snd_sub (a sl : Expr) (pos : Pos) (m : Md) : DE X W (.Subscript a sl pos) (denE (n + 1) c m (.Subscript a sl pos)) := by
  have plain : PlainIx sl → DE X W (.Subscript a sl pos) (eBin ixM (denE n c .bor a) (denE n c .bor sl)) := fun hp =>
    de_ix (ih.E _ a h) (ih.E _ sl h) (op2_ixM hp (by have := h.room.un; omega))
  cases sl with
  | Slice lo hi st p =>
    clear plain
    show DE X W _ (match lo, hi, st with
        | none, none, some (.UnaryOp .USub (.Constant (.int 1) _ _) _) => eRev (denE n c .bor a)
        | none, none, none => eSlc (denE n c .bor a) (retM none) (retM none)
        | some l, none, none => eSlc (denE n c .bor a) (partF (denE n c .bor l)) (retM none)
        | none, some h, none => eSlc (denE n c .bor a) (retM none) (partF (denE n c .bor h))
        | some l, some h, none => eSlc (denE n c .bor a) (partF (denE n c .bor l)) (partF (denE n c .bor h))
        | _, _, _ => stuckM)
    split
    · exact de_rev (ih.E _ a h)
    · exact de_slc (ih.E _ a h) do_none do_none
    · exact de_slc (ih.E _ a h) (do_some (ih.E _ _ h)) do_none
    · exact de_slc (ih.E _ a h) do_none (do_some (ih.E _ _ h))
    · exact de_slc (ih.E _ a h) (do_some (ih.E _ _ h)) (do_some (ih.E _ _ h))
    · exact stuckE
  | _ => exact plain (fun _ _ => rfl)
theorem snd_args {f : List Expr → M (List D)} (args : List Expr) (hs : noStar args = true) : (args = [] ∨ ∃ a l, args = a :: l ∧ starEach (a :: l) X.env = (false, eval a X.env) :: starEach l X.env ∧ ∀ pos, (backTo pos (starEach l X.env)).any (·.1) = false) := by
  cases args with
  | nil => exact .inl rfl
  | cons a l =>
    unfold noStar at hs
    rw [List.all_cons, Bool.and_eq_true] at hs
    exact .inr ⟨a, l, rfl, noStar_cons hs.1, fun pos => noStar_any (es := l) hs.2⟩
theorem snd_bk (b : Bk) {x : Str} {p pos : Pos} {a : Expr} {l : List Expr} (hx : x = b.name) (hb : bltOf c x = true) (e1 : starEach (a :: l) X.env = (false, eval a X.env) :: starEach l X.env) (e2 : (backTo pos (starEach l X.env)).any (·.1) = false) :
    DE X W (.Call (.Name x p) (a :: l) [] pos) (eCall (denRs n c (a :: l)) (pureF b.h)) := by
  obtain ⟨g1, g2, g3, g4⟩ := bltOf_ok h hb
  have bt := bk_boot b
  rw [← hx] at bt
  have op := bk_op h b
  revert bt op
  cases b <;> intro bt op <;> first
    | exact de_callB op g1 g2 bt (ih.Rs _ h) g4 g3 e1 e2
    | exact de_callTy op g1 g2 bt (ih.Rs _ h) g4 g3 e1 e2
theorem snd_name (x : Str) (p : Pos) (args : List Expr) (pos : Pos) (m : Md) : DE X W (.Call (.Name x p) args [] pos) (denE (n + 1) c m (.Call (.Name x p) args [] pos)) := by
  show DE X W _ (if gloOf c x then (match c.fns x with
            | some F => if noStar args then eFn F (denDs n c args) else stuckM
            | none => if bltOf c x && noStar args then (match biF x with
                | some b => match args with
                  | [] => stuckM
                  | args => eCall (denRs n c args) (pureF b.h)
                | none => if x = "isinstance" then (match args with
                    | [a, .Name T _] => if bltOf c T then (match tyF T with
                      | some t => eIsi t.ty (denE n c .bor a)
                      | none => stuckM) else stuckM
                    | _ => stuckM)
                  else stuckM)
              else stuckM)
          else stuckM)
  split
  · rename_i hg
    obtain ⟨g1, g2, g3⟩ := gloOf_ok h hg
    cases hF : c.fns x with
    | some F =>
      dsimp only
      split
      · rename_i hs
        rcases snd_args ih h (f := fun _ => stuckM) args hs with rfl | ⟨a, l, rfl, e1, e2⟩
        · cases n with
          | zero =>
            intro pins s σ H e g env st I S
            trivial
          | succ n => exact de_fn0 (h.fns x F hF) h.room h.tk g1 g2
        · exact de_fn (h.fns x F hF) h.room h.tk g1 (ih.Ds _ h) g2 e1 (e2 pos)
      · exact stuckE
    | none =>
      dsimp only
      split
      · rename_i hb
        rw [Bool.and_eq_true] at hb
        cases hbi : biF x with
        | some b =>
          rcases snd_args ih h (f := fun _ => stuckM) args hb.2 with rfl | ⟨a, l, rfl, e1, e2⟩
          · exact stuckE
          · exact snd_bk ih h b (findB_ok hbi) hb.1 e1 (e2 pos)
        | none =>
          dsimp only
          split
          · rename_i hx
            split
            · rename_i a T p2
              split
              · rename_i hT
                cases ht : tyF T with
                | none => exact stuckE
                | some t =>
                  obtain ⟨b1, b2, b3, b4⟩ := bltOf_ok h hb.1
                  obtain ⟨c1, c2, c3, c4⟩ := bltOf_ok h hT
                  have hs := hb.2
                  unfold noStar at hs
                  rw [List.all_cons, Bool.and_eq_true] at hs
                  refine de_isi b1 b2 ?_ c1 c2 ?_ (ih.E _ a h) b4 b3 c4 c3 (by rw [noStar_cons hs.1]; rfl)
                  · rw [hx]; decide +kernel
                  · rw [findB_ok ht]; exact tk_boot t
              · exact stuckE
            · exact stuckE
          · exact stuckE
      · exact stuckE
  · exact stuckE
theorem snd_meth (o : Expr) (name : Str) (apos : Pos) (args : List Expr) (pos : Pos) (m : Md) : DE X W (.Call (.Attribute o name apos) args [] pos) (denE (n + 1) c m (.Call (.Attribute o name apos) args [] pos)) := by
  show DE X W _ (if baseOk o && apos.endLine == pos.line then
            (if name = "replace" then (match args with
              | [.Constant (.str y) _ _, .Constant (.str z) _ _] => if y == z then stuckM else eRepl y z none (denE n c .bor o)
              | [.Constant (.str y) _ _, .Constant (.str z) _ _, .Constant (.int (.ofNat k)) _ _] => if y == z then stuckM else eRepl y z (some k) (denE n c .bor o)
              | _ => stuckM)
            else match smF name with
              | some b => match args with
                | [a] => if noStarE a then eStrM (fun z => pureF (b.h z)) (denE n c .bor o) (denRs n c [a]) else stuckM
                | _ => stuckM
              | none => stuckM)
          else stuckM)
  split
  · rename_i hc
    rw [Bool.and_eq_true] at hc
    split
    · rename_i hn
      subst hn
      split
      · split
        · exact stuckE
        · rename_i hyz
          exact de_repl (ih.E _ o h) (by simpa using hyz) rfl (base_ok hc.1) hc.2
      · split
        · exact stuckE
        · rename_i hyz
          exact de_replN (ih.E _ o h) (by simpa using hyz) rfl (base_ok hc.1) hc.2
      · exact stuckE
    · cases hb : smF name with
      | none => exact stuckE
      | some b =>
        dsimp only
        split
        · rename_i a
          split
          · rename_i hs
            obtain ⟨k1, k2, k3⟩ := sm_ok (X := X) (W := W) b
            have e := findB_ok hb
            subst e
            refine de_sm k1 k2 k3 (ih.E _ o h) (ih.Rs _ h) (base_ok hc.1) ?_ hc.2 (noStar_cons hs) rfl
            rw [noStar_one hs]
            rfl
          · exact stuckE
        · exact stuckE
  · exact stuckE
end
end Dn


/-! Dn24 -/
set_option Elab.async false
set_option linter.all false
set_option maxRecDepth 100000
set_option maxHeartbeats 400000
namespace Dn
open PySem PySem.Spec PyProof.Rows L2
section
variable {n : Nat} (ih : SndE n) {c : Cn} {X : Cx} {W : WX} {k : Nat} (h : Ctx c X W k)
include ih h
theorem blkOk_c {scope : Scope} (q : blkC c.N c.sc scope (ownOf c.N scope.names) = true) : BlkOk X.N X.env.scope scope (ownOf c.N scope.names) := by
  rw [h.hN, h.sc]; exact blkOk_by q
theorem snd_lc (elt : Expr) (gens : List Comprehension) (scope : Scope) (pos : Pos) (m : Md) : DE X W (.ListComp elt gens scope pos) (denE (n + 1) c m (.ListComp elt gens scope pos)) := by
  show DE X W _ (match gens with
      | [⟨tg, iter, ifs, asy⟩] => if asy == 0 && !isSet iter && blkC c.N c.sc scope (ownOf c.N scope.names) then
          (match ifs with
            | [] => eComp ((ownOf c.N scope.names).map (·.2)) (denI n c tg iter) (denGc n { c with sc := relS scope c.sc, blk := true } ((ownOf c.N scope.names).map (·.2)) tg) (retM true) (denE n { c with sc := relS scope c.sc, blk := true } .loc elt)
            | [t] => eComp ((ownOf c.N scope.names).map (·.2)) (denI n c tg iter) (denGc n { c with sc := relS scope c.sc, blk := true } ((ownOf c.N scope.names).map (·.2)) tg) (denT n { c with sc := relS scope c.sc, blk := true } t) (denE n { c with sc := relS scope c.sc, blk := true } .loc elt)
            | _ => stuckM)
        else stuckM
      | _ => stuckM)
  split
  · rename_i tg iter ifs asy
    split
    · rename_i hq
      simp only [Bool.and_eq_true, Bool.not_eq_true', beq_iff_eq] at hq
      obtain ⟨⟨h0, hs⟩, hb⟩ := hq
      subst h0
      have bo := blkOk_c ih h hb
      have cc := fun s H C cl fp => h.blkC bo.kind s H C cl fp
      split
      · exact de_lc h.calm (by rw [h.hN]; exact h.nd) (ih.I tg iter h) bo (fun s H C cl fp => ih.Gc _ tg (cc s H C cl fp)) (fun s H C cl fp => dts_nil) (fun s H C cl fp => ih.E _ elt (cc s H C cl fp)) (notSet_ok hs)
      · rename_i t
        exact de_lc h.calm (by rw [h.hN]; exact h.nd) (ih.I tg iter h) bo (fun s H C cl fp => ih.Gc _ tg (cc s H C cl fp)) (fun s H C cl fp => dts_one (ih.T t (cc s H C cl fp))) (fun s H C cl fp => ih.E _ elt (cc s H C cl fp)) (notSet_ok hs)
      · exact stuckE
    · exact stuckE
  · exact stuckE
theorem dps_of : ∀ {keys : List (Option Expr)} {ks : List Str} {values : List Expr} {pos : Pos} {n' : Nat}, n' ≤ n → strs? keys = some ks → keys.length = values.length → (∀ n'', n'' ≤ n → SndE n'') → DPk X W pos keys values ks (denDs n' c values)
  | [], ks, values, pos, n', hn, hk, hl, ihs => by
    cases hk
    cases values with
    | nil =>
      cases n' with
      | zero => exact fun _ _ _ _ _ _ _ _ _ _ => trivial
      | succ n' => exact dp_nil
    | cons v vs => simp at hl
  | none :: keys, ks, values, pos, n', hn, hk, hl, ihs => by cases hk
  | some ke :: keys, ks, values, pos, n', hn, hk, hl, ihs => by
    cases n' with
    | zero => exact fun _ _ _ _ _ _ _ _ _ _ => trivial
    | succ n' =>
      cases values with
      | nil => simp at hl
      | cons v vs =>
        unfold strs? at hk
        split at hk
        · rename_i e; cases e
        · rename_i z j p l e
          injection e with e1 e2
          injection e1 with e1
          subst e1 e2
          cases hs : strs? keys with
          | none => rw [hs] at hk; cases hk
          | some ks' =>
            rw [hs] at hk
            cases hk
            show DPk X W pos _ _ _ (if noStarE v then argD (denE n' c .loc v) (denDs n' c vs) else stuckM)
            split
            · exact dp_cons ((ihs n' (by omega)).E _ v h) (dps_of (by omega) hs (by simpa using hl) ihs)
            · exact fun _ _ _ _ _ _ _ _ _ _ => trivial
        · cases hk
end
theorem nodupB_ok : ∀ {l : List Str}, nodupB l = true → l.Nodup
  | [], _ => List.nodup_nil
  | z :: l, h => by
    unfold nodupB at h
    rw [Bool.and_eq_true, Bool.not_eq_true'] at h
    refine List.nodup_cons.mpr ⟨fun m => ?_, nodupB_ok h.2⟩
    have := h.1
    rw [List.contains_eq_any_beq] at this
    have h2 := List.any_eq_false.mp this z m
    simp at h2
theorem strs_len : ∀ {l : List (Option Expr)} {ks : List Str}, strs? l = some ks → ks.length = l.length ∧ l.all (·.isSome) = true
  | [], _, h => by cases h; exact ⟨rfl, rfl⟩
  | none :: l, _, h => by cases h
  | some ke :: l, ks, h => by
    unfold strs? at h
    split at h
    · rename_i e; cases e
    · rename_i z j p l' e
      injection e with e1 e2
      subst e2
      cases hs : strs? l with
      | none => rw [hs] at h; cases h
      | some ks' =>
        rw [hs] at h
        cases h
        obtain ⟨h1, h2⟩ := strs_len hs
        exact ⟨by simp [h1], by rw [List.all_cons, h2]; rfl⟩
    · cases h
section
variable {n : Nat} (ih : SndE n) {c : Cn} {X : Cx} {W : WX} {k : Nat} (h : Ctx c X W k)
include ih h
theorem snd_dict (ihs : ∀ n'', n'' ≤ n → SndE n'') (keys : List (Option Expr)) (values : List Expr) (pos : Pos) (m : Md) : DE X W (.Dict keys values pos) (denE (n + 1) c m (.Dict keys values pos)) := by
  cases keys with
  | nil =>
    cases values with
    | nil => exact de_disp0
    | cons v vs => exact stuckE
  | cons ke keys =>
    show DE X W _ (match strs? (ke :: keys) with
        | some ks => if nodupB ks && (ke :: keys).length == values.length && decide ((ke :: keys).length ≤ 15) then eDisp ks (denDs n c values) else stuckM
        | none => stuckM)
    cases hk : strs? (ke :: keys) with
    | none => exact stuckE
    | some ks =>
      dsimp only
      split
      · rename_i hq
        simp only [Bool.and_eq_true, beq_iff_eq, decide_eq_true_eq] at hq
        obtain ⟨h1, h2⟩ := strs_len hk
        exact de_disp (dps_of ih h (Nat.le_refl _) hk hq.1.2 ihs) (nodupB_ok hq.1.1) h2 hq.1.2 (by simp) hq.2 h1
      · exact stuckE
theorem snd_ds (es : List Expr) : DAd X W es (denDs (n + 1) c es) := by
  cases es with
  | nil => exact dad_nil
  | cons e es =>
    show DAd X W _ (if noStarE e then argD (denE n c .loc e) (denDs n c es) else stuckM)
    split
    · rename_i hs
      exact dad_cons (ih.E _ e h) (ih.Ds es h) (noStar_cons hs)
    · exact stuckDs
theorem snd_rs (es : List Expr) : DAr X W es (denRs (n + 1) c es) := by
  cases es with
  | nil => exact dar_nil
  | cons e es =>
    show DAr X W _ (if noStarE e then argR (denE n c .bor e) (denRs n c es) else stuckM)
    split
    · rename_i hs
      exact dar_cons (ih.E _ e h) (ih.Rs es h) (noStar_cons hs)
    · exact stuckRs
theorem walk_args {args : List Expr} {kws : List Keyword} {x : Str} (hq : (bltOf c x && noStar args && !args.isEmpty && kws.isEmpty) = true) : kws = [] ∧ ∃ a l, args = a :: l ∧ (Gl X x ∧ X.mg x = none ∧ (x == ("__debug__" : Str)) = false ∧ x ≠ "__name__") ∧ starEach (a :: l) X.env = (false, eval a X.env) :: starEach l X.env ∧ ∀ pos, (backTo pos (starEach l X.env)).any (·.1) = false := by
  simp only [Bool.and_eq_true, Bool.not_eq_true'] at hq
  obtain ⟨⟨⟨h1, h2⟩, h3⟩, h4⟩ := hq
  rcases snd_args ih h (f := fun _ => stuckM) args h2 with rfl | ⟨a, l, rfl, e1, e2⟩
  · cases h3
  · exact ⟨List.isEmpty_iff.mp h4, a, l, rfl, bltOf_ok h h1, e1, e2⟩
theorem snd_i (tg e : Expr) : DI X W tg e (denI (n + 1) c tg e) := by
  cases e with
  | Call f args kws pos =>
    cases f with
    | Name x p =>
      show DI X W tg _ (if x = "range" then (if bltOf c x && noStar args && !args.isEmpty && kws.isEmpty then eRange (denRs n c args) else stuckM)
          else if x = "enumerate" then (match tg with
            | .Tuple _ _ _ => if bltOf c x && noStar args && !args.isEmpty && kws.isEmpty then eWalk fEnum (denDs n c args) else stuckM
            | _ => stuckM)
          else if x = "zip" then (match tg with
            | .Tuple _ _ _ => if bltOf c x && noStar args && !args.isEmpty && kws.isEmpty then eWalk fZip (denDs n c args) else stuckM
            | _ => stuckM)
          else eIter (denE n c .loc (.Call (.Name x p) args kws pos)))
      by_cases e1 : x = "range"
      · rw [if_pos e1]
        split
        · rename_i hq
          obtain ⟨rfl, a, l, rfl, ⟨g1, g2, g3, g4⟩, s1, s2⟩ := walk_args ih h hq
          subst e1
          exact di_range g1 g2 (ih.Rs _ h) s1 (s2 pos)
        · exact stuckI
      · rw [if_neg e1]
        by_cases e2 : x = "enumerate"
        · rw [if_pos e2]
          split
          · split
            · rename_i hq
              obtain ⟨rfl, a, l, rfl, ⟨g1, g2, g3, g4⟩, s1, s2⟩ := walk_args ih h hq
              subst e2
              exact di_enum g1 g2 (ih.Ds _ h) s1 (s2 pos)
            · exact stuckI
          · exact stuckI
        · rw [if_neg e2]
          by_cases e3 : x = "zip"
          · rw [if_pos e3]
            split
            · split
              · rename_i hq
                obtain ⟨rfl, a, l, rfl, ⟨g1, g2, g3, g4⟩, s1, s2⟩ := walk_args ih h hq
                subst e3
                exact di_zip g1 g2 (ih.Ds _ h) s1 (s2 pos)
              · exact stuckI
            · exact stuckI
          · rw [if_neg e3]
            exact di_seq (ih.E _ _ h)
    | _ => exact di_seq (ih.E _ _ h)
  | _ => exact di_seq (ih.E _ _ h)
theorem snd_g (t : Expr) : DG X W t (denG (n + 1) c t) := by
  cases t with
  | Name x p =>
    show DG X W _ (match stoOf c x with
      | some i => if c.refs.contains x then asgRef i else asgM i
      | none => fun _ => stuckM)
    cases q : stoOf c x with
    | none => exact stuckG
    | some i =>
      obtain ⟨h1, h2, h3⟩ := stoOf_ok h q
      dsimp only
      split
      · exact dg_ref (by rw [h.hN]; exact h.nd) h1 h2 h3
      · exact dg_name (by rw [h.hN]; exact h.nd) h1 h2 h3
  | Tuple es kk p =>
    show DG X W _ (if noStar es then gTupM es.length (denGs n c es) else fun _ => stuckM)
    split
    · rename_i hs
      obtain ⟨h1, h2⟩ := asgn_len (env := X.env) hs
      exact dg_tup h.calm (ih.Gs es h) h1 h2
    · exact stuckG
  | _ => exact stuckG
theorem snd_gs (ts : List Expr) : DGs X W ts (denGs (n + 1) c ts) := by
  cases ts with
  | nil => exact dgs_nil
  | cons t ts =>
    show DGs X W _ (if noStarE t then gsCons (denG n c t) (denGs n c ts) else fun _ => stuckM)
    split
    · rename_i hs
      exact dgs_cons (ih.G t h) (ih.Gs ts h) (asgn_cons hs)
    · exact stuckGs
theorem snd_gc (is : List Nat) (t : Expr) : DGc X W is t (denGc (n + 1) c is t) := by
  cases t with
  | Name x p =>
    show DGc X W is _ (match stoOf c x with
      | some i => if is.contains i then asgM i else fun _ => stuckM
      | none => fun _ => stuckM)
    cases q : stoOf c x with
    | none => exact stuckGc
    | some i =>
      obtain ⟨h1, h2, h3⟩ := stoOf_ok h q
      dsimp only
      split
      · rename_i hi
        exact dgc_name (by rw [h.hN]; exact h.nd) h1 h2 h3 (by simpa using hi)
      · exact stuckGc
  | Tuple es kk p =>
    show DGc X W is _ (if noStar es then gTupM es.length (denGcs n c is es) else fun _ => stuckM)
    split
    · rename_i hs
      obtain ⟨h1, h2⟩ := asgn_len (env := X.env) hs
      exact dgc_tup h.calm (ih.Gcs is es h) h1 h2
    · exact stuckGc
  | _ => exact stuckGc
theorem snd_gcs (is : List Nat) (ts : List Expr) : DGcs X W is ts (denGcs (n + 1) c is ts) := by
  cases ts with
  | nil => exact dgcs_nil
  | cons t ts =>
    show DGcs X W is _ (if noStarE t then gsCons (denGc n c is t) (denGcs n c is ts) else fun _ => stuckM)
    split
    · rename_i hs
      exact dgcs_cons (ih.Gc is t h) (ih.Gcs is ts h) (asgn_cons hs)
    · exact stuckGcs
theorem snd_tw (op : BoolOp) (vs : List Expr) (pos : Pos) : DW X W (.BoolOp op vs pos) (denT (n + 1) c (.BoolOp op vs pos)) := by
  cases vs with
  | nil => exact fun _ _ _ _ _ _ _ _ _ _ _ => trivial
  | cons a vs =>
    cases vs with
    | nil =>
      cases op with
      | And => exact dw_and1 (ih.T a h)
      | Or => exact dw_or1 (ih.T a h)
    | cons b rest =>
      cases op with
      | And => exact dw_and (ih.T a h) (ih.TW _ _ _ h)
      | Or => exact dw_or (ih.T a h) (ih.TW _ _ _ h)
theorem snd_t (e : Expr) : DT X W e (denT (n + 1) c e) := by
  cases e with
  | UnaryOp op a p =>
    cases op with
    | Not => exact dt_not (ih.T a h)
    | _ => exact stuckT
  | BoolOp op vs p => exact (snd_tw ih h op vs p).dt
  | Compare a ops bs p => exact snd_cmpT ih h a ops bs p
  | Name x p => exact dt_val (ih.E _ _ h) (fun _ => rfl)
  | Constant k0 j p => exact dt_val (ih.E _ _ h) (fun _ => rfl)
  | Call f args kws p => exact dt_val (ih.E _ _ h) (fun _ => rfl)
  | Subscript a b p => exact dt_val (ih.E _ _ h) (fun _ => rfl)
  | _ => exact stuckT
theorem snd_e (ihs : ∀ n'', n'' ≤ n → SndE n'') (m : Md) (e : Expr) : DE X W e (denE (n + 1) c m e) := by
  cases e with
  | Constant k0 j p => exact litD_ok
  | Name x p => exact nameD_ok h m
  | BinOp a op b p => exact de_bin (ih.E _ a h) (ih.E _ b h) opD_ok
  | UnaryOp op a p =>
    cases op with
    | USub => exact de_neg (ih.E _ a h)
    | Not => exact de_not (ih.E _ a h)
    | _ => exact stuckE
  | BoolOp op vs p => exact snd_bool ih h op vs p m
  | Compare a ops bs p => exact snd_cmp ih h a ops bs p m
  | IfExp t a b p => exact de_if (ih.T t h) (ih.E _ a h) (ih.E _ b h)
  | Tuple es kk p => exact de_tup (ih.Ds es h)
  | List es p => exact de_lst (ih.Ds es h)
  | Subscript a sl p => exact snd_sub ih h a sl p m
  | Dict keys values p => exact snd_dict ih h ihs keys values p m
  | Call f args kws p =>
    cases kws with
    | cons kw kws => exact stuckE
    | nil =>
      cases f with
      | Name x p2 => exact snd_name ih h x p2 args p m
      | Attribute o name apos => exact snd_meth ih h o name apos args p m
      | _ => exact stuckE
  | ListComp elt gens scope p => exact snd_lc ih h elt gens scope p m
  | _ => exact stuckE
end
theorem sndE_zero : SndE 0 := ⟨fun _ _ _ => stuckE, fun _ _ => stuckT, fun _ _ _ _ => fun _ _ _ _ _ _ _ _ _ _ _ => trivial, fun _ _ => stuckDs, fun _ _ => stuckRs, fun _ _ _ => stuckI, fun _ _ => stuckG, fun _ _ => stuckGs, fun _ _ _ => stuckGc, fun _ _ _ => stuckGcs⟩
theorem sndE_le : ∀ n, ∀ m, m ≤ n → SndE m
  | 0, m, hm => by
    cases (Nat.le_zero.mp hm)
    exact sndE_zero
  | n + 1, m, hm => by
    by_cases e : m = n + 1
    · subst e
      have ihs := sndE_le n
      have ih := ihs n (Nat.le_refl _)
      exact ⟨fun md e h => snd_e ih h ihs md e, fun e h => snd_t ih h e, fun op vs p h => snd_tw ih h op vs p, fun es h => snd_ds ih h es, fun es h => snd_rs ih h es, fun tg e h => snd_i ih h tg e, fun t h => snd_g ih h t, fun ts h => snd_gs ih h ts, fun is t h => snd_gc ih h is t, fun is ts h => snd_gcs ih h is ts⟩
    · exact sndE_le n m (by omega)
theorem sndE (n : Nat) : SndE n := sndE_le n n (Nat.le_refl _)
end Dn


/-! Dn25 -/
set_option Elab.async false
set_option linter.all false
set_option maxRecDepth 100000
set_option maxHeartbeats 400000
namespace Dn
open PySem PySem.Spec PyProof.Rows L2
structure CtxS (c : Cn) (X : Cx) (W : WX) (k : Nat) : Prop where
  c : Ctx c X W k
  pas : PassesOwn (model X.prog X.w) X.A X.env X.xe
  stk : X.stack = X.env :: X.outer
  frm : X.env.frame = some X.env.locals
theorem CtxS.tr {c : Cn} {X : Cx} {W W' : WX} {k : Nat} (h : CtxS c X W k) {pn : List (Addr × Obj)} {xe : Value → Shared → Prop} (t : Takes (X.tr pn xe) W') (p : PassesOwn (model X.prog X.w) X.A X.env xe) : CtxS c (X.tr pn xe) W' k :=
  ⟨⟨h.c.hN, h.c.nd, h.c.sc, h.c.kind, h.c.calm, t, h.c.room, h.c.fnB, h.c.blt, fun x F q => ⟨(h.c.fns x F q).ok⟩, h.c.cst, h.c.exs, h.c.hcl⟩, p, h.stk, h.frm⟩
theorem sw_no {v : Expr} {t : Option Expr} {l : Nat} {env : Env} (h : isComp v = false) : swapsWith v t l env = pure false := by
  cases v <;> first | rfl | (exact absurd h (by simp [isComp]))
theorem ss_name {x : Str} {p : Pos} {v : Expr} {env : Env} : swappedStores [.Name x p] v env = pure none := by cases v <;> rfl
theorem ss_tup {tl : List Expr} {kk : Nat} {p : Pos} {v : Expr} {env : Env} (h : isTupE v = false) : swappedStores [.Tuple tl kk p] v env = pure none := by
  cases v <;> first | rfl | (exact absurd h (by simp [isTupE]))
theorem sw_pure {env : Env} {lk : Str → Option NameKind} {ts vs : List Expr} {k1 k2 : Nat} {tp vp : Pos} {r : Option (List Str)} (hb : env.scope.kind = .function) (hl : ∀ x, env.kindOf x = lk x) (h : swPure lk ts vs = some r) : swappedStores [.Tuple ts k1 tp] (.Tuple vs k2 vp) env = pure r := by
  have hbk : env.blockKind = .function := by unfold Env.blockKind; rw [hb]; rfl
  have hko : env.kindOf = lk := funext hl
  unfold swPure at h
  unfold swappedStores
  rw [hbk, hko]
  simp only [bne_self_eq_false, Bool.or_false]
  by_cases e1 : (!(ts.length == 2 || ts.length == 3) || vs.length != ts.length) = true
  · rw [if_pos e1] at h; cases h; exact if_pos e1
  rw [if_neg e1] at h
  refine (if_neg e1).trans ?_
  clear e1
  revert h
  generalize hA : (vs.any fun x => match x with
    | .Starred _ _ => true
    | _ => false) = A
  generalize hF : vs.all (foldedForSure 8) = F
  generalize hC : vs.all (constantsAlone 8) = C
  generalize hN : (List.filterMap (fun x => match x with
    | Expr.Name id pos => if (lk id == some NameKind.local && pos.line == (Option.map (fun x => x.pos.line) ts.head?).getD 0) = true then some id else none
    | x => none) ts) = L
  intro h
  cases A with
  | true => rw [if_pos rfl] at h ⊢; cases h; rfl
  | false =>
    rw [if_neg Bool.false_ne_true] at h ⊢
    by_cases e2 : (L.length != ts.length || L.eraseDups.length != L.length) = true
    · rw [if_pos e2] at h ⊢; cases h; rfl
    · rw [if_neg e2] at h ⊢
      cases F with
      | true => rw [if_pos rfl] at h ⊢; cases h; rfl
      | false =>
        rw [if_neg Bool.false_ne_true] at h ⊢
        cases C with
        | true => rw [if_pos rfl] at h; cases h
        | false => rw [if_neg Bool.false_ne_true] at h ⊢; cases h; rfl
/-- what is stored where a comprehension stands behind a name -/
def swB (c : Cn) (y : Str) (py vp : Pos) (scope : Scope) : Bool := kindIs c y == some .local && py.line == vp.line && !(scope.names.any fun (n, k) => n == y && (k == .local || k == .cell))
theorem sw_lc {c : Cn} {env : Env} {y : Str} {py vp : Pos} {scope : Scope} {elt : Expr} {gens : List Comprehension} {l : Nat} (hb : env.scope.kind = .function) (hl : env.kindOf y = kindIs c y) : swapsWith (.ListComp elt gens scope vp) (some (.Name y py)) l env = pure (swB c y py vp scope) := by
  have hbk : env.blockKind = .function := by unfold Env.blockKind; rw [hb]; rfl
  unfold swapsWith swB
  simp only [hbk, hl, Expr.pos]
  rfl
theorem dss_one {X : Cx} {W : WX} {sm : Stmt} {f : M Fl} (h1 : DS X W sm f) : DSs X W [sm] f := by
  intro pins s σ H e g env st I S
  refine WPs.intro fun ask => wpAny_execs_cons (thn ((h1 pins s σ H e g env st I S).elim ask) fun fl s' hd => ?_)
  cases fl with
  | next => exact wpAny_execs_nil hd
  | brk => exact hd
  | cont => exact hd
  | ret v => exact hd
section
variable {n : Nat} {c : Cn} {X : Cx} {W : WX} {k : Nat} (h : CtxS c X W k)
include h
theorem kind_eq (x : Str) : X.env.kindOf x = kindIs c x := by
  show X.env.scope.names.lookup x = _
  rw [h.c.sc]; rfl
theorem fun_kind : X.env.scope.kind = .function := by rw [h.c.sc]; exact h.c.kind
theorem snd_setlc (elt : Expr) (gens : List Comprehension) (scope : Scope) (vp : Pos) (y : Str) (py pos : Pos) (i : Nat) (hi : stoOf c y = some i) (hy : kindIs c y = some .local) (hsw : swB c y py vp scope = true) :
    DS X W (.Assign [.Name y py] (.ListComp elt gens scope vp) pos) (sAsg (denE n c .loc (.ListComp elt gens scope vp)) (asgM i)) := by
  cases n with
  | zero => exact fun _ _ _ _ _ _ _ _ _ _ => trivial
  | succ n =>
    have ih := sndE n
    obtain ⟨i1, i2, i3⟩ := stoOf_ok h.c hi
    have hyl : X.env.scope.names.lookup y = some .local := by rw [h.c.sc]; exact hy
    have hsw' : ∀ gens, swapsWith (.ListComp elt gens scope vp) (some (.Name y py)) pos.line X.env = pure true := fun gens => by rw [sw_lc (c := c) (fun_kind h) (kind_eq h y), hsw]
    show DS X W _ (sAsg (match gens with
      | [⟨tg, iter, ifs, asy⟩] => if asy == 0 && !isSet iter && blkC c.N c.sc scope (ownOf c.N scope.names) then
          (match ifs with
            | [] => eComp ((ownOf c.N scope.names).map (·.2)) (denI n c tg iter) (denGc n { c with sc := relS scope c.sc, blk := true } ((ownOf c.N scope.names).map (·.2)) tg) (retM true) (denE n { c with sc := relS scope c.sc, blk := true } .loc elt)
            | [t] => eComp ((ownOf c.N scope.names).map (·.2)) (denI n c tg iter) (denGc n { c with sc := relS scope c.sc, blk := true } ((ownOf c.N scope.names).map (·.2)) tg) (denT n { c with sc := relS scope c.sc, blk := true } t) (denE n { c with sc := relS scope c.sc, blk := true } .loc elt)
            | _ => stuckM)
        else stuckM
      | _ => stuckM) (asgM i))
    split
    · rename_i tg iter ifs asy
      split
      · rename_i hq
        simp only [Bool.and_eq_true, Bool.not_eq_true', beq_iff_eq] at hq
        obtain ⟨⟨h0, hs⟩, hb⟩ := hq
        subst h0
        have bo := blkOk_c ih h.c hb
        have cc := fun s H C cl fp => h.c.blkC bo.kind s H C cl fp
        split
        · exact ds_setLc h.c.calm (by rw [h.c.hN]; exact h.c.nd) i1 hyl (hsw' _) (ih.I tg iter h.c) bo (fun s H C cl fp => ih.Gc _ tg (cc s H C cl fp)) (fun s H C cl fp => dts_nil) (fun s H C cl fp => ih.E _ elt (cc s H C cl fp)) (notSet_ok hs)
        · rename_i t
          exact ds_setLc h.c.calm (by rw [h.c.hN]; exact h.c.nd) i1 hyl (hsw' _) (ih.I tg iter h.c) bo (fun s H C cl fp => ih.Gc _ tg (cc s H C cl fp)) (fun s H C cl fp => dts_one (ih.T t (cc s H C cl fp))) (fun s H C cl fp => ih.E _ elt (cc s H C cl fp)) (notSet_ok hs)
        · exact fun _ _ _ _ _ _ _ _ _ _ => trivial
      · exact fun _ _ _ _ _ _ _ _ _ _ => trivial
    · exact fun _ _ _ _ _ _ _ _ _ _ => trivial
theorem snd_hs1 (l : List ExceptHandler) (r : List (Str × M Fl)) (x : Str) (np : Pos) (s : Stmt) (p : Pos) (ihr : ∀ r2, denHs n c l = some r2 → HdD X c.sub l r2) (q : (if gloOf c x && (c.hcl x).isSome then (match s with
          | .Return (some (.Constant k _ _)) _ => (denHs n c l).map ((x, sRet (litD k)) :: ·)
          | .Continue _ => (denHs n c l).map ((x, retM .cont) :: ·)
          | .Pass _ => (denHs n c l).map ((x, retM .nx) :: ·)
          | _ => none) else none) = some r) : HdD X c.sub (.ExceptHandler (some (.Name x np)) none [s] p :: l) r := by
  split at q
  · rename_i hq
    rw [Bool.and_eq_true] at hq
    obtain ⟨g1, g2, g3⟩ := gloOf_ok h.c hq.1
    obtain ⟨cv, hm, hsub⟩ := h.c.hcl x hq.2
    have nm : Names X x cv := ⟨g1, g2, by
      rcases hm with hm | ⟨hm, hb⟩
      · exact .inl hm
      · exact .inr ⟨hm, hb, g3⟩⟩
    have fin : ∀ (s : Stmt) (f : M Fl), (denHs n c l).map ((x, f) :: ·) = some r → (∀ (Y : Cx), DS Y WNo s f) → HdD X c.sub (.ExceptHandler (some (.Name x np)) none [s] p :: l) r := fun s f hr hf => by
      cases hd : denHs n c l with
      | none => rw [hd] at hr; cases hr
      | some r2 =>
        rw [hd] at hr
        cases hr
        exact .cons nm hsub (fun a oe pn => dss_one (hf _)) (ihr r2 hd)
    split at q
    · exact fin _ _ q fun Y => ds_ret litD_ok
    · exact fin _ _ q fun Y => ds_cont
    · exact fin _ _ q fun Y => ds_pass
    · cases q
  · cases q
theorem snd_hs : ∀ (n : Nat) (l : List ExceptHandler) (r : List (Str × M Fl)), denHs n c l = some r → HdD X c.sub l r
  | 0, l, r, q => by cases q
  | n + 1, [], r, q => by cases q; exact .nil
  | n + 1, .ExceptHandler ty nm body p :: l, r, q => by
    have no : ∀ {P : Prop}, denHs (n + 1) c (.ExceptHandler ty nm body p :: l) = none → P := fun e => by rw [e] at q; cases q
    cases ty with
    | none => exact no rfl
    | some te =>
      cases te with
      | Name x np =>
        cases nm with
        | some _ => exact no rfl
        | none =>
          cases body with
          | nil => exact no rfl
          | cons s rest =>
            cases rest with
            | cons _ _ => exact no rfl
            | nil =>
              clear no
              have q : (if gloOf c x && (c.hcl x).isSome then (match s with
                  | .Return (some (.Constant k _ _)) _ => (denHs n c l).map ((x, sRet (litD k)) :: ·)
                  | .Continue _ => (denHs n c l).map ((x, retM .cont) :: ·)
                  | .Pass _ => (denHs n c l).map ((x, retM .nx) :: ·)
                  | _ => none) else none) = some r := q
              exact snd_hs1 h l r x np s p (fun r2 hr => snd_hs n l r2 hr) q
      | _ => exact no rfl
end
end Dn


/-! Dn26 -/
set_option Elab.async false
set_option linter.all false
set_option maxRecDepth 100000
set_option maxHeartbeats 400000
namespace Dn
open PySem PySem.Spec PyProof.Rows L2
theorem sws {t v : Expr} {l : Nat} {env : Env} : swapsWithSole [t] v l env = swapsWith v (some t) l env := rfl
structure SndS (n : Nat) : Prop where
  S : ∀ {c : Cn} {X : Cx} {W : WX} {k : Nat} (st : Stmt), CtxS c X W k → DS X W st (denS n c st)
  Ss : ∀ {c : Cn} {X : Cx} {W : WX} {k : Nat} (l : List Stmt), CtxS c X W k → DSs X W l (denSs n c l)
section
variable {n : Nat} (ih : SndS n) {c : Cn} {X : Cx} {W : WX} {k : Nat} (h : CtxS c X W k)
include ih h
theorem snd_app (o : Expr) (apos cpos pos : Pos) (args : List Expr) (kws : List Keyword) : DS X W (.Expr (.Call (.Attribute o "append" apos) args kws cpos) pos) (match o with
            | .Name x _ => match args, kws with
              | [v], [] => match locOf c x with
                | some i => if noStarE v && apos.endLine == cpos.line then sApp i (denE n c .loc v) else stuckM
                | none => stuckM
              | _, _ => stuckM
            | _ => stuckM) := by
  split
  · rename_i x px
    split
    · rename_i v
      cases hl : locOf c x with
      | none => exact stuckS
      | some i =>
        dsimp only
        split
        · rename_i hq
          rw [Bool.and_eq_true] at hq
          obtain ⟨h1, h2, h3, h4⟩ := locOf_ok h.c hl
          exact ds_app h1 h2 h3 h4 ((sndE n).E _ v h.c) (noStar_one hq.1) hq.2
        · exact stuckS
    · exact stuckS
  · exact stuckS
theorem snd_expr (e : Expr) (pos : Pos) : DS X W (.Expr e pos) (denS (n + 1) c (.Expr e pos)) := by
  cases e with
  | Constant k0 j p =>
    cases k0 with
    | str s => exact ds_doc
    | _ => exact stuckS
  | Call f args kws cpos =>
    cases f with
    | Attribute o name apos =>
      show DS X W _ (if name = "append" then (match o with
            | .Name x _ => match args, kws with
              | [v], [] => match locOf c x with
                | some i => if noStarE v && apos.endLine == cpos.line then sApp i (denE n c .loc v) else stuckM
                | none => stuckM
              | _, _ => stuckM
            | _ => stuckM)
          else sDrop (denE n c .bor (.Call (.Attribute o name apos) args kws cpos)))
      by_cases e : name = "append"
      · rw [if_pos e]
        subst e
        exact snd_app ih h o apos cpos pos args kws
      · rw [if_neg e]
        exact ds_expr ((sndE n).E _ _ h.c) rfl
    | _ => exact ds_expr ((sndE n).E _ _ h.c) rfl
  | _ => exact stuckS
theorem snd_aname (y : Str) (py pos : Pos) (v : Expr) : DS X W (.Assign [.Name y py] v pos) (denS (n + 1) c (.Assign [.Name y py] v pos)) := by
  have plain : ∀ (m : Md), isComp v = false → DS X W (.Assign [.Name y py] v pos) (sAsg (denE n c m v) (denG n c (.Name y py))) := fun m hv => ds_asg ((sndE n).E _ v h.c) ((sndE n).G _ h.c) (sws.trans (sw_no hv)) ss_name rfl
  cases v with
  | ListComp elt gens scope vpos =>
    clear plain
    show DS X W _ (match stoOf c y with
            | some i => if c.refs.contains y then stuckM else
                if swB c y py vpos scope then
                  sAsg (denE n c .loc (.ListComp elt gens scope vpos)) (asgM i)
                else sAsg (denE n c .loc (.ListComp elt gens scope vpos)) (denG n c (.Name y py))
            | none => stuckM)
    cases hs : stoOf c y with
    | none => exact stuckS
    | some i =>
      dsimp only
      split
      · exact stuckS
      · split
        · rename_i hsw
          have hy : kindIs c y = some .local := by
            unfold swB at hsw
            simp only [Bool.and_eq_true, beq_iff_eq] at hsw
            exact hsw.1.1
          exact snd_setlc h elt gens scope vpos y py pos i hs hy hsw
        · rename_i hsw
          refine ds_asg ((sndE n).E _ _ h.c) ((sndE n).G _ h.c) ?_ ss_name rfl
          rw [sws, sw_lc (c := c) (fun_kind h) (kind_eq h y)]
          simp at hsw
          rw [hsw]
  | SetComp _ _ _ _ => exact stuckS
  | DictComp _ _ _ _ _ => exact stuckS
  | _ => exact plain _ rfl
theorem snd_atup (tl : List Expr) (kk : Nat) (tp pos : Pos) (v : Expr) : DS X W (.Assign [.Tuple tl kk tp] v pos) (denS (n + 1) c (.Assign [.Tuple tl kk tp] v pos)) := by
  have plain : ∀ (v : Expr), isComp v = false → swappedStores [.Tuple tl kk tp] v X.env = pure none → DS X W (.Assign [.Tuple tl kk tp] v pos) (sAsg (denE n c .loc v) (denG n c (.Tuple tl kk tp))) := fun v hv hw => ds_asg ((sndE n).E _ v h.c) ((sndE n).G _ h.c) (sws.trans (sw_no hv)) hw rfl
  cases v with
  | Tuple vl k2 vp =>
    cases hsp : swPure (kindIs c) tl vl with
    | none =>
      have : denS (n + 1) c (.Assign [.Tuple tl kk tp] (.Tuple vl k2 vp) pos) = stuckM := by
        show (match swPure (kindIs c) tl vl with
            | some (some _) => _
            | some none => _
            | none => stuckM) = stuckM
        rw [hsp]
      rw [this]; exact stuckS
    | some r =>
      cases r with
      | none =>
        have : denS (n + 1) c (.Assign [.Tuple tl kk tp] (.Tuple vl k2 vp) pos) = sAsg (denE n c .loc (.Tuple vl k2 vp)) (denG n c (.Tuple tl kk tp)) := by
          show (match swPure (kindIs c) tl vl with
            | some (some _) => _
            | some none => sAsg (denE n c .loc (.Tuple vl k2 vp)) (denG n c (.Tuple tl kk tp))
            | none => stuckM) = _
          rw [hsp]
        rw [this]
        exact plain _ rfl (sw_pure (fun_kind h) (kind_eq h) hsp)
      | some nms =>
        have : denS (n + 1) c (.Assign [.Tuple tl kk tp] (.Tuple vl k2 vp) pos) = parD c (denRs n c vl) tl vl := by
          show (match swPure (kindIs c) tl vl with
            | some (some _) => parD c (denRs n c vl) tl vl
            | some none => _
            | none => stuckM) = _
          rw [hsp]
        rw [this]
        clear this hsp plain
        unfold parD
        split
        · rename_i x px y py
          split
          · rename_i hq
            simp only [Bool.and_eq_true, beq_iff_eq] at hq
            obtain ⟨⟨⟨hv, hp⟩, hx⟩, hy⟩ := hq
            match vl, hv with
            | [a, b], _ =>
              split
              · rename_i i j hi hj
                exact ds_par h.c.calm (by rw [h.c.hN]; exact h.c.nd) (by rw [h.c.hN]; exact posOf_get hi) (by rw [h.c.hN]; exact posOf_get hj) (by rw [h.c.sc]; exact hx) (by rw [h.c.sc]; exact hy) ((sndE n).Rs _ h.c) (sw_pure (fun_kind h) (kind_eq h) hp) rfl
              · exact stuckS
          · exact stuckS
        · rename_i x px y py z pz
          split
          · rename_i hq
            simp only [Bool.and_eq_true, beq_iff_eq] at hq
            obtain ⟨⟨⟨⟨hv, hp⟩, hx⟩, hy⟩, hz⟩ := hq
            match vl, hv with
            | [a, b, d], _ =>
              split
              · rename_i i j l hi hj hl
                exact ds_par3 h.c.calm (by rw [h.c.hN]; exact h.c.nd) (by rw [h.c.hN]; exact posOf_get hi) (by rw [h.c.hN]; exact posOf_get hj) (by rw [h.c.hN]; exact posOf_get hl) (by rw [h.c.sc]; exact hx) (by rw [h.c.sc]; exact hy) (by rw [h.c.sc]; exact hz) ((sndE n).Rs _ h.c) (sw_pure (fun_kind h) (kind_eq h) hp) rfl
              · exact stuckS
          · exact stuckS
        · exact stuckS
  | ListComp _ _ _ _ => exact stuckS
  | SetComp _ _ _ _ => exact stuckS
  | DictComp _ _ _ _ _ => exact stuckS
  | _ => exact plain _ rfl (ss_tup rfl)
theorem snd_asub (o ie : Expr) (p' pos : Pos) (v : Expr) : DS X W (.Assign [.Subscript o ie p'] v pos) (denS (n + 1) c (.Assign [.Subscript o ie p'] v pos)) := by
  cases o with
  | Name x px =>
    show DS X W _ (match locOf c x with
            | some i => if isComp v then stuckM else sPut i (denE n c .mov v) (denE n c .bor ie)
            | none => stuckM)
    cases hl : locOf c x with
    | none => exact stuckS
    | some i =>
      dsimp only
      split
      · exact stuckS
      · rename_i hv
        obtain ⟨h1, h2, h3, h4⟩ := locOf_ok h.c hl
        exact ds_put h1 h2 h3 h4 ((sndE n).E _ v h.c) ((sndE n).E _ ie h.c) (sws.trans (sw_no (by simpa using hv)))
  | _ => exact stuckS
theorem snd_asg (ts : List Expr) (v : Expr) (pos : Pos) : DS X W (.Assign ts v pos) (denS (n + 1) c (.Assign ts v pos)) := by
  cases ts with
  | nil => exact stuckS
  | cons t ts =>
    cases ts with
    | cons _ _ => exact stuckS
    | nil =>
      cases t with
      | Name y py => exact snd_aname ih h y py pos v
      | Tuple tl kk tp => exact snd_atup ih h tl kk tp pos v
      | Subscript o ie p' => exact snd_asub ih h o ie p' pos v
      | _ => exact stuckS
theorem snd_raise (e cause : Option Expr) (pos : Pos) : DS X W (.Raise e cause pos) (denS (n + 1) c (.Raise e cause pos)) := by
  show DS X W _ (match e, cause with
      | some (.Call (.Name x _) [.Constant (.str _) _ _] [] _), none => if gloOf c x && c.exs x then sRaise x else stuckM
      | _, _ => stuckM)
  split
  · split
    · rename_i hq
      rw [Bool.and_eq_true] at hq
      obtain ⟨g1, g2, g3⟩ := gloOf_ok h.c hq.1
      exact ds_raise h.c.calm h.c.tk (h.c.exs _ hq.2) g1 g2
    · exact stuckS
  · exact stuckS
theorem snd_try (b : List Stmt) (hs : List ExceptHandler) (els fin : List Stmt) (pos : Pos) : DS X W (.Try b hs els fin pos) (denS (n + 1) c (.Try b hs els fin pos)) := by
  show DS X W _ (if els.isEmpty && fin.isEmpty && !hs.isEmpty then (match denHs n c hs with
        | some l => sTry c.sub (denSs n c b) l
        | none => stuckM) else stuckM)
  split
  · rename_i hq
    simp only [Bool.and_eq_true, Bool.not_eq_true'] at hq
    obtain ⟨⟨h1, h2⟩, h3⟩ := hq
    cases List.isEmpty_iff.mp h1
    cases List.isEmpty_iff.mp h2
    cases hd : denHs n c hs with
    | none => exact stuckS
    | some l =>
      cases hs with
      | nil => cases h3
      | cons h₀ hs => exact ds_try h.stk h.frm h.c.tk (fun W' pn xe t p => ih.Ss b (h.tr t p)) (snd_hs h n _ _ hd)
  · exact stuckS
theorem snd_s (st : Stmt) : DS X W st (denS (n + 1) c st) := by
  cases st with
  | Pass p => exact ds_pass
  | Break p => exact ds_break
  | Continue p => exact ds_cont
  | Return v p =>
    cases v with
    | none => exact ds_retN
    | some e => exact ds_ret ((sndE n).E _ e h.c)
  | If t a b p => exact ds_if ((sndE n).T t h.c) (ih.Ss a h) (ih.Ss b h)
  | While t b els p =>
    show DS X W _ (if els.isEmpty then sWhile (denT n c t) (denSs n c b) c.W else stuckM)
    split
    · rename_i hq
      cases List.isEmpty_iff.mp hq
      exact ds_while h.pas ((sndE n).T t h.c) (ih.Ss b h)
    · exact stuckS
  | For tg it b els p =>
    show DS X W _ (if els.isEmpty && !isSet it then sFor (denI n c tg it) (denG n c tg) (denSs n c b) else stuckM)
    split
    · rename_i hq
      simp only [Bool.and_eq_true, Bool.not_eq_true'] at hq
      cases List.isEmpty_iff.mp hq.1
      exact ds_for h.pas h.c.calm ((sndE n).I tg it h.c) ((sndE n).G tg h.c) (ih.Ss b h) (notSet_ok hq.2)
    · exact stuckS
  | Raise e cause p => exact snd_raise ih h e cause p
  | Expr e p => exact snd_expr ih h e p
  | Assign ts v p => exact snd_asg ih h ts v p
  | Try b hs els fin p => exact snd_try ih h b hs els fin p
  | _ => exact stuckS
theorem snd_ss (l : List Stmt) : DSs X W l (denSs (n + 1) c l) := by
  cases l with
  | nil => exact dss_nil
  | cons s l => exact dss_cons (ih.S s h) (ih.Ss l h)
end
theorem sndS : ∀ n, SndS n
  | 0 => ⟨fun _ _ => stuckS, fun _ _ => stuckSs⟩
  | n + 1 => ⟨fun st h => snd_s (sndS n) h st, fun l h => snd_ss (sndS n) h l⟩
end Dn


/-! Dn27 -/
set_option Elab.async false
set_option linter.all false
set_option maxRecDepth 100000
set_option maxHeartbeats 400000
namespace Dn
open PySem PySem.Spec PyProof.Rows L2
/-! ### a module -/
structure DefI where
  name : Str
  ps : List Str
  N : List Str
  args : Arguments
  sc : Scope
  body : List Stmt
structure Tb where
  defs : List DefI
  cst : List (Str × D)
  exs : List Str
  mods : List Str
  subs : List (Str × List Str)
  hcls : List Str
  refs : List Str
  W : Nat
  n : Nat
def Tb.sub (T : Tb) (y x : Str) : Option Bool := (T.subs.lookup y).map fun l => l.contains x
def Tb.hcl (T : Tb) (x : Str) : Option Bool := if T.hcls.contains x then some true else none
def cnOf (T : Tb) (fns : Str → Option FT) (d : DefI) : Cn := { N := d.N, sc := d.sc, blk := false, fns := fns, cst := fun x => T.cst.lookup x, exs := fun x => T.exs.contains x, mods := T.mods, sub := T.sub, hcl := T.hcl, refs := T.refs, W := T.W }
def findD (x : Str) : List DefI → Option DefI
  | [] => none
  | d :: l => if x = d.name then some d else findD x l
theorem findD_ok {x : Str} : ∀ {l : List DefI} {d : DefI}, findD x l = some d → d ∈ l ∧ x = d.name
  | [], _, h => by cases h
  | a :: l, d, h => by
    unfold findD at h
    by_cases e : x = a.name
    · rw [if_pos e] at h
      cases h
      exact ⟨by simp, e⟩
    · rw [if_neg e] at h
      obtain ⟨h1, h2⟩ := findD_ok h
      exact ⟨by simp [h1], h2⟩
/-- the defs, k calls deep -/
def callF (T : Tb) : Nat → Str → Option FT
  | 0, _ => none
  | k + 1, x => match findD x T.defs with
    | some d => some (funF d.N.length d.ps.length (denSs T.n (cnOf T (callF T k) d) d.body))
    | none => none
/-- what the module is to be -/
structure DefOk (K : PySem.W.Frag) (mg : Str → Option Value) (d : DefI) : Prop where
  ok : ∃ (f : Addr) (name qual : Str) (params : Arguments) (dV kV doc pm cdv ct oc : Value) (an od : Option Addr) (osl : Array (Option Value)),
    K.lookup f = some ⟨oc, od, .func (PySem.W.fnOf name qual params d.body d.sc dV kV doc pm an cdv ct), osl⟩ ∧ PySem.W.codeIn K cdv qual = true ∧ mg d.name = some (.ref f) ∧ PySem.W.keepIn K (.ref f) = true ∧ Binds K (PySem.W.fnOf name qual params d.body d.sc dV kV doc pm an cdv ct) d.ps []
  sc : FnScope d.N d.ps d.sc
def ExcK (K : PySem.W.Frag) (mg : Str → Option Value) (x : Str) : Prop := ∃ (C : Addr) (bmB : List Value) (B newId initId : String), ExcBaseFacts B newId initId bmB ∧ PySem.W.excIn K C bmB newId = true ∧ mg x = some (.ref C) ∧ PySem.W.keepIn K (.ref C) = true ∧
  PySem.W.subIn K (.ref C) (.type "BaseException") = some true ∧ PySem.W.typeIn K (.ref C) = some (.type "type")
structure ModOk (T : Tb) (w : World) (K : PySem.W.Frag) (mg : Str → Option Value) : Prop where
  defs : ∀ d ∈ T.defs, DefOk K mg d
  blt : ∀ x, T.mods.contains x = true → mg x = none
  cst : ∀ x d, T.cst.lookup x = some d → ∃ v u, mg x = some u ∧ RelV v u ∧ ∀ g H, Rep ⟨K, w, mg⟩ g H d v
  exs : ∀ x, T.exs.contains x = true → ExcK K mg x
  hcl : ∀ x, (T.hcl x).isSome = true → ∃ cv, (mg x = some cv ∨ (mg x = none ∧ bootBuiltins x = some cv)) ∧ ∀ (y : Str) (b : Bool) (A : Addr), T.sub y x = some b → mg y = some (.ref A) → PySem.W.exmOne K (.ref A) cv = some b
theorem funF_len {n np : Nat} {m : M Fl} {ds : List D} {st : List SO} (h : ds.length ≠ np) : funF n np m ds st = .stuck := by
  unfold funF
  rw [if_neg h]
section
variable {T : Tb} {P : Program} {w : World} {K : PySem.W.Frag} {mg : Str → Option Value} {base : Heap}
theorem ctx_of (M : ModOk T w K mg) {k : Nat} {d : DefI} (hd : d ∈ T.defs) (hfn : ∀ x F, callF T k x = some F → ∃ (f : Addr) (fd : FuncData) (ps : List Str) (n0 : Nat), FnD P w K mg base k f fd ps n0 F ∧ mg x = some (.ref f) ∧ PySem.W.keepIn K (.ref f) = true ∧ Binds K fd ps [] ∧ ∀ ds st, ds.length ≠ ps.length → F ds st = .stuck)
    {qual : Str} {f : Addr} {cdv : Value} {A : Around} {outer : List Env} {s : Shared} {H : Hp} {E : XK} (hr : Room k (A.deeper (envOfC qual d.sc s.heap.objs.size f cdv))) :
    CtxS (cnOf T (callF T k) d) (cxOf (L2.CX P w) P w K mg base d.N qual d.sc f cdv A outer s H E) (fun cls d _ H' => E cls d H') k := by
  have S := (M.defs d hd).sc
  refine ⟨⟨rfl, S.nd, rfl, S.kind, rfl, takes_of rfl rfl rfl rfl, hr, fun _ _ => rfl, M.blt, fun x F q => ⟨hfn x F q⟩, M.cst, fun x q => ?_, M.hcl⟩, passes_of rfl, rfl, rfl⟩
  obtain ⟨C, bmB, B, n1, n2, h1, h2, h3, h4, h5, h6⟩ := M.exs x q
  exact ⟨C, bmB, B, n1, n2, h1, h2, h3, h4, raises_own h5 h6⟩
theorem body_of (M : ModOk T w K mg) {k : Nat} {d : DefI} (hd : d ∈ T.defs) (hfn : ∀ x F, callF T k x = some F → ∃ (f : Addr) (fd : FuncData) (ps : List Str) (n0 : Nat), FnD P w K mg base k f fd ps n0 F ∧ mg x = some (.ref f) ∧ PySem.W.keepIn K (.ref f) = true ∧ Binds K fd ps [] ∧ ∀ ds st, ds.length ≠ ps.length → F ds st = .stuck)
    {qual : Str} {f : Addr} {cdv : Value} (A : Around) (outer : List Env) (s : Shared) (H : Hp) (E : XK) (hr : Room k (A.deeper (envOfC qual d.sc s.heap.objs.size f cdv))) :
    DSs (cxOf (L2.CX P w) P w K mg base d.N qual d.sc f cdv A outer s H E) (fun cls d _ H' => E cls d H') d.body (denSs T.n (cnOf T (callF T k) d) d.body) :=
  (sndS T.n).Ss d.body (ctx_of M hd hfn hr)
/-- every def does what it is read as -/
theorem callF_ok (M : ModOk T w K mg) : ∀ k x F, callF T k x = some F → ∃ (f : Addr) (fd : FuncData) (ps : List Str) (n0 : Nat), FnD P w K mg base k f fd ps n0 F ∧ mg x = some (.ref f) ∧ PySem.W.keepIn K (.ref f) = true ∧ Binds K fd ps [] ∧ ∀ ds st, ds.length ≠ ps.length → F ds st = .stuck
  | 0, x, F, h => by cases h
  | k + 1, x, F, h => by
    have h : (match findD x T.defs with
      | some d => some (funF d.N.length d.ps.length (denSs T.n (cnOf T (callF T k) d) d.body))
      | none => none) = some F := h
    cases hd : findD x T.defs with
    | none => rw [hd] at h; cases h
    | some d =>
      rw [hd] at h
      cases h
      obtain ⟨hm, rfl⟩ := findD_ok hd
      obtain ⟨f, name, qual, params, dV, kV, doc, pm, cdv, ct, oc, an, od, osl, k1, k2, k3, k4, k5⟩ := (M.defs d hm).ok
      exact ⟨f, _, d.ps, 0, fnD_of (enters_cells k1 k2 (M.defs d hm).sc) (fun A outer s H E hr => body_of M hm (callF_ok M k) A outer s H E hr), k3, k4, k5, fun ds st hl => funF_len hl⟩
/-- the law itself: no token need be out, if no name of it is a cell -/
theorem law_fn (M : ModOk T w K mg) {k : Nat} {d : DefI} (hd : d ∈ T.defs) (hnc : ∀ y ∈ d.sc.names, y.2 ≠ .cell) {f : Addr} {name qual : Str} {params : Arguments} {dV kV doc pm cdv ct oc : Value} {an od : Option Addr} {osl : Array (Option Value)}
    (k1 : K.lookup f = some ⟨oc, od, .func (PySem.W.fnOf name qual params d.body d.sc dV kV doc pm an cdv ct), osl⟩) (k2 : PySem.W.codeIn K cdv qual = true) :
    FnD P w K mg base (k + 1) f (PySem.W.fnOf name qual params d.body d.sc dV kV doc pm an cdv ct) d.ps d.ps.length (funF d.N.length d.ps.length (denSs T.n (cnOf T (callF T k) d) d.body)) :=
  fnD_of (enters_plain k1 k2 (M.defs d hd).sc hnc) fun A outer s H E hr => body_of M hd (callF_ok M k) A outer s H E hr
end
end Dn


/-! Dn28 -/
set_option Elab.async false
set_option linter.all false
set_option maxRecDepth 100000
set_option maxHeartbeats 1000000
namespace Dn
open PySem PySem.Spec PyProof.Rows L2
/-! ### a module's facts, looked up once -/
mutual
def cstB (K : PySem.W.Frag) : D → Value → Bool
  | .non, u => (match u with | .none => true | _ => false)
  | .bl b, u => (match u with | .bool c => b == c | _ => false)
  | .int i, u => (match u with | .int j _ => decide (i = j) | _ => false)
  | .str x, u => (match u with | .str y _ => decide (x = y) | _ => false)
  | .tup l, u => (match u with
    | .ref a => (match K.lookup a with
      | some ⟨.type c, _, .seq its _, _⟩ => decide (c = "tuple") && (decide (its.size ≤ sizeLine) && cstsB K l its.toList)
      | _ => false)
    | _ => false)
  | .lst l, u => (match u with
    | .ref a => (match K.lookup a with
      | some ⟨.type c, none, .seq its _, _⟩ => decide (c = "list") && (decide (its.size ≤ sizeLine) && cstsB K l its.toList)
      | _ => false)
    | _ => false)
  | .dct _, _ => false
  | .ref _, _ => false
def cstsB (K : PySem.W.Frag) : List D → List Value → Bool
  | [], us => us.isEmpty
  | d :: l, us => (match us with
    | u :: r => cstB K d u && cstsB K l r
    | [] => false)
end
section
variable {K : PySem.W.Frag} {w : World} {mg : Str → Option Value}
mutual
theorem cstB_ok : ∀ (d : D) (u : Value), cstB K d u = true → ∃ v, RelV v u ∧ ∀ g H, Rep ⟨K, w, mg⟩ g H d v
  | .non, u, h => by
    cases u with
    | none => exact ⟨.non, rfl, fun _ _ => rfl⟩
    | _ => cases h
  | .bl b, u, h => by
    cases u with
    | bool c =>
      have e : b = c := eq_of_beq (show (b == c) = true from h)
      exact ⟨.bl b, by rw [e] <;> rfl, fun _ _ => rfl⟩
    | _ => cases h
  | .int i, u, h => by
    cases u with
    | int j t =>
      have e : i = j := of_decide_eq_true h
      exact ⟨.int i, ⟨t, by rw [e]⟩, fun _ _ => rfl⟩
    | _ => cases h
  | .str i, u, h => by
    cases u with
    | str j t =>
      have e : i = j := of_decide_eq_true h
      exact ⟨.str i, ⟨t, by rw [e]⟩, fun _ _ => rfl⟩
    | _ => cases h
  | .tup l, u, h => by
    cases u with
    | ref a =>
      have h : (match K.lookup a with
        | some ⟨.type c, _, .seq its _, _⟩ => decide (c = "tuple") && (decide (its.size ≤ sizeLine) && cstsB K l its.toList)
        | _ => false) = true := h
      cases q : K.lookup a with
      | none => rw [q] at h; cases h
      | some o =>
        obtain ⟨oc, od, dt, osl⟩ := o
        rw [q] at h
        cases oc with
        | type c =>
          cases dt with
          | seq its n =>
            obtain ⟨h1, h2⟩ := He.ba (show (decide (c = "tuple") && (decide (its.size ≤ sizeLine) && cstsB K l its.toList)) = true from h)
            obtain ⟨h3, h4⟩ := He.ba h2
            obtain ⟨vs, k1, k2⟩ := cstsB_ok l its.toList h4
            exact ⟨.ref a, rfl, fun g H => ⟨a, vs, rfl, .inr ⟨_, its, n, q, congrArg Value.type (of_decide_eq_true h1), rfl, of_decide_eq_true h3, k1⟩, k2 g H⟩⟩
          | _ => cases h
        | _ => cases dt <;> cases h
    | _ => cases h
  | .lst l, u, h => by
    cases u with
    | ref a =>
      have h : (match K.lookup a with
        | some ⟨.type c, none, .seq its _, _⟩ => decide (c = "list") && (decide (its.size ≤ sizeLine) && cstsB K l its.toList)
        | _ => false) = true := h
      cases q : K.lookup a with
      | none => rw [q] at h; cases h
      | some o =>
        obtain ⟨oc, od, dt, osl⟩ := o
        rw [q] at h
        cases oc with
        | type c =>
          cases od with
          | none =>
            cases dt with
            | seq its n =>
              obtain ⟨h1, h2⟩ := He.ba (show (decide (c = "list") && (decide (its.size ≤ sizeLine) && cstsB K l its.toList)) = true from h)
              obtain ⟨h3, h4⟩ := He.ba h2
              obtain ⟨vs, k1, k2⟩ := cstsB_ok l its.toList h4
              exact ⟨.ref a, rfl, fun g H => ⟨a, vs, rfl, .inr ⟨_, its, n, q, congrArg Value.type (of_decide_eq_true h1), rfl, rfl, of_decide_eq_true h3, k1⟩, k2 g H⟩⟩
            | _ => cases h
          | some z => cases dt <;> cases h
        | _ => cases od <;> cases dt <;> cases h
    | _ => cases h
  | .dct _, u, h => by cases u <;> cases h
  | .ref _, u, h => by cases u <;> cases h
theorem cstsB_ok : ∀ (l : List D) (us : List Value), cstsB K l us = true → ∃ vs, Vals vs us ∧ ∀ g H, Reps ⟨K, w, mg⟩ g H l vs
  | [], us, h => by
    cases us with
    | nil => exact ⟨[], .nil, fun _ _ => rfl⟩
    | cons _ _ => cases h
  | d :: l, us, h => by
    cases us with
    | nil => cases h
    | cons u r =>
      obtain ⟨h1, h2⟩ := He.ba (show (cstB K d u && cstsB K l r) = true from h)
      obtain ⟨v, k1, k2⟩ := cstB_ok d u h1
      obtain ⟨vs, k3, k4⟩ := cstsB_ok l r h2
      exact ⟨v :: vs, .cons k1 k3, fun g H => ⟨v, vs, rfl, k2 g H, k4 g H⟩⟩
end
end
theorem lookup_mem' {α : Type} {a : Str} {o : α} : ∀ {l : List (Str × α)}, l.lookup a = some o → (a, o) ∈ l
  | [], h => by cases h
  | (b, u) :: r, h => by
    have h2 : (match a == b with | true => some u | false => r.lookup a) = some o := h
    cases q : (a == b) with
    | true =>
      rw [q] at h2
      have e : u = o := Option.some.inj h2
      rw [beq_iff_eq.mp q, e]
      exact List.mem_cons_self
    | false =>
      rw [q] at h2
      exact List.mem_cons_of_mem _ (lookup_mem' h2)
def defD (d : DefI) : He.DefD := ⟨(d.name, none), d.name, d.name, d.args, d.body, d.sc, [], []⟩
def cstAll (cs : List (Str × D)) (K : PySem.W.Frag) : Bool := cs.all fun q => match PySem.W.nsIn K mainGlobals q.1 with
  | some (some u) => cstB K q.2 u
  | _ => false
/-- the pairs of classes that a handler asks for -/
def exmAll (T : Tb) : List He.Fa := T.subs.flatMap fun y => T.hcls.filterMap fun c => (T.sub y.1 c).map fun b => He.Fa.exm y.1 c b
def faOf (T : Tb) : List He.Fa := T.defs.map (fun d => He.Fa.glo d.name) ++ (T.mods.map He.Fa.free ++ (T.exs.map He.Fa.exc ++ (T.exs.map He.Fa.glo ++ (T.hcls.map He.Fa.glo ++ (T.subs.map (fun y => He.Fa.glo y.1) ++ exmAll T)))))
def fnOf' (T : Tb) : List He.DefD := T.defs.map defD
abbrev AlC : Type := He.AlD × Bool
def obsC (n : Nat) (T : Tb) (g : Addr → Option Obj) : AlC := (He.obsD (faOf T) (fnOf' T) (He.frG g (He.asD g n)), cstAll T.cst (He.frG g (He.asD g n)))
def SaysC (T : Tb) (K : PySem.W.Frag) : Prop := He.SaysD (faOf T) (fnOf' T) K ∧ cstAll T.cst K = true
def hookC (n : Nat) (T : Tb) : PySem.W.Hook where
  α := AlC
  obs := fun s => obsC n T s.heap.get?
  val := fun _ => (He.valD (fnOf' T), true)
  says := fun _ h => ∃ K : PySem.W.Frag, K.In h ∧ SaysC T K
  of := fun _ _ e => ⟨_, He.frG_in, congrArg (fun z : AlC => z.1) e, congrArg (fun z : AlC => z.2) e⟩
  keeps := fun _ _ _ ⟨K, hK, c⟩ k => ⟨K, PySem.W.Frag.In.keeps hK k, c⟩
def obC (n : Nat) (T : Tb) (s : PySem.W.SharedT) : AlC := obsC n T (HandSHeadRun.getT s)
theorem obC_eq {n : Nat} {T : Tb} (s : PySem.W.SharedT) : obC n T s = (hookC n T).obs s.abs := by
  have e : HandSHeadRun.getT s = s.abs.heap.get? := funext (HandSHeadRun.getT_eq s)
  unfold obC
  rw [e] <;> rfl
/-- what binds a def's arguments -/
def BindD (d : DefI) : Prop := ∀ (kV doc pm : Value) (an : Option Addr) (cdv ct : Value) (us : List Value), us.length = d.ps.length → bindArgs (PySem.W.fnOf d.name d.name d.args d.body d.sc .none kV doc pm an cdv ct) ⟨us, []⟩ = pure (d.ps.zip us)
def AllD (P : DefI → Prop) : List DefI → Prop
  | [] => True
  | d :: l => P d ∧ AllD P l
theorem AllD.mem {P : DefI → Prop} : ∀ {l : List DefI}, AllD P l → ∀ d ∈ l, P d
  | [], _, d, h => by cases h
  | a :: l, ⟨p, q⟩, d, h => by
    rcases List.mem_cons.mp h with e | h
    · rw [e]; exact p
    · exact AllD.mem q d h
theorem AllD.app {P : DefI → Prop} : ∀ {l r : List DefI}, AllD P l → AllD P r → AllD P (l ++ r)
  | [], _, _, q => q
  | _ :: _, _, ⟨p, z⟩, q => ⟨p, AllD.app z q⟩
def scB (d : DefI) : Bool := C8.scC d.N d.ps d.sc
section
variable {T : Tb} {w : World} {K : PySem.W.Frag} {mg : Str → Option Value} {h : Heap}
theorem modOk (X : K.In h) (G : h.Ns mainGlobals mg) (c : SaysC T K) (hb : AllD BindD T.defs) (hs : T.defs.all scB = true) : ModOk T w K mg where
  defs := fun d hd => by
    obtain ⟨fd, F⟩ := c.1.defs (d := defD d) (List.mem_map.mpr ⟨d, hd, rfl⟩)
    have hg := He.glo_ok X G (c.1.facts (f := .glo d.name) (List.mem_append_left _ (List.mem_map.mpr ⟨d, hd, rfl⟩)))
    have b := FunD.bindsN (ps := d.ps) F fun kV doc pm an cdv ct us hl => hb.mem d hd kV doc pm an cdv ct us hl
    obtain ⟨oc, od, dV, kV, doc, pm, an, cdv, ct, osl, rfl, lk, hcd, hD, hK⟩ := F.ex
    exact ⟨⟨_, _, _, _, dV, kV, doc, pm, cdv, ct, oc, an, od, osl, lk, hcd, hg, F.kp, b⟩, C8.fnScope_by (List.all_eq_true.mp hs d hd)⟩
  blt := fun x hx => He.free_ok X G (c.1.facts (f := .free x) (List.mem_append_right _ (List.mem_append_left _ (List.mem_map.mpr ⟨x, List.contains_iff_mem.mp hx, rfl⟩))))
  cst := fun x d hx => by
    have hm : (x, d) ∈ T.cst := lookup_mem' hx
    have z := List.all_eq_true.mp c.2 (x, d) hm
    cases e : PySem.W.nsIn K mainGlobals x with
    | none => rw [e] at z; cases z
    | some o =>
      rw [e] at z
      cases o with
      | none => cases z
      | some u =>
        obtain ⟨v, k1, k2⟩ := cstB_ok (w := w) (mg := mg) d u z
        exact ⟨v, u, PySem.W.mg_of X G e, k1, k2⟩
  exs := fun x hx => by
    have hm : x ∈ T.exs := List.contains_iff_mem.mp hx
    obtain ⟨k1, k2, k3, k4⟩ := He.exc_ok (x := x) (c.1.facts (List.mem_append_right _ (List.mem_append_right _ (List.mem_append_left _ (List.mem_map.mpr ⟨x, hm, rfl⟩)))))
    have hg := He.glo_ok X G (c.1.facts (f := .glo x) (List.mem_append_right _ (List.mem_append_right _ (List.mem_append_right _ (List.mem_append_left _ (List.mem_map.mpr ⟨x, hm, rfl⟩))))))
    exact ⟨_, _, _, _, _, PySem.F.excBase_ValueError, k1, hg, k2, k3, k4⟩
  hcl := fun x hx => by
    have hm : x ∈ T.hcls := by
      unfold Tb.hcl at hx
      by_cases e : T.hcls.contains x = true
      · exact List.contains_iff_mem.mp e
      · rw [if_neg e] at hx; cases hx
    have hg := He.glo_ok X G (c.1.facts (f := .glo x) (List.mem_append_right _ (List.mem_append_right _ (List.mem_append_right _ (List.mem_append_right _ (List.mem_append_left _ (List.mem_map.mpr ⟨x, hm, rfl⟩)))))))
    refine ⟨_, .inl hg, fun y b A hy hA => ?_⟩
    have hy2 : (T.subs.lookup y).isSome = true := by
      unfold Tb.sub at hy
      cases e : T.subs.lookup y with
      | none => rw [e] at hy; cases hy
      | some l => rfl
    obtain ⟨l, hl⟩ := Option.isSome_iff_exists.mp hy2
    have hym : (y, l) ∈ T.subs := lookup_mem' hl
    have f := c.1.facts (f := .exm y x b) (List.mem_append_right _ (List.mem_append_right _ (List.mem_append_right _ (List.mem_append_right _ (List.mem_append_right _ (List.mem_append_right _ (List.mem_flatMap.mpr ⟨(y, l), hym, List.mem_filterMap.mpr ⟨x, hm, by rw [hy]; rfl⟩⟩)))))))
    have gy := He.glo_ok X G (c.1.facts (f := .glo y) (List.mem_append_right _ (List.mem_append_right _ (List.mem_append_right _ (List.mem_append_right _ (List.mem_append_right _ (List.mem_append_left _ (List.mem_map.mpr ⟨(y, l), hym, rfl⟩))))))))
    rw [hA] at gy
    cases gy
    exact He.exm_ok f
end
/-! ### the law's promise -/
def spScript (K : PySem.W.Frag) (n : Nat) : Sp := fun vs H Q _ => ∃ (a : Addr) (ns : List Int), vs = [.ref a] ∧ ns.length ≤ n ∧ SqL K H a (ns.map V.int) ∧ ∀ H', Q (.bl true) H'
theorem reps_ints {G : Gm} {g : Gh} {H : Hp} : ∀ ns : List Int, Reps G g H (ns.map D.int) (ns.map V.int)
  | [] => rfl
  | n :: ns => ⟨.int n, ns.map V.int, rfl, rfl, reps_ints ns⟩
theorem rd_some {H : Hp} {a : Addr} {u : HO} (h : Rd H a u) : H a ≠ none := by
  rcases h with h | ⟨o, h⟩ <;> rw [h] <;> exact fun e => by cases e
theorem law_ok {P : Program} {w : World} {K : PySem.W.Frag} {mg : Str → Option Value} {base : Heap} {k n : Nat} {f : Addr} {fd : FuncData} {x : Str} {F : FT} (h : FnD P w K mg base k f fd [x] 1 F)
    (hF : ∀ ns : List Int, ns.length ≤ n → ∃ st, F [.lst (ns.map D.int)] [] = .ok (.val (.bl true)) st) : FnOk P w K mg base C8.CX0 k f fd [x] (spScript K n) where
  len := fun vs H Q E ⟨a, ns, e, _⟩ => by rw [e] <;> rfl
  run := fun A outer s H args us vs Q E hr e0 hb hv ⟨a, ns, e, hl, hS, hQ⟩ => by
    obtain ⟨st, hst⟩ := hF ns hl
    have key : ∀ g : Gh, g.ρ = [] → (∀ b, g.F b → H b ≠ none) → LstAt ⟨K, w, mg⟩ g H a (ns.map V.int) → codeAny (model P w) A (.call (.ref f) args) (CR C8.CX0 outer P w H s Q E) s := fun g hρ hFn hL => by
      have z := h A outer s H args us vs g [.lst (ns.map D.int)] [] (fun _ _ _ => False) hr e0 hb hv (Nat.succ_pos _) ⟨by rw [hρ]; exact List.nodup_nil, fun b hb => absurd (hρ ▸ hb) (List.not_mem_nil), hFn, by rw [hρ]; rfl, fun n o a h1 _ => nomatch h1⟩
        (by rw [e]; exact ⟨.ref a, [], rfl, ⟨a, _, rfl, hL, reps_ints ns⟩, rfl⟩) rfl
      rw [hst] at z
      refine codeAny_mono z fun r s' hc => ?_
      cases r with
      | error e =>
        obtain ⟨_, _, _, _, _, _, _, _, _, _, _, _, q⟩ := (show L2.CX P w outer H s _ e s' from hc)
        exact q
      | ok fl =>
        cases fl with
        | ret u =>
          obtain ⟨v, H1, c1, c2, c3, c4, c5, g1, _, hR⟩ := (show CE outer P w H s _ u s' from hc)
          have ev : v = .bl true := hR
          exact ⟨v, H1, c1, c2, c3, c4, c5, by rw [ev]; exact hQ H1⟩
        | _ => exact hc
    rcases hS with hS | hS
    · exact key ⟨fun b => b = a, []⟩ rfl (fun b hb => by rw [show b = a from hb]; exact rd_some hS) (.inl ⟨rfl, hS⟩)
    · exact key ⟨fun _ => False, []⟩ rfl (fun b hb => hb.elim) (.inr hS)
end Dn


/-! Ev1 -/
set_option Elab.async false
set_option linter.all false
set_option maxRecDepth 100000
namespace Dn
open PySem PySem.Spec PyProof.Rows L2
/-- what stands here is not looked into, as long as it is not its turn -/
class Lz {α : Type} (a : α) : Type where
instance {α : Type} {a : α} : Lz a := ⟨⟩
def Res.bd {α β : Type} (r : Res α) (k : α → M β) [Lz k] : Res β := r.bind k
theorem bd_congr {α β : Type} {r : Res α} {k k' : α → M β} (h : k = k') : r.bd k = r.bd k' := by rw [h]
/-! ### the readings at a state -/
section
variable {α β : Type} {s : S} {f : M α} {k : α → M β}
theorem bindM_ap : bindM f k s = (f s).bd k := rfl
theorem rb_ok {a : α} : (Res.ok a s).bd k = k a s := rfl
theorem rb_exc {x : Exc} : (Res.exc x s : Res α).bd k = .exc x s := rfl
theorem rb_stuck : (Res.stuck : Res α).bd k = .stuck := rfl
theorem retM_ap {a : α} : retM a s = .ok a s := rfl
theorem bind_ite {c : Prop} [Decidable c] {x y : Res α} : (if c then x else y).bd k = if c then x.bd k else y.bd k := by split <;> rfl
end
section
variable {s : S} {d : D} {i n : Nat} {e : List Slot} {st : List SO} {fa fb fc : M R} {h h' : R → R → M R} {x y : R} {tt ta tb : M Bool} {fs : M (List R)} {fd : M (List D)} {A B : M Fl}
theorem eLit_ap : eLit d s = .ok (.val d) s := rfl
def getV : Option Slot → S → Res R
  | some (.val d), s => .ok (.val d) s
  | some (.own d), s => .ok (.tmp d) s
  | _, _ => .stuck
def getL (i : Nat) : Option Slot → S → Res R
  | some (.val d), s => .ok (.val d) s
  | some (.own d), s => .ok (.val d) { s with env := s.env.set i (.val d) }
  | _, _ => .stuck
def getM (i : Nat) : Option Slot → S → Res R
  | some (.val d), s => .ok (.val d) s
  | some (.own d), s => .ok (.own d) { s with env := s.env.set i .un }
  | _, _ => .stuck
theorem eBor_ap : eBor i ⟨e, st⟩ = getV e[i]? ⟨e, st⟩ := by
  unfold eBor getV
  rcases e[i]? with _ | (_ | _ | _) <;> rfl
theorem eLoc_ap : eLoc i ⟨e, st⟩ = getL i e[i]? ⟨e, st⟩ := by
  unfold eLoc getL
  rcases e[i]? with _ | (_ | _ | _) <;> rfl
theorem eMov_ap : eMov i ⟨e, st⟩ = getM i e[i]? ⟨e, st⟩ := by
  unfold eMov getM
  rcases e[i]? with _ | (_ | _ | _) <;> rfl
theorem getV_val : getV (some (.val d)) s = .ok (.val d) s := rfl
theorem getV_own : getV (some (.own d)) s = .ok (.tmp d) s := rfl
theorem getL_val : getL i (some (.val d)) s = .ok (.val d) s := rfl
theorem getL_own : getL i (some (.own d)) ⟨e, st⟩ = .ok (.val d) ⟨e.set i (.val d), st⟩ := rfl
theorem getM_val : getM i (some (.val d)) s = .ok (.val d) s := rfl
theorem getM_own : getM i (some (.own d)) ⟨e, st⟩ = .ok (.own d) ⟨e.set i .un, st⟩ := rfl
theorem eBin_ap : eBin h fa fb s = (fa s).bd fun x s1 => (fb s1).bd fun y s2 => h x y s2 := rfl
theorem tVal_ap : tVal fa s = (fa s).bd truF := rfl
theorem truF_bl {b : Bool} : truF (.val (.bl b)) s = .ok b s := rfl
theorem truF_tbl {b : Bool} : truF (.tmp (.bl b)) s = .ok b s := rfl
def ifM {α : Type} (b : Bool) (x y : M α) [Lz x] [Lz y] : M α := if b = true then x else y
theorem ifM_true {α : Type} {x y : M α} : ifM true x y = x := rfl
theorem ifM_false {α : Type} {x y : M α} : ifM false x y = y := rfl
theorem tNotM_ap : tNotM ta s = (ta s).bd fun b s1 => .ok (!b) s1 := rfl
theorem eNotM_ap : eNotM fa s = ((fa s).bd truF).bd fun b s1 => .ok (.val (.bl (!b))) s1 := rfl
theorem tAndM_ap : tAndM ta tb s = (ta s).bd fun b => ifM b tb (retM false) := rfl
theorem tOrM_ap : tOrM ta tb s = (ta s).bd fun b => ifM b (retM true) tb := rfl
theorem eAndM_ap : eAndM fa fb s = (fa s).bd fun r s1 => (truF r s1).bd fun b => ifM b fb (retM (.val (.bl false))) := rfl
theorem eOrM_ap : eOrM fa fb s = (fa s).bd fun r s1 => (truF r s1).bd fun b => ifM b (retM (.val (.bl true))) fb := rfl
theorem eIfM_ap : eIfM tt fa fb s = (tt s).bd fun b => ifM b fa fb := rfl
theorem eChain_ap : eChain h h' fa fb fc s = (fa s).bd fun x s1 => (fb s1).bd fun y s2 => (h x y s2).bd fun r s3 => (truF r s3).bd fun k => ifM k (fun s4 => (fc s4).bd fun z => h' y z) (retM (.val (.bl false))) := rfl
theorem tChn_ap : tChn h h' fa fb fc s = (fa s).bd fun x s1 => (fb s1).bd fun y s2 => (h x y s2).bd fun r s3 => (truF r s3).bd fun k => ifM k (fun s4 => ((fc s4).bd fun z => h' y z).bd truF) (retM false) := rfl
theorem argR_ap : argR fa fs s = (fa s).bd fun r s1 => (fs s1).bd fun l s2 => .ok (r :: l) s2 := rfl
theorem argD_ap : argD fa fd s = ((fa s).bd escF).bd fun r s1 => (fd s1).bd fun l s2 => .ok (r :: l) s2 := rfl
theorem escF_val : escF (.val d) s = .ok d s := rfl
theorem escF_own : escF (.own d) s = .ok d s := rfl
def okB {α : Type} (b : Bool) (x : M α) [Lz x] : M α := if b = true then x else stuckM
theorem okB_true {α : Type} {x : M α} : okB true x = x := rfl
theorem eTupM_ap : eTupM fd s = (fd s).bd fun l => okB (decide (l.length ≤ LIM)) (retM (.val (.tup l))) := by
  unfold eTupM okB
  show (fd s).bd _ = _
  refine bd_congr (funext fun l => ?_)
  by_cases h : l.length ≤ LIM <;> simp [h]
theorem eLstM_ap : eLstM fd s = (fd s).bd fun l => okB (decide (l.length ≤ LIM)) (retM (.own (.lst l))) := by
  unfold eLstM okB
  show (fd s).bd _ = _
  refine bd_congr (funext fun l => ?_)
  by_cases h : l.length ≤ LIM <;> simp [h]
theorem pureF_ap {α β : Type} {f : α → Option β} {a : α} {s : S} : pureF f a s = match f a with | some b => .ok b s | none => .stuck := by
  unfold pureF
  cases f a <;> rfl
def optM {β : Type} (o : Option β) (s : S) : Res β := match o with | some b => .ok b s | none => .stuck
theorem pureF_op {α β : Type} {f : α → Option β} {a : α} {s : S} : pureF f a s = optM (f a) s := by
  unfold pureF optM
  cases f a <;> rfl
theorem optM_some {β : Type} {b : β} : optM (some b) s = .ok b s := rfl
theorem eCall_ap {h : List R → M R} : eCall fs h s = (fs s).bd h := rfl
theorem eIsi_ap {T : String} : eIsi T fa s = (fa s).bd (pureF (isiF T)) := rfl
theorem partF_ap : partF fa s = (fa s).bd (pureF fun r => (asInt r.d).map some) := rfl
theorem eSlc_ap {fl fu : M (Option Int)} : eSlc fa fl fu s = (fa s).bd fun x s1 => (fl s1).bd fun l s2 => (fu s2).bd fun u s3 => optM (slF x l u) s3 := by
  show (fa s).bd _ = _
  refine bd_congr (funext fun x => funext fun s1 => ?_)
  show (fl s1).bd _ = _
  refine bd_congr (funext fun l => funext fun s2 => ?_)
  show (fu s2).bd _ = _
  refine bd_congr (funext fun u => funext fun s3 => ?_)
  exact pureF_op
theorem eRev_ap : eRev fa s = (fa s).bd (pureF revF) := rfl
theorem eNeg_ap : eNeg fa s = (fa s).bd (pureF negF) := rfl
theorem eStrM_ap {hh : Str → List R → M R} : eStrM hh fa fs s = (fa s).bd fun r => match asStr r.d with
  | some z => fun s1 => (fs s1).bd (hh z)
  | none => stuckM := rfl
theorem eRepl_ap {a b : Str} {k : Option Nat} : eRepl a b k fa s = (fa s).bd (pureF (replD a b k)) := rfl
theorem eIter_ap : eIter fa s = ((fa s).bd escF).bd (pureF iterD) := rfl
theorem eRange_ap : eRange fs s = (fs s).bd (pureF fRange) := rfl
theorem eWalk_ap {f : List D → Option (List D)} : eWalk f fd s = (fd s).bd (pureF f) := rfl
theorem eDisp_ap {ks : List Str} : eDisp ks fd s = (fd s).bd fun ds => retM (.own (.dct (zipK ks ds))) := rfl
theorem eFn_ap {F : FT} : eFn F fd ⟨e, st⟩ = (fd ⟨e, st⟩).bd fun ds s1 => match F ds s1.st with
  | .ok r st1 => .ok r ⟨s1.env, st1⟩
  | .exc x st1 => .exc x ⟨s1.env, st1⟩
  | .stuck => .stuck := rfl
/-! statements -/
def nxt (h : M Fl) : Fl → M Fl
  | .nx => h
  | fl => retM fl
theorem sSeq_ap {B : M Fl} : sSeq A B s = (A s).bd (nxt B) := rfl
theorem nxt_nx : nxt A .nx = A := rfl
theorem nxt_ret {r : R} : nxt A (.ret r) s = .ok (.ret r) s := rfl
theorem nxt_brk : nxt A .brk s = .ok .brk s := rfl
theorem nxt_cont : nxt A .cont s = .ok .cont s := rfl
theorem sDrop_ap : sDrop fa s = (fa s).bd fun _ s1 => .ok .nx s1 := rfl
theorem sRet_ap : sRet fa s = (fa s).bd fun r s1 => .ok (.ret r) s1 := rfl
theorem sIf_ap {B : M Fl} : sIf tt A B s = (tt s).bd fun b => ifM b A B := rfl
theorem asgM_val : asgM i (.val d) ⟨e, st⟩ = .ok () ⟨e.set i (.val d), st⟩ := rfl
theorem asgM_own : asgM i (.own d) ⟨e, st⟩ = .ok () ⟨e.set i (.own d), st⟩ := rfl
theorem asgRef_own {l : List D} : asgRef i (.own (.lst l)) ⟨e, st⟩ = .ok () ⟨e.set i (.val (.ref st.length)), st ++ [.lst l]⟩ := rfl
theorem asgRef_val : asgRef i (.val d) ⟨e, st⟩ = .ok () ⟨e.set i (.val d), st⟩ := rfl
theorem sAsg_ap {a : R → M Unit} : sAsg fa a s = (fa s).bd fun r s1 => (a r s1).bd fun _ s2 => .ok .nx s2 := rfl
theorem gsNil_ap : gsNil [] s = .ok () s := rfl
theorem gsCons_ap {a : R → M Unit} {as : List D → M Unit} {l : List D} : gsCons a as (d :: l) s = (a (.val d) s).bd fun _ => as l := rfl
theorem gTupM_tup {as : List D → M Unit} {l : List D} (h : l.length = n) : gTupM n as (.val (.tup l)) s = as l s := by
  show (if l.length = n then as l else stuckM) s = _
  rw [if_pos h]
theorem sPar_ap {is : List Nat} : sPar is fs s = (fs s).bd fun rs => okB (decide (rs.length = is.length)) fun s1 => (parS (is.zip rs).reverse s1).bd fun _ s2 => .ok .nx s2 := by
  unfold sPar okB
  show (fs s).bd _ = _
  refine bd_congr (funext fun l => ?_)
  by_cases h : l.length = is.length <;> simp [h] <;> rfl
theorem parS_nil : parS [] s = .ok () s := rfl
theorem parS_cons {r : R} {l : List (Nat × R)} : parS ((i, r) :: l) s = (asgM i r s).bd fun _ => parS l := rfl
theorem sFor_ap {fi : M (List D)} {a : R → M Unit} {b : M Fl} : sFor fi a b s = (fi s).bd (loopM a b) := rfl
theorem loopM_nil {a : R → M Unit} {b : M Fl} : loopM a b [] s = .ok .nx s := rfl
def lpK (a : R → M Unit) (b : M Fl) (ds : List D) : Fl → M Fl
  | .nx => loopM a b ds
  | .cont => loopM a b ds
  | .brk => retM .nx
  | .ret r => retM (.ret r)
theorem loopM_cons {a : R → M Unit} {b : M Fl} {ds : List D} : loopM a b (d :: ds) s = (a (.val d) s).bd fun _ s1 => (b s1).bd (lpK a b ds) := by
  show (a (.val d) s).bd _ = _
  congr 1
theorem lpK_nx {a : R → M Unit} {b : M Fl} {ds : List D} : lpK a b ds .nx = loopM a b ds := rfl
theorem lpK_cont {a : R → M Unit} {b : M Fl} {ds : List D} : lpK a b ds .cont = loopM a b ds := rfl
theorem lpK_brk {a : R → M Unit} {b : M Fl} {ds : List D} : lpK a b ds .brk s = .ok .nx s := rfl
theorem lpK_ret {a : R → M Unit} {b : M Fl} {ds : List D} {r : R} : lpK a b ds (.ret r) s = .ok (.ret r) s := rfl
theorem sRaise_ap {x : Str} : sRaise x s = .exc ⟨x, none⟩ s := rfl
theorem sTry_ap {sub : Str → Str → Option Bool} {hs : List (Str × M Fl)} : sTry sub A hs s = match A s with
  | .exc x s' => findH sub x s' hs
  | r => r := rfl
def outF (np : Nat) : Res Fl → RF
  | .ok fl s' => match fl with
      | .ret (.val d) => .ok (.val d) s'.st
      | .ret (.own d) => .ok (.own d) s'.st
      | .nx => .ok (.val .non) s'.st
      | _ => .stuck
  | .exc x s' => .exc x s'.st
  | .stuck => .stuck
theorem funF_ap {np : Nat} {ds : List D} (h : ds.length = np) : funF n np A ds st = outF np (A ⟨ds.map .val ++ List.replicate (n - np) .un, st⟩) := by
  unfold funF
  rw [if_pos h]
  rfl
theorem outF_val {np : Nat} : outF np (.ok (.ret (.val d)) ⟨e, st⟩) = .ok (.val d) st := rfl
theorem outF_own {np : Nat} : outF np (.ok (.ret (.own d)) ⟨e, st⟩) = .ok (.own d) st := rfl
theorem outF_nx {np : Nat} : outF np (.ok .nx ⟨e, st⟩) = .ok (.val .non) st := rfl
theorem outF_exc {np : Nat} {x : Exc} : outF np (.exc x ⟨e, st⟩) = .exc x st := rfl
/-! operators -/
theorem opD_add : opD .Add x y s = optM (addF x y) s := pureF_op
theorem opD_sub : opD .Sub x y s = optM (subF x y) s := pureF_op
theorem opD_mul : opD .Mult x y s = optM (mulF x y) s := pureF_op
theorem opD_mod : opD .Mod x y s = optM (modF x y) s := pureF_op
theorem opD_fdv : opD .FloorDiv x y s = optM (fdvF x y) s := pureF_op
theorem opD_pow : opD .Pow x y s = optM (powF x y) s := pureF_op
theorem cmpD_eq : cmpD .Eq x y s = optM (eqF x y) s := pureF_op
theorem cmpD_ne : cmpD .NotEq x y s = optM (neF x y) s := pureF_op
theorem cmpD_lt : cmpD .Lt x y s = optM (icF (fun i j => decide (i < j)) x y) s := pureF_op
theorem cmpD_le : cmpD .LtE x y s = optM (icF (fun i j => decide (i ≤ j)) x y) s := pureF_op
theorem cmpD_gt : cmpD .Gt x y s = optM (icF (fun i j => decide (i > j)) x y) s := pureF_op
theorem cmpD_ge : cmpD .GtE x y s = optM (icF (fun i j => decide (i ≥ j)) x y) s := pureF_op
theorem cmpD_is : cmpD .Is x y s = optM (isF false x y) s := pureF_op
theorem cmpD_isn : cmpD .IsNot x y s = optM (isF true x y) s := pureF_op
theorem cmpD_in : cmpD .In x y s = optM (inF false x y) s := pureF_op
theorem cmpD_nin : cmpD .NotIn x y s = optM (inF true x y) s := pureF_op
theorem ixM_lst {l : List D} {b : R} : ixM (.val (.lst l)) b s = optM (ixF (.val (.lst l)) b) s := by
  show pureF (fun p : R × R => ixF p.1 p.2) (R.val (.lst l), b) s = _
  rw [pureF_op]
theorem ixM_tlst {l : List D} {b : R} : ixM (.tmp (.lst l)) b s = optM (ixF (.tmp (.lst l)) b) s := by
  show pureF (fun p : R × R => ixF p.1 p.2) (R.tmp (.lst l), b) s = _
  rw [pureF_op]
theorem ixM_olst {l : List D} {b : R} : ixM (.own (.lst l)) b s = optM (ixF (.own (.lst l)) b) s := by
  show pureF (fun p : R × R => ixF p.1 p.2) (R.own (.lst l), b) s = _
  rw [pureF_op]
theorem ixM_tup {l : List D} {b : R} : ixM (.val (.tup l)) b s = optM (ixF (.val (.tup l)) b) s := by
  show pureF (fun p : R × R => ixF p.1 p.2) (R.val (.tup l), b) s = _
  rw [pureF_op]
theorem ixM_str {z : Str} {b : R} : ixM (.val (.str z)) b s = optM (ixF (.val (.str z)) b) s := by
  show pureF (fun p : R × R => ixF p.1 p.2) (R.val (.str z), b) s = _
  rw [pureF_op]
end
end Dn


/-! Ev2 -/
set_option Elab.async false
set_option linter.all false
set_option maxRecDepth 100000
namespace Dn
open PySem PySem.Spec PyProof.Rows L2
theorem okB_of {α : Type} {c : Prop} [Decidable c] {x : M α} (h : c) : okB (decide c) x = x := by rw [decide_eq_true h]; rfl
/-! isinstance -/
def isTk : Tk → D → Bool
  | .int, .int _ => true
  | .int, .bl _ => true
  | .bool, .bl _ => true
  | .str, .str _ => true
  | .tuple, .tup _ => true
  | .list, .lst _ => true
  | _, _ => false
theorem isiF_of (t : Tk) (r : R) (h : (tyD r.d).isSome = true) : isiF t.ty r = some (.val (.bl (isTk t r.d))) := by
  unfold isiF
  cases e : r.d with
  | dct _ => rw [e] at h; cases h
  | ref _ => rw [e] at h; cases h
  | _ => cases t <;> rfl
section
variable {t : Tk} {b : Bool} {i : Int} {z : Str} {l : List D}
theorem isi_non : isiF t.ty (.val .non) = some (.val (.bl (isTk t .non))) := isiF_of t _ rfl
theorem isi_bl : isiF t.ty (.val (.bl b)) = some (.val (.bl (isTk t (.bl b)))) := isiF_of t _ rfl
theorem isi_int : isiF t.ty (.val (.int i)) = some (.val (.bl (isTk t (.int i)))) := isiF_of t _ rfl
theorem isi_str : isiF t.ty (.val (.str z)) = some (.val (.bl (isTk t (.str z)))) := isiF_of t _ rfl
theorem isi_tup : isiF t.ty (.val (.tup l)) = some (.val (.bl (isTk t (.tup l)))) := isiF_of t _ rfl
theorem isi_lst : isiF t.ty (.val (.lst l)) = some (.val (.bl (isTk t (.lst l)))) := isiF_of t _ rfl
theorem isi_tlst : isiF t.ty (.tmp (.lst l)) = some (.val (.bl (isTk t (.lst l)))) := isiF_of t _ rfl
theorem isi_olst : isiF t.ty (.own (.lst l)) = some (.val (.bl (isTk t (.lst l)))) := isiF_of t _ rfl
end
section
variable {b : Bool} {i : Int} {z : Str} {l : List D}
theorem tk_int_non : isTk .int .non = false := rfl
theorem tk_int_bl : isTk .int (.bl b) = true := rfl
theorem tk_int_int : isTk .int (.int i) = true := rfl
theorem tk_int_str : isTk .int (.str z) = false := rfl
theorem tk_int_tup : isTk .int (.tup l) = false := rfl
theorem tk_int_lst : isTk .int (.lst l) = false := rfl
theorem tk_bool_non : isTk .bool .non = false := rfl
theorem tk_bool_bl : isTk .bool (.bl b) = true := rfl
theorem tk_bool_int : isTk .bool (.int i) = false := rfl
theorem tk_bool_str : isTk .bool (.str z) = false := rfl
theorem tk_bool_tup : isTk .bool (.tup l) = false := rfl
theorem tk_bool_lst : isTk .bool (.lst l) = false := rfl
theorem tk_str_non : isTk .str .non = false := rfl
theorem tk_str_bl : isTk .str (.bl b) = false := rfl
theorem tk_str_int : isTk .str (.int i) = false := rfl
theorem tk_str_str : isTk .str (.str z) = true := rfl
theorem tk_str_tup : isTk .str (.tup l) = false := rfl
theorem tk_str_lst : isTk .str (.lst l) = false := rfl
theorem tk_tuple_non : isTk .tuple .non = false := rfl
theorem tk_tuple_bl : isTk .tuple (.bl b) = false := rfl
theorem tk_tuple_int : isTk .tuple (.int i) = false := rfl
theorem tk_tuple_str : isTk .tuple (.str z) = false := rfl
theorem tk_tuple_tup : isTk .tuple (.tup l) = true := rfl
theorem tk_tuple_lst : isTk .tuple (.lst l) = false := rfl
theorem tk_list_non : isTk .list .non = false := rfl
theorem tk_list_bl : isTk .list (.bl b) = false := rfl
theorem tk_list_int : isTk .list (.int i) = false := rfl
theorem tk_list_str : isTk .list (.str z) = false := rfl
theorem tk_list_tup : isTk .list (.tup l) = false := rfl
theorem tk_list_lst : isTk .list (.lst l) = true := rfl
end
theorem fLen_tup {l : List D} : Bk.len.h [.val (.tup l)] = some (.val (.int l.length)) := rfl
theorem fLen_lst {l : List D} : Bk.len.h [.val (.lst l)] = some (.val (.int l.length)) := rfl
theorem fLen_tlst {l : List D} : Bk.len.h [.tmp (.lst l)] = some (.val (.int l.length)) := rfl
theorem fLen_olst {l : List D} : Bk.len.h [.own (.lst l)] = some (.val (.int l.length)) := rfl
theorem fLen_str {z : Str} (h : z.length ≤ LIM) : Bk.len.h [.val (.str z)] = some (.val (.int z.length)) := by
  show (match (if z.length ≤ LIM then some z.length else none) with | some n => some (R.val (.int n)) | none => none) = _
  rw [if_pos h]
theorem icF_int {f : Int → Int → Bool} {i j : Int} : icF f (.val (.int i)) (.val (.int j)) = some (.val (.bl (f i j))) := rfl
theorem eqF_int {i j : Int} : eqF (.val (.int i)) (.val (.int j)) = some (.val (.bl (decide (i = j)))) := rfl
theorem neF_int {i j : Int} : neF (.val (.int i)) (.val (.int j)) = some (.val (.bl (!decide (i = j)))) := rfl
theorem eqF_str {i j : Str} : eqF (.val (.str i)) (.val (.str j)) = some (.val (.bl (decide (i = j)))) := rfl
theorem neF_str {i j : Str} : neF (.val (.str i)) (.val (.str j)) = some (.val (.bl (!decide (i = j)))) := rfl
theorem addF_int {i j : Int} : addF (.val (.int i)) (.val (.int j)) = some (.val (.int (i + j))) := rfl
theorem subF_int {i j : Int} : subF (.val (.int i)) (.val (.int j)) = some (.val (.int (i - j))) := rfl
theorem asgM_ap {i : Nat} {d : D} {s : S} : asgM i (.val d) s = .ok () ⟨s.env.set i (.val d), s.st⟩ := rfl
/-! comprehensions: element by element -/
/-- the rounds of a comprehension, from one state of the store to the next -/
theorem compM_run {is : List Nat} {a : R → M Unit} {tt : M Bool} {te : M R} {env : List Slot} (hw : wipeE env is = env) (P : List D → List D → List SO → Prop)
    (step : ∀ d ds acc st, P (d :: ds) acc st → ∃ s1, a (.val d) ⟨env, st⟩ = .ok () s1 ∧ ∃ b s2, tt s1 = .ok b s2 ∧ (b = false → wipeE s2.env is = env ∧ P ds acc s2.st) ∧
      (b = true → ∃ r y s3 s4, te s2 = .ok r s3 ∧ escF r s3 = .ok y s4 ∧ acc.length < LIM ∧ wipeE s4.env is = env ∧ P ds (acc ++ [y]) s4.st)) :
    ∀ ds acc st, P ds acc st → ∃ acc' st', compM is a tt te ds acc ⟨env, st⟩ = .ok acc' ⟨env, st'⟩ ∧ P [] acc' st'
  | [], acc, st, h => ⟨acc, st, rfl, h⟩
  | d :: ds, acc, st, h => by
    obtain ⟨s1, e1, b, s2, e2, hf, ht⟩ := step d ds acc st h
    unfold compM
    rw [bindM_ap, e1, rb_ok, bindM_ap, e2, rb_ok]
    cases b with
    | false =>
      obtain ⟨e3, h2⟩ := hf rfl
      rw [if_neg Bool.false_ne_true]
      show ∃ acc' st', compM is a tt te ds acc ⟨wipeE s2.env is, s2.st⟩ = _ ∧ _
      rw [e3]
      exact compM_run hw P step ds acc s2.st h2
    | true =>
      obtain ⟨r, y, s3, s4, e3, e4, hl, e5, h2⟩ := ht rfl
      rw [if_pos rfl, bindM_ap, bindM_ap, e3, rb_ok, e4, rb_ok]
      rw [if_pos hl]
      show ∃ acc' st', compM is a tt te ds (acc ++ [y]) ⟨wipeE s4.env is, s4.st⟩ = _ ∧ _
      rw [e5]
      exact compM_run hw P step ds (acc ++ [y]) s4.st h2
/-- a comprehension that only looks: what it gives -/
theorem compM_pure {is : List Nat} {a : R → M Unit} {tt : M Bool} {te : M R} {env : List Slot} {st : List SO} (p : D → Bool) (f : D → D) : ∀ (ds acc : List D)
    (step : ∀ d ∈ ds, ∃ e1, a (.val d) ⟨env, st⟩ = .ok () ⟨e1, st⟩ ∧ wipeE e1 is = env ∧ tt ⟨e1, st⟩ = .ok (p d) ⟨e1, st⟩ ∧ (p d = true → te ⟨e1, st⟩ = .ok (.val (f d)) ⟨e1, st⟩)), acc.length + ds.length ≤ LIM →
    compM is a tt te ds acc ⟨env, st⟩ = .ok (acc ++ (ds.filter p).map f) ⟨env, st⟩
  | [], acc, _, _ => by simp [compM, retM]
  | d :: ds, acc, step, hl => by
    obtain ⟨e1, h1, h2, h3, h4⟩ := step d (by simp)
    unfold compM
    rw [bindM_ap, h1, rb_ok, bindM_ap, h3, rb_ok]
    simp only [List.length_cons] at hl
    cases hp : p d with
    | false =>
      rw [if_neg Bool.false_ne_true]
      show compM is a tt te ds acc ⟨wipeE e1 is, st⟩ = _
      rw [h2, compM_pure p f ds acc (fun d hd => step d (by simp [hd])) (by omega), List.filter_cons_of_neg (by simp [hp])]
    | true =>
      rw [if_pos rfl, bindM_ap, bindM_ap, h4 hp, rb_ok, escF_val, rb_ok, if_pos (by omega)]
      show compM is a tt te ds (acc ++ [f d]) ⟨wipeE e1 is, st⟩ = _
      rw [h2, compM_pure p f ds (acc ++ [f d]) (fun d hd => step d (by simp [hd])) (by simp only [List.length_append, List.length_cons, List.length_nil]; omega), List.filter_cons_of_pos (by simp [hp])]
      simp
theorem eComp_pure {is : List Nat} {fi : M (List D)} {a : R → M Unit} {tt : M Bool} {te : M R} {s s1 : S} {ds : List D} (p : D → Bool) (f : D → D) (hi : fi s = .ok ds s1) (hl : ds.length ≤ LIM)
    (step : ∀ d ∈ ds, ∃ e1, a (.val d) ⟨wipeE s1.env is, s1.st⟩ = .ok () ⟨e1, s1.st⟩ ∧ wipeE e1 is = wipeE s1.env is ∧ tt ⟨e1, s1.st⟩ = .ok (p d) ⟨e1, s1.st⟩ ∧ (p d = true → te ⟨e1, s1.st⟩ = .ok (.val (f d)) ⟨e1, s1.st⟩)) :
    eComp is fi a tt te s = .ok (.own (.lst ((ds.filter p).map f))) ⟨mergeE s1.env (wipeE s1.env is) is, s1.st⟩ := by
  unfold eComp
  rw [bindM_ap, hi, rb_ok]
  show (match compM is a tt te ds [] ⟨wipeE s1.env is, s1.st⟩ with
    | .ok acc s' => Res.ok (R.own (.lst acc)) ⟨mergeE s1.env s'.env is, s'.st⟩
    | _ => .stuck) = _
  rw [compM_pure p f ds [] step (by simpa using hl)]
  simp
theorem eComp_map {is : List Nat} {fi : M (List D)} {a : R → M Unit} {te : M R} {s s1 : S} {ds : List D} (f : D → D) (hi : fi s = .ok ds s1) (hl : ds.length ≤ LIM)
    (step : ∀ d ∈ ds, ∃ e1, a (.val d) ⟨wipeE s1.env is, s1.st⟩ = .ok () ⟨e1, s1.st⟩ ∧ wipeE e1 is = wipeE s1.env is ∧ te ⟨e1, s1.st⟩ = .ok (.val (f d)) ⟨e1, s1.st⟩) :
    eComp is fi a (retM true) te s = .ok (.own (.lst (ds.map f))) ⟨mergeE s1.env (wipeE s1.env is) is, s1.st⟩ := by
  have h := eComp_pure (is := is) (a := a) (tt := retM true) (te := te) (fun _ => true) f hi hl fun d hd => by
    obtain ⟨e1, h1, h2, h3⟩ := step d hd
    exact ⟨e1, h1, h2, rfl, fun _ => h3⟩
  rw [h, List.filter_eq_self.mpr fun _ _ => rfl]
theorem compM_on {α : Type} {is : List Nat} {a : R → M Unit} {tt : M Bool} {te : M R} {env : List Slot} {st : List SO} (mk : α → D) (p : α → Bool) (f : α → D) : ∀ (l : List α) (acc : List D)
    (step : ∀ x ∈ l, ∃ e1, a (.val (mk x)) ⟨env, st⟩ = .ok () ⟨e1, st⟩ ∧ wipeE e1 is = env ∧ tt ⟨e1, st⟩ = .ok (p x) ⟨e1, st⟩ ∧ (p x = true → te ⟨e1, st⟩ = .ok (.val (f x)) ⟨e1, st⟩)), acc.length + l.length ≤ LIM →
    compM is a tt te (l.map mk) acc ⟨env, st⟩ = .ok (acc ++ (l.filter p).map f) ⟨env, st⟩
  | [], acc, _, _ => by simp [compM, retM]
  | d :: ds, acc, step, hl => by
    obtain ⟨e1, h1, h2, h3, h4⟩ := step d (by simp)
    rw [List.map_cons]
    unfold compM
    rw [bindM_ap, h1, rb_ok, bindM_ap, h3, rb_ok]
    simp only [List.length_cons] at hl
    cases hp : p d with
    | false =>
      rw [if_neg Bool.false_ne_true]
      show compM is a tt te (ds.map mk) acc ⟨wipeE e1 is, st⟩ = _
      rw [h2, compM_on mk p f ds acc (fun d hd => step d (by simp [hd])) (by omega), List.filter_cons_of_neg (by simp [hp])]
    | true =>
      rw [if_pos rfl, bindM_ap, bindM_ap, h4 hp, rb_ok, escF_val, rb_ok, if_pos (by omega)]
      show compM is a tt te (ds.map mk) (acc ++ [f d]) ⟨wipeE e1 is, st⟩ = _
      rw [h2, compM_on mk p f ds (acc ++ [f d]) (fun d hd => step d (by simp [hd])) (by simp only [List.length_append, List.length_cons, List.length_nil]; omega), List.filter_cons_of_pos (by simp [hp])]
      simp
/-- a comprehension over what stands for the things of l -/
theorem eComp_on {α : Type} {is : List Nat} {fi : M (List D)} {a : R → M Unit} {tt : M Bool} {te : M R} {s s1 : S} (mk : α → D) (p : α → Bool) (f : α → D) (l : List α) (hi : fi s = .ok (l.map mk) s1) (hl : l.length ≤ LIM)
    (step : ∀ x ∈ l, ∃ e1, a (.val (mk x)) ⟨wipeE s1.env is, s1.st⟩ = .ok () ⟨e1, s1.st⟩ ∧ wipeE e1 is = wipeE s1.env is ∧ tt ⟨e1, s1.st⟩ = .ok (p x) ⟨e1, s1.st⟩ ∧ (p x = true → te ⟨e1, s1.st⟩ = .ok (.val (f x)) ⟨e1, s1.st⟩)) :
    eComp is fi a tt te s = .ok (.own (.lst ((l.filter p).map f))) ⟨mergeE s1.env (wipeE s1.env is) is, s1.st⟩ := by
  unfold eComp
  rw [bindM_ap, hi, rb_ok]
  show (match compM is a tt te (l.map mk) [] ⟨wipeE s1.env is, s1.st⟩ with
    | .ok acc s' => Res.ok (R.own (.lst acc)) ⟨mergeE s1.env s'.env is, s'.st⟩
    | _ => .stuck) = _
  rw [compM_on mk p f l [] step (by simpa using hl)]
  simp
/-! comprehensions, loops over what is written, unrolled -/
def cmpK (is : List Nat) (env : List Slot) : Res (List D) → Res R
  | .ok acc s' => .ok (.own (.lst acc)) ⟨mergeE env s'.env is, s'.st⟩
  | _ => .stuck
theorem eComp_ap {is : List Nat} {fi : M (List D)} {a : R → M Unit} {tt : M Bool} {te : M R} {s : S} : eComp is fi a tt te s = (fi s).bd fun ds s1 => cmpK is s1.env (compM is a tt te ds [] ⟨wipeE s1.env is, s1.st⟩) := by
  show (fi s).bd _ = _
  congr 1
theorem cmpK_ok {is : List Nat} {env e : List Slot} {acc : List D} {st : List SO} : cmpK is env (.ok acc ⟨e, st⟩) = .ok (.own (.lst acc)) ⟨mergeE env e is, st⟩ := rfl
theorem compM_nil {is : List Nat} {a : R → M Unit} {tt : M Bool} {te : M R} {acc : List D} {s : S} : compM is a tt te [] acc s = .ok acc s := rfl
theorem compM_cons {is : List Nat} {a : R → M Unit} {tt : M Bool} {te : M R} {d : D} {ds acc : List D} {s : S} : compM is a tt te (d :: ds) acc s = (a (.val d) s).bd fun _ s1 => (tt s1).bd fun b => ifM b
    (fun s2 => ((te s2).bd escF).bd fun y => okB (decide (acc.length < LIM)) fun s3 => compM is a tt te ds (acc ++ [y]) ⟨wipeE s3.env is, s3.st⟩) (fun s2 => compM is a tt te ds acc ⟨wipeE s2.env is, s2.st⟩) := by
  show (a (.val d) s).bd _ = _
  refine bd_congr (funext fun _ => funext fun s1 => ?_)
  show (tt s1).bd _ = _
  refine bd_congr (funext fun b => funext fun s2 => ?_)
  cases b with
  | true =>
    show ((te s2).bd escF).bd _ = ((te s2).bd escF).bd _
    refine bd_congr (funext fun y => funext fun s3 => ?_)
    unfold okB
    by_cases h : acc.length < LIM
    · rw [if_pos h, decide_eq_true h, if_pos rfl]
    · rw [if_neg h, decide_eq_false h, if_neg Bool.false_ne_true]
  | false => rfl
theorem wipeE_nil {env : List Slot} : wipeE env [] = env := rfl
theorem wipeE_cons {env : List Slot} {i : Nat} {is : List Nat} : wipeE env (i :: is) = (wipeE env is).set i .un := rfl
theorem mergeE_nil {env e : List Slot} : mergeE env e [] = e := rfl
def sltO : Option Slot → Slot
  | some x => x
  | none => .un
theorem sltO_some {x : Slot} : sltO (some x) = x := rfl
theorem mergeE_cons {env e : List Slot} {i : Nat} {is : List Nat} : mergeE env e (i :: is) = (mergeE env e is).set i (sltO env[i]?) := by
  show (mergeE env e is).set i _ = _
  congr 1
theorem gTup_val {n : Nat} {as : List D → M Unit} {l : List D} {s : S} : gTupM n as (.val (.tup l)) s = okB (decide (l.length = n)) (as l) s := by
  show (if l.length = n then as l else stuckM) s = _
  unfold okB
  by_cases h : l.length = n
  · rw [if_pos h, decide_eq_true h, if_pos rfl]
  · rw [if_neg h, decide_eq_false h, if_neg Bool.false_ne_true]
theorem asInt_int {i : Int} : asInt (.int i) = some i := rfl
theorem asStr_str {z : Str} : asStr (.str z) = some z := rfl
end Dn

local macro_rules
  | `(tactic| simp_arith! [$ls,*]) => `(tactic| simp -implicitDefEqProofs -dsimp only [Dn.bindM_ap, Dn.rb_ok, Dn.rb_exc, Dn.rb_stuck, Dn.retM_ap, Dn.eLit_ap, Dn.eBor_ap, Dn.eLoc_ap, Dn.eMov_ap, Dn.getV_val, Dn.getV_own, Dn.getL_val, Dn.getL_own, Dn.getM_val, Dn.getM_own, Dn.eBin_ap, Dn.tVal_ap, Dn.truF_bl, Dn.truF_tbl, Dn.ifM_true, Dn.ifM_false, Dn.tNotM_ap, Dn.eNotM_ap, Dn.tAndM_ap, Dn.tOrM_ap, Dn.eAndM_ap, Dn.eOrM_ap, Dn.eIfM_ap, Dn.eChain_ap, Dn.tChn_ap, Dn.argR_ap, Dn.argD_ap, Dn.escF_val, Dn.escF_own, Dn.okB_true, Dn.eTupM_ap, Dn.eLstM_ap, Dn.pureF_op, Dn.optM_some, Dn.eCall_ap, Dn.eIsi_ap, Dn.partF_ap, Dn.eSlc_ap, Dn.eRev_ap, Dn.eNeg_ap, Dn.eStrM_ap, Dn.eRepl_ap, Dn.eIter_ap, Dn.eRange_ap, Dn.eWalk_ap, Dn.eDisp_ap, Dn.eFn_ap, Dn.sSeq_ap, Dn.nxt_nx, Dn.nxt_ret, Dn.nxt_brk, Dn.nxt_cont, Dn.sDrop_ap, Dn.sRet_ap, Dn.sIf_ap, Dn.asgM_val, Dn.asgM_own, Dn.asgRef_own, Dn.asgRef_val, Dn.sAsg_ap, Dn.gsNil_ap, Dn.gsCons_ap, Dn.sPar_ap, Dn.parS_nil, Dn.parS_cons, Dn.sFor_ap, Dn.sRaise_ap, Dn.sTry_ap, Dn.outF_val, Dn.outF_own, Dn.outF_nx, Dn.outF_exc, Dn.opD_add, Dn.opD_sub, Dn.opD_mul, Dn.opD_mod, Dn.opD_fdv, Dn.opD_pow, Dn.cmpD_eq, Dn.cmpD_ne, Dn.cmpD_lt, Dn.cmpD_le, Dn.cmpD_gt, Dn.cmpD_ge, Dn.cmpD_is, Dn.cmpD_isn, Dn.cmpD_in, Dn.cmpD_nin, Dn.ixM_lst, Dn.ixM_tlst, Dn.ixM_olst, Dn.ixM_tup, Dn.ixM_str, List.getElem?_cons_zero, List.getElem?_cons_succ, List.set_cons_zero, List.set_cons_succ, List.map_cons, List.map_nil, List.length_cons, List.length_nil, List.cons_append, List.nil_append, List.replicate, Dn.R.d, Nat.reduceAdd, Nat.reduceSub, Nat.reduceLeDiff, Nat.reduceLT, Nat.zero_add, Dn.LIM, decide_true, decide_false, Bool.not_true, Bool.not_false, List.zip_cons_cons, List.zip_nil_left, List.reverse_cons, List.reverse_nil, Dn.cmpK_ok, Dn.compM_nil, Dn.asInt_int, Dn.asStr_str, Option.map_some, Dn.wipeE_nil, Dn.wipeE_cons, Dn.mergeE_nil, Dn.mergeE_cons, Dn.sltO_some, Int.cast_ofNat_Int, Int.reduceEq, Int.reduceLE, Int.reduceLT, Dn.gTup_val, Dn.isi_non, Dn.isi_bl, Dn.isi_int, Dn.isi_str, Dn.isi_tup, Dn.isi_lst, Dn.isi_tlst, Dn.isi_olst, Dn.tk_int_non, Dn.tk_int_bl, Dn.tk_int_int, Dn.tk_int_str, Dn.tk_int_tup, Dn.tk_int_lst, Dn.tk_bool_non, Dn.tk_bool_bl, Dn.tk_bool_int, Dn.tk_bool_str, Dn.tk_bool_tup, Dn.tk_bool_lst, Dn.tk_str_non, Dn.tk_str_bl, Dn.tk_str_int, Dn.tk_str_str, Dn.tk_str_tup, Dn.tk_str_lst, Dn.tk_tuple_non, Dn.tk_tuple_bl, Dn.tk_tuple_int, Dn.tk_tuple_str, Dn.tk_tuple_tup, Dn.tk_tuple_lst, Dn.tk_list_non, Dn.tk_list_bl, Dn.tk_list_int, Dn.tk_list_str, Dn.tk_list_tup, Dn.tk_list_lst, Dn.fLen_tup, Dn.fLen_lst, Dn.fLen_tlst, Dn.fLen_olst, Dn.icF_int, Dn.eqF_int, Dn.neF_int, Dn.eqF_str, Dn.neF_str, Dn.addF_int, Dn.subF_int, $ls,*])

/-! Ev3 -/
set_option Elab.async false
set_option linter.all false
set_option maxRecDepth 100000
namespace Dn
open PySem PySem.Spec PyProof.Rows L2
/-! ### values that are laid out in full -/
mutual
/-- no dict, no shared list; texts in order, nothing longer than N -/
def gdB (N : Nat) : D → Bool
  | .non => true
  | .bl _ => true
  | .int _ => true
  | .str z => PyData.canLay0 (.str z) && decide (z.length ≤ N)
  | .tup l => decide (l.length ≤ N) && gdsB N l
  | .lst l => decide (l.length ≤ N) && gdsB N l
  | .dct _ => false
  | .ref _ => false
def gdsB (N : Nat) : List D → Bool
  | [] => true
  | d :: l => gdB N d && gdsB N l
end
mutual
def dep : D → Nat
  | .tup l => deps l + 1
  | .lst l => deps l + 1
  | _ => 0
def deps : List D → Nat
  | [] => 0
  | d :: l => max (dep d) (deps l)
end
mutual
def pyD : D → PyData
  | .non => .none
  | .bl b => .bool b
  | .int i => .int i
  | .str z => .str z
  | .tup l => .tuple (pysD l)
  | .lst l => .list (pysD l)
  | .dct _ => .none
  | .ref _ => .none
def pysD : List D → List PyData
  | [] => []
  | d :: l => pyD d :: pysD l
end
mutual
theorem toPy_gd {N : Nat} : ∀ d : D, gdB N d = true → toPy d = some (pyD d) ∧ (pyD d).canLay0 = true ∧ (pyD d).depth = dep d
  | .non, _ => ⟨rfl, rfl, rfl⟩
  | .bl _, _ => ⟨rfl, rfl, rfl⟩
  | .int _, _ => ⟨rfl, rfl, rfl⟩
  | .str z, h => ⟨rfl, (Bool.and_eq_true_iff.mp h).1, rfl⟩
  | .tup l, h => by
    obtain ⟨h1, h2, h3⟩ := toPys_gd l (Bool.and_eq_true_iff.mp h).2
    refine ⟨?_, h2, ?_⟩
    · show (match toPys l with | some ks => some (PyData.tuple ks) | none => none) = _
      rw [h1]
      rfl
    · show PyData.depthAll (pysD l) + 1 = deps l + 1
      rw [h3]
  | .lst l, h => by
    obtain ⟨h1, h2, h3⟩ := toPys_gd l (Bool.and_eq_true_iff.mp h).2
    refine ⟨?_, h2, ?_⟩
    · show (match toPys l with | some ks => some (PyData.list ks) | none => none) = _
      rw [h1]
      rfl
    · show PyData.depthAll (pysD l) + 1 = deps l + 1
      rw [h3]
  | .dct _, h => by cases h
  | .ref _, h => by cases h
theorem toPys_gd {N : Nat} : ∀ l : List D, gdsB N l = true → toPys l = some (pysD l) ∧ PyData.canLayAll0 (pysD l) = true ∧ PyData.depthAll (pysD l) = deps l
  | [], _ => ⟨rfl, rfl, rfl⟩
  | d :: l, h => by
    obtain ⟨a, b⟩ := Bool.and_eq_true_iff.mp h
    obtain ⟨h1, h2, h3⟩ := toPy_gd d a
    obtain ⟨k1, k2, k3⟩ := toPys_gd l b
    refine ⟨?_, ?_, ?_⟩
    · show (match toPy d, toPys l with | some k, some ks => some (k :: ks) | _, _ => none) = _
      rw [h1, k1]
      rfl
    · show (PyData.canLay0 (pyD d) && PyData.canLayAll0 (pysD l)) = true
      rw [h2, k2]
      rfl
    · show max (PyData.depth (pyD d)) (PyData.depthAll (pysD l)) = max (dep d) (deps l)
      rw [h3, k3]
end
/-- == -/
def deq (x y : D) : Bool := PyData.eqv (pyD x) (pyD y)
theorem shaped_gd {N : Nat} {d : D} (h : gdB N d = true) (hd : dep d ≤ 64) : SeqAt.shaped (pyD d) = true := by
  obtain ⟨_, h2, h3⟩ := toPy_gd d h
  unfold SeqAt.shaped
  rw [h2, h3, decide_eq_true hd]
  rfl
theorem deqE_gd {N M : Nat} {x y : D} (hx : gdB N x = true) (hy : gdB M y = true) (dx : dep x ≤ 64) (dy : dep y ≤ 64) : deqE x y = some (deq x y) := by
  unfold deqE
  rw [(toPy_gd x hx).1, (toPy_gd y hy).1]
  show (if (SeqAt.shaped (pyD x) && SeqAt.shaped (pyD y)) = true then _ else _) = _
  rw [shaped_gd hx dx, shaped_gd hy dy]
  rfl
theorem scal_deq {x y : D} {b : Bool} (h : scalE x y = some b) : b = deq x y := by
  unfold scalE at h
  unfold deq
  split at h <;> first | (cases h; done) | (cases h; rfl) | skip
  all_goals first
    | (cases h; simp only [pyD, PyData.eqv]; done)
    | (cases h; simp only [pyD, PyData.eqv]; exact (Bool.beq_eq_decide_eq _ _).symm)
theorem eqE_gd {N M : Nat} {x y : D} (hx : gdB N x = true) (hy : gdB M y = true) (dx : dep x ≤ 64) (dy : dep y ≤ 64) : eqE x y = some (deq x y) := by
  unfold eqE
  cases e : scalE x y with
  | some b => rw [scal_deq e]
  | none => exact deqE_gd hx hy dx dy
theorem any_pys (f : PyData → Bool) : ∀ l : List D, (pysD l).any f = l.any fun z => f (pyD z)
  | [] => rfl
  | d :: l => by
    show (f (pyD d) || (pysD l).any f) = (f (pyD d) || l.any fun z => f (pyD z))
    rw [any_pys f l]
theorem inE_lst {N M : Nat} {x : D} {l : List D} (hx : gdB N x = true) (hl : gdsB M l = true) (dx : dep x ≤ 64) (dl : deps l < 64) : inE x (.lst l) = some (l.any fun z => deq z x) := by
  have h : (match toPy x, toPys l with
    | some a, some ds => if SeqAt.shaped a && SeqAt.shaped (.list ds) then some (ds.any fun z => PyData.eqv z a) else none
    | _, _ => none) = some (l.any fun z => deq z x) := by
    obtain ⟨k1, k2, k3⟩ := toPys_gd l hl
    rw [(toPy_gd x hx).1, k1]
    have hs : SeqAt.shaped (.list (pysD l)) = true := by
      unfold SeqAt.shaped
      rw [show PyData.canLay0 (.list (pysD l)) = true from k2, show PyData.depth (.list (pysD l)) = deps l + 1 from by show PyData.depthAll (pysD l) + 1 = _; rw [k3], decide_eq_true (show deps l + 1 ≤ 64 from dl)]
      rfl
    show (if (SeqAt.shaped (pyD x) && SeqAt.shaped (.list (pysD l))) = true then _ else _) = _
    rw [shaped_gd hx dx, hs]
    show some ((pysD l).any fun z => PyData.eqv z (pyD x)) = _
    rw [any_pys]
    rfl
  exact h
theorem inE_tup {N M : Nat} {x : D} {l : List D} (hx : gdB N x = true) (hl : gdsB M l = true) (dx : dep x ≤ 64) (dl : deps l < 64) : inE x (.tup l) = some (l.any fun z => deq z x) := by
  have h : (match toPy x, toPys l with
    | some a, some ds => if SeqAt.shaped a && SeqAt.shaped (.tuple ds) then some (ds.any fun z => PyData.eqv z a) else none
    | _, _ => none) = some (l.any fun z => deq z x) := by
    obtain ⟨k1, k2, k3⟩ := toPys_gd l hl
    rw [(toPy_gd x hx).1, k1]
    have hs : SeqAt.shaped (.tuple (pysD l)) = true := by
      unfold SeqAt.shaped
      rw [show PyData.canLay0 (.tuple (pysD l)) = true from k2, show PyData.depth (.tuple (pysD l)) = deps l + 1 from by show PyData.depthAll (pysD l) + 1 = _; rw [k3], decide_eq_true (show deps l + 1 ≤ 64 from dl)]
      rfl
    show (if (SeqAt.shaped (pyD x) && SeqAt.shaped (.tuple (pysD l))) = true then _ else _) = _
    rw [shaped_gd hx dx, hs]
    show some ((pysD l).any fun z => PyData.eqv z (pyD x)) = _
    rw [any_pys]
    rfl
  exact h
/-! texts -/
def sts (ws : List Str) : List D := ws.map .str
theorem gds_sts {N : Nat} : ∀ {ws : List Str}, (∀ w ∈ ws, gdB N (.str w) = true) → gdsB N (sts ws) = true
  | [], _ => rfl
  | w :: ws, h => by
    show (gdB N (.str w) && gdsB N (sts ws)) = true
    rw [h w (by simp), gds_sts fun x hx => h x (by simp [hx])]
    rfl
theorem deps_sts : ∀ ws : List Str, deps (sts ws) = 0
  | [] => rfl
  | w :: ws => by
    show max 0 (deps (sts ws)) = 0
    rw [deps_sts ws]
    rfl
theorem any_sts (z : Str) : ∀ ws : List Str, ((sts ws).any fun y => deq y (.str z)) = ws.contains z
  | [] => rfl
  | w :: ws => by
    show ((w == z) || ((sts ws).any fun y => deq y (.str z))) = _
    rw [any_sts z ws, List.contains_cons]
    congr 1
    by_cases h : w = z
    · simp [h]
    · rw [beq_eq_false_iff_ne.mpr h, beq_eq_false_iff_ne.mpr (fun e => h e.symm)]
theorem inE_sts {N M : Nat} {z : Str} {ws : List Str} (hz : gdB N (.str z) = true) (hw : ∀ w ∈ ws, gdB M (.str w) = true) : inE (.str z) (.tup (sts ws)) = some (ws.contains z) := by
  rw [inE_tup hz (gds_sts hw) (Nat.zero_le _) (by rw [deps_sts]; decide), any_sts]
theorem inE_stl {N M : Nat} {z : Str} {ws : List Str} (hz : gdB N (.str z) = true) (hw : ∀ w ∈ ws, gdB M (.str w) = true) : inE (.str z) (.lst (sts ws)) = some (ws.contains z) := by
  rw [inE_lst hz (gds_sts hw) (Nat.zero_le _) (by rw [deps_sts]; decide), any_sts]
theorem inF_f {x y : R} {b : Bool} (h : inE x.d y.d = some b) : inF false x y = some (.val (.bl b)) := by
  unfold inF
  rw [h]
  cases b <;> rfl
theorem inF_t {x y : R} {b : Bool} (h : inE x.d y.d = some b) : inF true x y = some (.val (.bl (!b))) := by
  unfold inF
  rw [h]
  cases b <;> rfl
theorem eqF_of {x y : R} {b : Bool} (h : eqE x.d y.d = some b) : eqF x y = some (.val (.bl b)) := by
  unfold eqF
  rw [h]
  rfl
theorem neF_of {x y : R} {b : Bool} (h : eqE x.d y.d = some b) : neF x y = some (.val (.bl (!b))) := by
  unfold neF
  rw [h]
  rfl
/-- all the elements of a list of booleans -/
theorem asBls_map {α : Type} (f : α → Bool) : ∀ l : List α, asBls (l.map fun a => .bl (f a)) = some (l.map f)
  | [] => rfl
  | a :: l => by
    show (match asBl (.bl (f a)), asBls (l.map fun a => .bl (f a)) with | some b, some bs => some (b :: bs) | _, _ => none) = _
    rw [asBls_map f l]
    rfl
theorem fAll_map {α : Type} (f : α → Bool) (l : List α) : Bk.all.h [.own (.lst (l.map fun a => .bl (f a)))] = some (.val (.bl (l.all f))) := by
  show ((asBls (l.map fun a => .bl (f a))).map fun bs => R.val (.bl (if true then bs.all (fun b => b) else bs.any (fun b => b)))) = _
  rw [asBls_map]
  simp [List.all_map, Function.comp_def]
theorem ix_tup {l : List D} {j : Nat} {d : D} (h : l[j]? = some d) : ixF (.val (.tup l)) (.val (.int (j : Int))) = some (.val d) := by
  show (L2.atI l (j : Int)).map R.val = _
  rw [L2.atI_nat h]
  rfl
theorem ix_lst {l : List D} {j : Nat} {d : D} (h : l[j]? = some d) : ixF (.val (.lst l)) (.val (.int (j : Int))) = some (.val d) := by
  show (L2.atI l (j : Int)).map R.val = _
  rw [L2.atI_nat h]
  rfl
theorem ix_tlst {l : List D} {j : Nat} {d : D} (h : l[j]? = some d) : ixF (.tmp (.lst l)) (.val (.int (j : Int))) = some (.val d) := by
  show (L2.atI l (j : Int)).map R.val = _
  rw [L2.atI_nat h]
  rfl
end Dn


/-! N_all -/
set_option Elab.async false
set_option linter.all false
set_option maxRecDepth 100000
namespace Pn
open PySem PySem.Spec PyProof.Rows L2 Dn
def c_SIGNS : D := .tup [.str "hand", .str "none", .str "own"]
def c_CHOICES : D := .tup [.tup [.str "dish", .str "full", .str "sign"], .tup [.str "adds", .str "empties", .str "waits"], .tup [.str "all", .str "one"], .tup [.str "each", .str "full", .str "never"], .tup [.str "both", .str "never", .str "start"]]
def c_MOST_PLACES : D := .int 3
def c_MOST_HABITS : D := .int 3
def n_is_whole : M Fl := (sSeq (sRet (eAndM (eIsi Tk.int.ty (eBor 0)) (eAndM (eNotM (eIsi Tk.bool.ty (eBor 0))) (eChain (cmpD .LtE) (cmpD .LtE) (eBor 1) (eBor 0) (eBor 2))))) (retM .nx))
def n_is_word : M Fl := (sSeq (sRet (eAndM (eIsi Tk.str.ty (eBor 0)) (eBin (cmpD .In) (eBor 0) (eBor 1)))) (retM .nx))
def n_is_right_habit (F_is_word : FT) : M Fl := (sSeq (sIf (tOrM (tNotM (tVal (eIsi Tk.tuple.ty (eBor 0)))) (tOrM (tVal (eBin (cmpD .NotEq) (eCall (argR (eBor 0) (retM [])) (pureF Bk.len.h)) (eLit (.int 6)))) (tNotM (tVal (eIsi Tk.bool.ty (eBin ixM (eBor 0) (eLit (.int 5)))))))) (sSeq (sRet (eLit (.bl false))) (retM .nx)) (retM .nx)) (sSeq (sRet (eCall (argR (eComp [1, 2] (eWalk fZip (argD (eLoc 0) (argD (eLit c_CHOICES) (retM [])))) (gTupM 2 (gsCons (asgM 1) (gsCons (asgM 2) gsNil))) (retM true) (eFn F_is_word (argD (eLoc 1) (argD (eLoc 2) (retM []))))) (retM [])) (pureF Bk.all.h))) (retM .nx)))
def n_is_right_kitchen (F_is_whole F_is_word F_is_right_habit : FT) : M Fl := (sSeq (sIf (tOrM (tNotM (tVal (eIsi Tk.tuple.ty (eBor 0)))) (tOrM (tVal (eBin (cmpD .NotEq) (eCall (argR (eBor 0) (retM [])) (pureF Bk.len.h)) (eLit (.int 3)))) (tNotM (tVal (eFn F_is_whole (argD (eBin ixM (eBor 0) (eLit (.int 0))) (argD (eLit (.int 1)) (argD (eLit c_MOST_PLACES) (retM []))))))))) (sSeq (sRet (eLit (.bl false))) (retM .nx)) (retM .nx)) (sSeq (sIf (tOrM (tNotM (tVal (eFn F_is_word (argD (eBin ixM (eBor 0) (eLit (.int 1))) (argD (eLit c_SIGNS) (retM [])))))) (tNotM (tVal (eIsi Tk.tuple.ty (eBin ixM (eBor 0) (eLit (.int 2))))))) (sSeq (sRet (eLit (.bl false))) (retM .nx)) (retM .nx)) (sSeq (sRet (eAndM (eChain (cmpD .LtE) (cmpD .LtE) (eLit (.int 1)) (eCall (argR (eBin ixM (eBor 0) (eLit (.int 2))) (retM [])) (pureF Bk.len.h)) (eLit c_MOST_HABITS)) (eCall (argR (eComp [1] (eIter (eBin ixM (eBor 0) (eLit (.int 2)))) (asgM 1) (retM true) (eFn F_is_right_habit (argD (eLoc 1) (retM [])))) (retM [])) (pureF Bk.all.h)))) (retM .nx))))
def n_is_right_stand : M Fl := (sSeq (sIf (tOrM (tNotM (tVal (eIsi Tk.tuple.ty (eBor 1)))) (tVal (eBin (cmpD .NotEq) (eCall (argR (eBor 1) (retM [])) (pureF Bk.len.h)) (eLit (.int 2))))) (sSeq (sRet (eLit (.bl false))) (retM .nx)) (retM .nx)) (sSeq (sIf (tOrM (tNotM (tVal (eIsi Tk.str.ty (eBin ixM (eBor 1) (eLit (.int 0)))))) (tNotM (tVal (eIsi Tk.bool.ty (eBin ixM (eBor 1) (eLit (.int 1))))))) (sSeq (sRet (eLit (.bl false))) (retM .nx)) (retM .nx)) (sSeq (sIf (tOrM (tVal (eBin (cmpD .NotEq) (eCall (argR (eBin ixM (eBor 1) (eLit (.int 0))) (retM [])) (pureF Bk.len.h)) (eBin ixM (eBor 0) (eLit (.int 0))))) (tNotM (tVal (eCall (argR (eComp [2] (eIter (eBin ixM (eBor 1) (eLit (.int 0)))) (asgM 2) (retM true) (eBin (cmpD .In) (eBor 2) (eTupM (argD (eLit (.str ".")) (argD (eLit (.str "c")) (argD (eLit (.str "d")) (retM []))))))) (retM [])) (pureF Bk.all.h))))) (sSeq (sRet (eLit (.bl false))) (retM .nx)) (retM .nx)) (sSeq (sRet (eOrM (eBin (cmpD .NotEq) (eBin ixM (eBor 0) (eLit (.int 1))) (eLit (.str "none"))) (eNotM (eBin ixM (eBor 1) (eLit (.int 1)))))) (retM .nx)))))
def n_trusts : M Fl := (sSeq (sAsg (eLoc 1) (gTupM 2 (gsCons (asgM 3) (gsCons (asgM 4) gsNil)))) (sSeq (sAsg (eRepl "." "" none (eBor 3)) (asgM 2)) (sSeq (sIf (tVal (eBin (cmpD .Eq) (eBor 2) (eLit (.str "")))) (sSeq (sRet (eLit (.bl false))) (retM .nx)) (retM .nx)) (sSeq (sIf (tVal (eBin (cmpD .Eq) (eBin ixM (eBor 0) (eLit (.int 0))) (eLit (.str "sign")))) (sSeq (sRet (eMov 4)) (retM .nx)) (retM .nx)) (sSeq (sRet (eIfM (tVal (eBin (cmpD .Eq) (eBin ixM (eBor 0) (eLit (.int 0))) (eLit (.str "dish")))) (eBin (cmpD .Eq) (eBin ixM (eBor 2) (eLit (.int 0))) (eLit (.str "c"))) (eBin (cmpD .Eq) (eCall (argR (eBor 2) (retM [])) (pureF Bk.len.h)) (eCall (argR (eBor 3) (retM [])) (pureF Bk.len.h))))) (retM .nx))))))
def n_need_kitchen (F_is_right_kitchen : FT) : M Fl := (sSeq (sIf (tNotM (tVal (eFn F_is_right_kitchen (argD (eLoc 0) (retM []))))) (sSeq (sRaise "InvalidKitchen") (retM .nx)) (retM .nx)) (retM .nx))
def n_need_stand (F_is_right_stand : FT) : M Fl := (sSeq (sIf (tNotM (tVal (eFn F_is_right_stand (argD (eLoc 0) (argD (eLoc 1) (retM [])))))) (sSeq (sRaise "InvalidStand") (retM .nx)) (retM .nx)) (retM .nx))
def n_need_number (F_is_whole : FT) : M Fl := (sSeq (sIf (tNotM (tVal (eFn F_is_whole (argD (eLoc 1) (argD (eLit (.int 0)) (argD (eBin (opD .Sub) (eCall (argR (eBin ixM (eBor 0) (eLit (.int 2))) (retM [])) (pureF Bk.len.h)) (eLit (.int 1))) (retM []))))))) (sSeq (sRaise "InvalidNumber") (retM .nx)) (retM .nx)) (retM .nx))
def n_is_habit (F_is_right_habit : FT) : M Fl := (sSeq (sRet (eFn F_is_right_habit (argD (eLoc 0) (retM [])))) (retM .nx))
def n_is_kitchen (F_is_right_kitchen : FT) : M Fl := (sSeq (sRet (eFn F_is_right_kitchen (argD (eLoc 0) (retM [])))) (retM .nx))
def n_is_stand (F_need_kitchen F_is_right_stand : FT) : M Fl := (sSeq (sDrop (eFn F_need_kitchen (argD (eLoc 0) (retM [])))) (sSeq (sRet (eFn F_is_right_stand (argD (eLoc 0) (argD (eLoc 1) (retM []))))) (retM .nx)))
def n_believes (F_need_kitchen F_need_stand F_need_number F_trusts : FT) : M Fl := (sSeq (sDrop (eFn F_need_kitchen (argD (eLoc 0) (retM [])))) (sSeq (sDrop (eFn F_need_stand (argD (eLoc 0) (argD (eLoc 1) (retM []))))) (sSeq (sDrop (eFn F_need_number (argD (eLoc 0) (argD (eLoc 2) (retM []))))) (sSeq (sRet (eFn F_trusts (argD (eBin ixM (eBin ixM (eBor 0) (eLit (.int 2))) (eBor 2)) (argD (eLoc 1) (retM []))))) (retM .nx)))))
def n__law_source : M Fl := (sSeq (sAsg (eLit (.int 0)) (asgM 2)) (sSeq (sIf (tVal (eBin (cmpD .Gt) (eCall (argR (eBor 0) (retM [])) (pureF Bk.len.h)) (eBor 1))) (sSeq (sAsg (eCall (argR (eBin ixM (eBor 0) (eBor 1)) (retM [])) (pureF Bk.int.h)) (asgM 2)) (retM .nx)) (retM .nx)) (sSeq (sAsg (eBin (opD .Mod) (eBin (opD .Add) (eBin (opD .Add) (eBin (opD .Mult) (eBor 2) (eLit (.int 16807))) (eBin (opD .Mult) (eLit (.int 60919)) (eBor 1))) (eLit (.int 31))) (eLit (.int 2147481173))) (asgM 3)) (sSeq (sAsg (eBin (opD .Add) (eBin (opD .Add) (eBin (opD .Mod) (eBin (opD .Mult) (eBor 3) (eBor 3)) (eLit (.int 2147481151))) (eBin (opD .Mult) (eLit (.int 2)) (eBor 1))) (eLit (.int 5))) (asgM 3)) (sSeq (sRet (eLstM (argD (eIfM (tVal (eBin (cmpD .GtE) (eBor 2) (eBin (opD .Pow) (eLit (.int 10)) (eLit (.int 18))))) (eLoc 2) (eLit (.int 0))) (argD (eLoc 3) (retM []))))) (retM .nx))))))
def n__law_pick : M Fl := (sSeq (sIf (tVal (eBin (cmpD .Gt) (eBin ixM (eBor 0) (eLit (.int 0))) (eLit (.int 0)))) (sSeq (sAsg (eBin (opD .Mod) (eCall (argR (eBin ixM (eBor 0) (eLit (.int 0))) (retM [])) (pureF Bk.int.h)) (eBor 1)) (asgM 2)) (sSeq (sPut 0 (eBin (opD .FloorDiv) (eCall (argR (eBin ixM (eBor 0) (eLit (.int 0))) (retM [])) (pureF Bk.int.h)) (eBor 1)) (eLit (.int 0))) (sSeq (sRet (eMov 2)) (retM .nx)))) (retM .nx)) (sSeq (sPut 0 (eBin (opD .Mod) (eCall (argR (eBin (opD .Add) (eBin (opD .Mult) (eBin ixM (eBor 0) (eLit (.int 1))) (eLit (.int 44497))) (eLit (.int 9973))) (retM [])) (pureF Bk.int.h)) (eLit (.int 2147483647))) (eLit (.int 1))) (sSeq (sRet (eBin (opD .Mod) (eBin (opD .FloorDiv) (eBin (opD .Mod) (eCall (argR (eBin (opD .Mult) (eBin ixM (eBor 0) (eLit (.int 1))) (eBin ixM (eBor 0) (eLit (.int 1)))) (retM [])) (pureF Bk.int.h)) (eLit (.int 2147483399))) (eLit (.int 11))) (eBor 1))) (retM .nx))))
def n__law_chosen (F__law_pick : FT) : M Fl := (sSeq (sRet (eBin ixM (eBor 1) (eFn F__law_pick (argD (eLoc 0) (argD (eCall (argR (eBor 1) (retM [])) (pureF Bk.len.h)) (retM [])))))) (retM .nx))
def n__law_is_bool : M Fl := (sSeq (sRet (eAndM (eIsi Tk.bool.ty (eBor 0)) (eBin (cmpD .Eq) (eBor 0) (eBor 1)))) (retM .nx))
def n__law_wide : M Fl := (sSeq (sRet (eAndM (eIsi Tk.tuple.ty (eBor 0)) (eChain (cmpD .LtE) (cmpD .LtE) (eBor 1) (eCall (argR (eBor 0) (retM [])) (pureF Bk.len.h)) (eBor 2)))) (retM .nx))
def n__law_any_value (F__law_pick F__law_chosen F__law_any_value : FT) : M Fl := (sSeq (sAsg (eLstM (argD (eLit (.non)) (argD (eLit (.bl true)) (argD (eLit (.bl false)) (argD (eLit (.int 0)) (argD (eLit (.int 1)) (argD (eLit (.int 2)) (argD (eLit (.int 4)) (argD (eNeg (eLit (.int 2))) (argD (eBin (opD .Pow) (eLit (.int 10)) (eLit (.int 12))) (argD (eLit (.str "")) (argD (eLit (.str "c")) (argD (eLit (.str "sign")) (argD (eLit (.str "own")) (argD (eLit (.str "full")) (argD (eLit (.str "used")) (argD (eLit (.str "..")) (argD (eTupM (retM [])) (argD (eLstM (retM [])) (argD (eTupM (argD (eLit (.int 1)) (retM []))) (retM []))))))))))))))))))))) (asgM 2)) (sSeq (sAsg (eFn F__law_pick (argD (eLoc 0) (argD (eLit (.int 8)) (retM [])))) (asgM 3)) (sSeq (sIf (tOrM (tVal (eBin (cmpD .Lt) (eBor 1) (eLit (.int 1)))) (tVal (eBin (cmpD .Lt) (eBor 3) (eLit (.int 5))))) (sSeq (sRet (eFn F__law_chosen (argD (eLoc 0) (argD (eLoc 2) (retM []))))) (retM .nx)) (retM .nx)) (sSeq (sAsg (eComp [5] (eRange (argR (eFn F__law_pick (argD (eLoc 0) (argD (eLit (.int 5)) (retM [])))) (retM []))) (asgM 5) (retM true) (eFn F__law_any_value (argD (eLoc 0) (argD (eBin (opD .Sub) (eBor 1) (eLit (.int 1))) (retM []))))) (asgM 4)) (sSeq (sRet (eIfM (tVal (eBin (cmpD .Eq) (eBor 3) (eLit (.int 5)))) (eMov 4) (eCall (argR (eBor 4) (retM [])) (pureF Bk.tuple.h)))) (retM .nx))))))
def n__law_variant (F__law_any_value F__law_pick F__law_variant F__law_chosen : FT) : M Fl := (sSeq (sAsg (eCall (argR (eBor 1) (retM [])) (pureF Bk.list.h)) (asgM 3)) (sSeq (sIf (tVal (eBin (cmpD .Eq) (eBor 3) (eLstM (retM [])))) (sSeq (sRet (eTupM (argD (eFn F__law_any_value (argD (eLoc 0) (argD (eLit (.int 1)) (retM [])))) (retM [])))) (retM .nx)) (retM .nx)) (sSeq (sPar [5, 6] (argR (eFn F__law_pick (argD (eLoc 0) (argD (eCall (argR (eBor 3) (retM [])) (pureF Bk.len.h)) (retM [])))) (argR (eFn F__law_pick (argD (eLoc 0) (argD (eLit (.int 9)) (retM [])))) (retM [])))) (sSeq (sAsg (eBin ixM (eBor 3) (eBor 5)) (asgM 4)) (sSeq (sIf (tAndM (tVal (eIsi Tk.tuple.ty (eBor 4))) (tAndM (tVal (eBin (cmpD .Gt) (eBor 2) (eLit (.int 0)))) (tVal (eBin (cmpD .Gt) (eBor 6) (eLit (.int 2)))))) (sSeq (sRet (eBin (opD .Add) (eBin (opD .Add) (eCall (argR (eSlc (eBor 3) (retM none) (partF (eBor 5))) (retM [])) (pureF Bk.tuple.h)) (eTupM (argD (eFn F__law_variant (argD (eLoc 0) (argD (eLoc 4) (argD (eBin (opD .Sub) (eBor 2) (eLit (.int 1))) (retM []))))) (retM [])))) (eCall (argR (eSlc (eBor 3) (partF (eBin (opD .Add) (eBor 5) (eLit (.int 1)))) (retM none)) (retM [])) (pureF Bk.tuple.h)))) (retM .nx)) (retM .nx)) (sSeq (sIf (tVal (eBin (cmpD .Eq) (eBor 6) (eLit (.int 0)))) (sSeq (sRet (eCall (argR (eBin (opD .Add) (eSlc (eBor 3) (retM none) (partF (eBor 5))) (eSlc (eBor 3) (partF (eBin (opD .Add) (eBor 5) (eLit (.int 1)))) (retM none))) (retM [])) (pureF Bk.tuple.h))) (retM .nx)) (retM .nx)) (sSeq (sIf (tVal (eBin (cmpD .Eq) (eBor 6) (eLit (.int 1)))) (sSeq (sRet (eCall (argR (eBin (opD .Add) (eSlc (eBor 3) (retM none) (partF (eBin (opD .Add) (eBor 5) (eLit (.int 1))))) (eSlc (eBor 3) (partF (eBor 5)) (retM none))) (retM [])) (pureF Bk.tuple.h))) (retM .nx)) (retM .nx)) (sSeq (sIf (tVal (eBin (cmpD .Eq) (eBor 6) (eLit (.int 2)))) (sSeq (sRet (eCall (argR (eBin (opD .Add) (eBin (opD .Add) (eSlc (eBor 3) (retM none) (partF (eBor 5))) (eRev (eSlc (eBor 3) (partF (eBor 5)) (partF (eBin (opD .Add) (eBor 5) (eLit (.int 2))))))) (eSlc (eBor 3) (partF (eBin (opD .Add) (eBor 5) (eLit (.int 2)))) (retM none))) (retM [])) (pureF Bk.tuple.h))) (retM .nx)) (retM .nx)) (sSeq (sIf (tVal (eBin (cmpD .Eq) (eBor 6) (eLit (.int 3)))) (sSeq (sRet (eMov 3)) (retM .nx)) (retM .nx)) (sSeq (sIf (tVal (eBin (cmpD .Lt) (eBor 6) (eLit (.int 6)))) (sSeq (sPut 3 (eFn F__law_any_value (argD (eLoc 0) (argD (eLit (.int 2)) (retM [])))) (eBor 5)) (retM .nx)) (sSeq (sAsg (eLstM (argD (eLit (.int 0)) (argD (eLit (.int 1)) (argD (eLit (.int 2)) (argD (eLit (.int 3)) (argD (eLit (.int 4)) (argD (eLit (.bl true)) (argD (eLit (.str "hand")) (argD (eLit (.str "none")) (argD (eLit (.str "own")) (argD (eLit (.str "adds")) (argD (eLit (.str "one")) (argD (eLit (.str "never")) (argD (eLit (.str "both")) (argD (eLit (.str "cd")) (argD (eLit (.str "d.")) (argD (eLit (.str "c")) (argD (eLit (.str "bring")) (retM []))))))))))))))))))) (asgM 7)) (sSeq (sPut 3 (eFn F__law_chosen (argD (eLoc 0) (argD (eLoc 7) (retM [])))) (eBor 5)) (retM .nx)))) (sSeq (sRet (eCall (argR (eBor 3) (retM [])) (pureF Bk.tuple.h))) (retM .nx))))))))))))
def n__law_whole : M Fl := (sSeq (sRet (eAndM (eIsi Tk.int.ty (eBor 0)) (eAndM (eNotM (eIsi Tk.bool.ty (eBor 0))) (eChain (cmpD .LtE) (cmpD .LtE) (eBor 1) (eBor 0) (eBor 2))))) (retM .nx))
def n__law_among : M Fl := (sSeq (sRet (eAndM (eIsi Tk.str.ty (eBor 0)) (eBin (cmpD .In) (eBor 0) (eBor 1)))) (retM .nx))
def n__law_table : M Fl := (sSeq (sAsg (eLstM (argD (eLstM (argD (eLit (.str "dish")) (argD (eLit (.str "full")) (argD (eLit (.str "sign")) (retM []))))) (argD (eLstM (argD (eLit (.str "adds")) (argD (eLit (.str "empties")) (argD (eLit (.str "waits")) (retM []))))) (argD (eLstM (argD (eLit (.str "all")) (argD (eLit (.str "one")) (retM [])))) (retM []))))) (asgM 0)) (sSeq (sRet (eBin (opD .Add) (eBor 0) (eLstM (argD (eLstM (argD (eLit (.str "each")) (argD (eLit (.str "full")) (argD (eLit (.str "never")) (retM []))))) (argD (eLstM (argD (eLit (.str "both")) (argD (eLit (.str "never")) (argD (eLit (.str "start")) (retM []))))) (argD (eLstM (argD (eLit (.bl false)) (argD (eLit (.bl true)) (retM [])))) (retM []))))))) (retM .nx)))
def n__law_good_habit (F__law_wide F__law_among F__law_table : FT) : M Fl := (sSeq (sIf (tOrM (tNotM (tVal (eFn F__law_wide (argD (eLoc 0) (argD (eLit (.int 6)) (argD (eLit (.int 6)) (retM []))))))) (tNotM (tVal (eIsi Tk.bool.ty (eBin ixM (eBor 0) (eLit (.int 5))))))) (sSeq (sRet (eLit (.bl false))) (retM .nx)) (retM .nx)) (sSeq (sRet (eBin (cmpD .Eq) (eComp [1, 2] (eWalk fZip (argD (eSlc (eBor 0) (retM none) (partF (eLit (.int 5)))) (argD (eFn F__law_table (retM [])) (retM [])))) (gTupM 2 (gsCons (asgM 1) (gsCons (asgM 2) gsNil))) (tNotM (tVal (eFn F__law_among (argD (eLoc 1) (argD (eLoc 2) (retM [])))))) (eLoc 1)) (eLstM (retM [])))) (retM .nx)))
def n__law_good_house (F__law_wide F__law_whole F__law_among F__law_good_habit : FT) : M Fl := (sSeq (sIf (tOrM (tNotM (tVal (eFn F__law_wide (argD (eLoc 0) (argD (eLit (.int 3)) (argD (eLit (.int 3)) (retM []))))))) (tNotM (tVal (eFn F__law_whole (argD (eBin ixM (eBor 0) (eLit (.int 0))) (argD (eLit (.int 1)) (argD (eLit (.int 3)) (retM [])))))))) (sSeq (sRet (eLit (.bl false))) (retM .nx)) (retM .nx)) (sSeq (sIf (tOrM (tNotM (tVal (eFn F__law_among (argD (eBin ixM (eBor 0) (eLit (.int 1))) (argD (eLstM (argD (eLit (.str "hand")) (argD (eLit (.str "none")) (argD (eLit (.str "own")) (retM []))))) (retM [])))))) (tNotM (tVal (eFn F__law_wide (argD (eBin ixM (eBor 0) (eLit (.int 2))) (argD (eLit (.int 1)) (argD (eLit (.int 3)) (retM [])))))))) (sSeq (sRet (eLit (.bl false))) (retM .nx)) (retM .nx)) (sSeq (sRet (eBin (cmpD .Eq) (eComp [1] (eIter (eBin ixM (eBor 0) (eLit (.int 2)))) (asgM 1) (tNotM (tVal (eFn F__law_good_habit (argD (eLoc 1) (retM []))))) (eLoc 1)) (eLstM (retM [])))) (retM .nx))))
def n__law_good_spot (F__law_wide : FT) : M Fl := (sSeq (sIf (tOrM (tNotM (tVal (eFn F__law_wide (argD (eLoc 1) (argD (eLit (.int 2)) (argD (eLit (.int 2)) (retM []))))))) (tOrM (tNotM (tVal (eIsi Tk.str.ty (eBin ixM (eBor 1) (eLit (.int 0)))))) (tNotM (tVal (eIsi Tk.bool.ty (eBin ixM (eBor 1) (eLit (.int 1)))))))) (sSeq (sRet (eLit (.bl false))) (retM .nx)) (retM .nx)) (sSeq (sIf (tOrM (tVal (eBin (cmpD .NotEq) (eCall (argR (eBin ixM (eBor 1) (eLit (.int 0))) (retM [])) (pureF Bk.len.h)) (eBin ixM (eBor 0) (eLit (.int 0))))) (tAndM (tVal (eBin (cmpD .Eq) (eBin ixM (eBor 0) (eLit (.int 1))) (eLit (.str "none")))) (tVal (eBin ixM (eBor 1) (eLit (.int 1)))))) (sSeq (sRet (eLit (.bl false))) (retM .nx)) (retM .nx)) (sSeq (sRet (eBin (cmpD .Eq) (eComp [2] (eIter (eBin ixM (eBor 1) (eLit (.int 0)))) (asgM 2) (tVal (eBin (cmpD .NotIn) (eBor 2) (eLit (.str ".cd")))) (eLoc 2)) (eLstM (retM [])))) (retM .nx))))
def n__law_somebody (F__law_table F__law_chosen F__law_pick : FT) : M Fl := (sSeq (sAsg (eComp [2] (eIter (eSlc (eFn F__law_table (retM [])) (retM none) (partF (eLit (.int 5))))) (asgM 2) (retM true) (eFn F__law_chosen (argD (eLoc 0) (argD (eLoc 2) (retM []))))) (asgM 1)) (sSeq (sIf (tVal (eBin (cmpD .Eq) (eFn F__law_pick (argD (eLoc 0) (argD (eLit (.int 2)) (retM [])))) (eLit (.int 0)))) (sSeq (sPut 1 (eLit (.str "sign")) (eLit (.int 0))) (retM .nx)) (retM .nx)) (sSeq (sRet (eBin (opD .Add) (eCall (argR (eBor 1) (retM [])) (pureF Bk.tuple.h)) (eTupM (argD (eBin (cmpD .Eq) (eFn F__law_pick (argD (eLoc 0) (argD (eLit (.int 3)) (retM [])))) (eLit (.int 0))) (retM []))))) (retM .nx))))
def n__law_house (F__law_pick F__law_somebody F__law_chosen : FT) : M Fl := (sSeq (sAsg (eCall (argR (eComp [3] (eRange (argR (eBin (opD .Add) (eLit (.int 1)) (eFn F__law_pick (argD (eLoc 0) (argD (eLoc 1) (retM []))))) (retM []))) (asgM 3) (retM true) (eFn F__law_somebody (argD (eLoc 0) (retM [])))) (retM [])) (pureF Bk.tuple.h)) (asgM 2)) (sSeq (sRet (eTupM (argD (eBin (opD .Add) (eLit (.int 1)) (eFn F__law_pick (argD (eLoc 0) (argD (eLit (.int 3)) (retM []))))) (argD (eFn F__law_chosen (argD (eLoc 0) (argD (eLstM (argD (eLit (.str "hand")) (argD (eLit (.str "hand")) (argD (eLit (.str "none")) (argD (eLit (.str "own")) (retM [])))))) (retM [])))) (argD (eLoc 2) (retM [])))))) (retM .nx)))
def n__law_spots : M Fl := (sSeq (sAsg (eLstM (argD (eLit (.str "")) (retM []))) (asgM 1)) (sSeq (sFor (eRange (argR (eBin ixM (eBor 0) (eLit (.int 0))) (retM []))) (asgM 2) (sSeq (sAsg (eLstM (retM [])) (asgM 4)) (sSeq (sFor (eIter (eLoc 1)) (asgM 5) (sSeq (sAsg (eBin (opD .Add) (eBor 4) (eLstM (argD (eBin (opD .Add) (eBor 5) (eLit (.str "."))) (argD (eBin (opD .Add) (eBor 5) (eLit (.str "c"))) (argD (eBin (opD .Add) (eBor 5) (eLit (.str "d"))) (retM [])))))) (asgM 4)) (retM .nx))) (sSeq (sAsg (eMov 4) (asgM 1)) (retM .nx))))) (sSeq (sAsg (eComp [5] (eIter (eLoc 1)) (asgM 5) (retM true) (eTupM (argD (eLoc 5) (argD (eLit (.bl false)) (retM []))))) (asgM 3)) (sSeq (sRet (eIfM (tVal (eBin (cmpD .Eq) (eBin ixM (eBor 0) (eLit (.int 1))) (eLit (.str "none")))) (eMov 3) (eBin (opD .Add) (eBor 3) (eComp [5] (eIter (eLoc 1)) (asgM 5) (retM true) (eTupM (argD (eLoc 5) (argD (eLit (.bl true)) (retM [])))))))) (retM .nx)))))
def n__law_sure : M Fl := (sSeq (sAsg (eComp [3] (eIter (eBin ixM (eBor 1) (eLit (.int 0)))) (asgM 3) (tVal (eBin (cmpD .NotEq) (eBor 3) (eLit (.str ".")))) (eLoc 3)) (asgM 2)) (sSeq (sIf (tVal (eBin (cmpD .Eq) (eBor 2) (eLstM (retM [])))) (sSeq (sRet (eLit (.bl false))) (retM .nx)) (retM .nx)) (sSeq (sRet (eBin ixM (eDisp ["sign", "dish", "full"] (argD (eBin ixM (eBor 1) (eLit (.int 1))) (argD (eBin (cmpD .Eq) (eBin ixM (eBor 2) (eLit (.int 0))) (eLit (.str "c"))) (argD (eBin (cmpD .Eq) (eCall (argR (eBor 2) (retM [])) (pureF Bk.len.h)) (eCall (argR (eBin ixM (eBor 1) (eLit (.int 0))) (retM [])) (pureF Bk.len.h))) (retM []))))) (eBor 0))) (retM .nx))))
def n__law_outcome (sb : Str → Str → Option Bool) (F_believes : FT) : M Fl := (sSeq (sTry sb (sSeq (sRet (eFn F_believes (argD (eLoc 0) (argD (eLoc 1) (argD (eLoc 2) (retM [])))))) (retM .nx)) [("InvalidKitchen", sRet (eLit (.str "kitchen!"))), ("InvalidStand", sRet (eLit (.str "stand!"))), ("InvalidNumber", sRet (eLit (.str "number!")))]) (retM .nx))
def n__law_refused (sb : Str → Str → Option Bool) (F_is_stand : FT) : M Fl := (sSeq (sTry sb (sSeq (sDrop (eFn F_is_stand (argD (eLoc 0) (argD (eLit (.non)) (retM []))))) (retM .nx)) [("InvalidKitchen", sRet (eLit (.bl true)))]) (sSeq (sRet (eLit (.bl false))) (retM .nx)))
def n__law_values (F__law_variant F__law_pick F__law_any_value : FT) : M Fl := (sSeq (sAsg (eLstM (argD (eLoc 1) (argD (eCall (argR (eBor 1) (retM [])) (pureF Bk.list.h)) (argD (eBin ixM (eBor 1) (eLit (.int 2))) (argD (eBin ixM (eBin ixM (eBor 1) (eLit (.int 2))) (eLit (.int 0))) (argD (eCall (argR (eBin ixM (eBin ixM (eBor 1) (eLit (.int 2))) (eLit (.int 0))) (retM [])) (pureF Bk.list.h)) (argD (eLit (.non)) (argD (eTupM (retM [])) (argD (eLit (.str "..")) (argD (eTupM (argD (eLit (.str "..")) (argD (eLit (.bl true)) (retM [])))) (retM []))))))))))) (asgM 2)) (sSeq (sAsg (eBin (opD .Add) (eBor 2) (eLstM (argD (eBin (opD .Add) (eSlc (eBor 1) (retM none) (partF (eLit (.int 2)))) (eTupM (argD (eBin (opD .Mult) (eBin ixM (eBor 1) (eLit (.int 2))) (eLit (.int 2))) (retM [])))) (argD (eTupM (argD (eLit (.str "cd")) (argD (eLit (.bl false)) (retM [])))) (argD (eLstM (argD (eLit (.str "..")) (argD (eLit (.bl false)) (retM [])))) (argD (eTupM (argD (eLit (.str "...")) (argD (eLit (.bl false)) (retM [])))) (argD (eTupM (argD (eLit (.str ".")) (argD (eLit (.bl true)) (retM [])))) (retM [])))))))) (asgM 2)) (sSeq (sFor (eRange (argR (eLit (.int 20)) (retM []))) (asgM 3) (sSeq (sAsg (eFn F__law_variant (argD (eLoc 0) (argD (eIfM (tVal (eBin (cmpD .Lt) (eBor 3) (eLit (.int 12)))) (eLoc 1) (eTupM (argD (eSlc (eLit (.str "cd.")) (retM none) (partF (eBin ixM (eBor 1) (eLit (.int 0))))) (argD (eBin (cmpD .Eq) (eBin (opD .Mod) (eBor 3) (eLit (.int 2))) (eLit (.int 0))) (retM []))))) (argD (eLit (.int 3)) (retM []))))) (asgM 4)) (sSeq (sApp 2 (eLoc 4)) (sSeq (sIf (tAndM (tVal (eIsi Tk.tuple.ty (eBor 4))) (tVal (eBin (cmpD .Eq) (eFn F__law_pick (argD (eLoc 0) (argD (eLit (.int 3)) (retM [])))) (eLit (.int 0))))) (sSeq (sApp 2 (eFn F__law_variant (argD (eLoc 0) (argD (eLoc 4) (argD (eLit (.int 3)) (retM [])))))) (retM .nx)) (retM .nx)) (retM .nx))))) (sSeq (sRet (eBin (opD .Add) (eBor 2) (eLstM (argD (eFn F__law_any_value (argD (eLoc 0) (argD (eLit (.int 3)) (retM [])))) (argD (eTupM (argD (eLit (.str "c.d")) (argD (eLit (.int 1)) (retM [])))) (retM [])))))) (retM .nx)))))
def n_law (F__law_source F__law_house F__law_spots F__law_is_bool F_is_stand F__law_outcome F__law_sure F__law_values F_is_habit F__law_good_habit F__law_good_house F_is_kitchen F__law_refused F__law_good_spot : FT) : M Fl := (sSeq (sFor (eRange (argR (eCall (argR (eLit (.int 5)) (argR (eCall (argR (eLit (.int 16)) (argR (eCall (argR (eBor 0) (retM [])) (pureF Bk.len.h)) (retM []))) (pureF Bk.min.h)) (retM []))) (pureF Bk.max.h)) (retM []))) (asgM 1) (sSeq (sAsg (eFn F__law_source (argD (eLoc 0) (argD (eLoc 1) (retM [])))) (asgRef 4)) (sSeq (sAsg (eFn F__law_house (argD (eLoc 4) (argD (eLit (.int 3)) (retM [])))) (asgM 5)) (sSeq (sFor (eIter (eFn F__law_spots (argD (eLoc 5) (retM [])))) (asgM 6) (sSeq (sIf (tNotM (tVal (eFn F__law_is_bool (argD (eFn F_is_stand (argD (eLoc 5) (argD (eLoc 6) (retM [])))) (argD (eLit (.bl true)) (retM [])))))) (sSeq (sRet (eLit (.bl false))) (retM .nx)) (retM .nx)) (sSeq (sFor (eWalk fEnum (argD (eBin ixM (eBor 5) (eLit (.int 2))) (retM []))) (gTupM 2 (gsCons (asgM 10) (gsCons (asgM 2) gsNil))) (sSeq (sIf (tNotM (tVal (eFn F__law_is_bool (argD (eFn F__law_outcome (argD (eLoc 5) (argD (eLoc 6) (argD (eLoc 10) (retM []))))) (argD (eFn F__law_sure (argD (eBin ixM (eBor 2) (eLit (.int 0))) (argD (eLoc 6) (retM [])))) (retM [])))))) (sSeq (sRet (eLit (.bl false))) (retM .nx)) (retM .nx)) (retM .nx))) (retM .nx)))) (sSeq (sFor (eIter (eFn F__law_values (argD (eLoc 4) (argD (eLoc 5) (retM []))))) (asgM 7) (sSeq (sIf (tNotM (tVal (eFn F__law_is_bool (argD (eFn F_is_habit (argD (eLoc 7) (retM []))) (argD (eFn F__law_good_habit (argD (eLoc 7) (retM []))) (retM [])))))) (sSeq (sRet (eLit (.bl false))) (retM .nx)) (retM .nx)) (sSeq (sAsg (eFn F__law_good_house (argD (eLoc 7) (retM []))) (asgM 9)) (sSeq (sIf (tOrM (tNotM (tVal (eFn F__law_is_bool (argD (eFn F_is_kitchen (argD (eLoc 7) (retM []))) (argD (eLoc 9) (retM [])))))) (tAndM (tNotM (tVal (eBor 9))) (tNotM (tVal (eFn F__law_refused (argD (eLoc 7) (retM []))))))) (sSeq (sRet (eLit (.bl false))) (retM .nx)) (retM .nx)) (sSeq (sIf (tNotM (tVal (eFn F__law_is_bool (argD (eFn F_is_stand (argD (eLoc 5) (argD (eLoc 7) (retM [])))) (argD (eFn F__law_good_spot (argD (eLoc 5) (argD (eLoc 7) (retM [])))) (retM [])))))) (sSeq (sRet (eLit (.bl false))) (retM .nx)) (retM .nx)) (sSeq (sIf (tAndM (tNotM (tVal (eFn F__law_good_spot (argD (eLoc 5) (argD (eLoc 7) (retM [])))))) (tVal (eBin (cmpD .NotEq) (eFn F__law_outcome (argD (eLoc 5) (argD (eLoc 7) (argD (eLit (.non)) (retM []))))) (eLit (.str "stand!"))))) (sSeq (sRet (eLit (.bl false))) (retM .nx)) (retM .nx)) (retM .nx))))))) (sSeq (sFor (eIter (eLstM (argD (eLit (.non)) (argD (eNeg (eLit (.int 1))) (argD (eCall (argR (eBin ixM (eBor 5) (eLit (.int 2))) (retM [])) (pureF Bk.len.h)) (argD (eLit (.bl true)) (argD (eLit (.str "0")) (retM [])))))))) (asgM 8) (sSeq (sIf (tVal (eBin (cmpD .NotEq) (eFn F__law_outcome (argD (eLoc 5) (argD (eTupM (argD (eBin (opD .Mult) (eLit (.str ".")) (eBin ixM (eBor 5) (eLit (.int 0)))) (argD (eLit (.bl false)) (retM [])))) (argD (eLoc 8) (retM []))))) (eLit (.str "number!")))) (sSeq (sRet (eLit (.bl false))) (retM .nx)) (retM .nx)) (retM .nx))) (sSeq (sIf (tVal (eBin (cmpD .NotEq) (eFn F__law_outcome (argD (eSlc (eBor 5) (retM none) (partF (eLit (.int 2)))) (argD (eLit (.int 0)) (argD (eLit (.int 0)) (retM []))))) (eLit (.str "kitchen!")))) (sSeq (sRet (eLit (.bl false))) (retM .nx)) (retM .nx)) (retM .nx)))))))) (sSeq (sAsg (eTupM (argD (eLit (.str "sign")) (argD (eLit (.str "adds")) (argD (eLit (.str "one")) (argD (eLit (.str "each")) (argD (eLit (.str "both")) (argD (eLit (.bl false)) (retM [])))))))) (asgM 2)) (sSeq (sAsg (eLstM (argD (eTupM (argD (eLit (.int 0)) (argD (eLit (.str "own")) (argD (eTupM (argD (eLoc 2) (retM []))) (retM []))))) (argD (eTupM (argD (eLit (.int 4)) (argD (eLit (.str "own")) (argD (eTupM (argD (eLoc 2) (retM []))) (retM []))))) (argD (eTupM (argD (eLit (.int 3)) (argD (eLit (.str "own")) (argD (eBin (opD .Mult) (eTupM (argD (eLoc 2) (retM []))) (eLit (.int 3))) (retM []))))) (argD (eTupM (argD (eLit (.int 3)) (argD (eLit (.str "own")) (argD (eBin (opD .Mult) (eTupM (argD (eLoc 2) (retM []))) (eLit (.int 4))) (retM []))))) (retM [])))))) (asgM 3)) (sSeq (sAsg (eBin (opD .Add) (eBor 3) (eLstM (argD (eTupM (argD (eLit (.int 1)) (argD (eLit (.str "hands")) (argD (eTupM (argD (eLoc 2) (retM []))) (retM []))))) (argD (eTupM (argD (eLit (.int 1)) (argD (eLit (.str "own")) (argD (eTupM (retM [])) (retM []))))) (retM []))))) (asgM 3)) (sSeq (sRet (eBin (cmpD .Eq) (eComp [11] (eIter (eLoc 3)) (asgM 11) (retM true) (eFn F_is_kitchen (argD (eLoc 11) (retM [])))) (eBin (opD .Add) (eBin (opD .Add) (eBin (opD .Mult) (eLstM (argD (eLit (.bl false)) (retM []))) (eLit (.int 2))) (eLstM (argD (eLit (.bl true)) (retM [])))) (eBin (opD .Mult) (eLstM (argD (eLit (.bl false)) (retM []))) (eLit (.int 3)))))) (retM .nx))))))
def n_begun : M Fl := (sSeq (sRet (eTupM (argD (eBin (opD .Mult) (eLit (.str ".")) (eBin ixM (eBor 0) (eLit (.int 0)))) (argD (eLit (.bl false)) (retM []))))) (retM .nx))
def n_started : M Fl := (sSeq (sAsg (eLoc 3) (gTupM 2 (gsCons (asgM 5) (gsCons (asgM 6) gsNil)))) (sSeq (sAsg (eAndM (eBin (cmpD .Eq) (eBin ixM (eBor 0) (eLit (.int 1))) (eLit (.str "hand"))) (eAndM (eBin (cmpD .NotEq) (eBin ixM (eBor 1) (eLit (.int 4))) (eLit (.str "never"))) (eNotM (eBor 2)))) (asgM 4)) (sSeq (sRet (eTupM (argD (eRepl "d" "c" none (eBor 5)) (argD (eOrM (eLoc 6) (eOrM (eLoc 4) (eBin (cmpD .Eq) (eBin ixM (eBor 0) (eLit (.int 1))) (eLit (.str "own"))))) (retM []))))) (retM .nx))))
def n_emptied : M Fl := (sSeq (sAsg (eAndM (eBin (cmpD .Eq) (eBin ixM (eBor 0) (eLit (.int 1))) (eLit (.str "hand"))) (eAndM (eBin (cmpD .Eq) (eBin ixM (eBor 1) (eLit (.int 4))) (eLit (.str "both"))) (eAndM (eNotM (eBor 2)) (eBin (cmpD .Eq) (eBor 4) (eBin (opD .Mult) (eLit (.str ".")) (eBin ixM (eBor 0) (eLit (.int 0)))))))) (asgM 5)) (sSeq (sRet (eTupM (argD (eLoc 4) (argD (eAndM (eBin ixM (eBor 3) (eLit (.int 1))) (eNotM (eBor 5))) (retM []))))) (retM .nx)))
def n_brought (F_trusts F_emptied F_started : FT) : M Fl := (sSeq (sPar [4, 5] (argR (eFn F_trusts (argD (eLoc 1) (argD (eLoc 3) (retM [])))) (argR (eTupM (retM [])) (retM [])))) (sSeq (sIf (tAndM (tVal (eBor 4)) (tVal (eBin (cmpD .Eq) (eBin ixM (eBor 1) (eLit (.int 1))) (eLit (.str "waits"))))) (sSeq (sRet (eTupM (argD (eLoc 3) (argD (eTupM (argD (eLit (.str "leaves")) (retM []))) (retM []))))) (retM .nx)) (retM .nx)) (sSeq (sIf (tAndM (tVal (eBor 4)) (tVal (eBin (cmpD .Eq) (eBin ixM (eBor 1) (eLit (.int 1))) (eLit (.str "empties"))))) (sSeq (sPar [3, 5] (argR (eFn F_emptied (argD (eLoc 0) (argD (eLoc 1) (argD (eLoc 2) (argD (eLoc 3) (argD (eBin (opD .Mult) (eLit (.str ".")) (eBin ixM (eBor 0) (eLit (.int 0)))) (retM []))))))) (argR (eTupM (argD (eLit (.str "empties")) (retM []))) (retM [])))) (retM .nx)) (retM .nx)) (sSeq (sIf (tVal (eBin (cmpD .NotIn) (eLit (.str ".")) (eBin ixM (eBor 3) (eLit (.int 0))))) (sSeq (sIf (tAndM (tNotM (tVal (eBor 4))) (tVal (eBin (cmpD .NotEq) (eBin ixM (eBor 1) (eLit (.int 3))) (eLit (.str "never"))))) (sSeq (sRet (eTupM (argD (eFn F_started (argD (eLoc 0) (argD (eLoc 1) (argD (eLoc 2) (argD (eLoc 3) (retM [])))))) (argD (eBin (opD .Add) (eBor 5) (eTupM (argD (eLit (.str "starts")) (argD (eLit (.str "leaves")) (retM []))))) (retM []))))) (retM .nx)) (retM .nx)) (sSeq (sRet (eTupM (argD (eLoc 3) (argD (eBin (opD .Add) (eBor 5) (eTupM (argD (eLit (.str "leaves")) (retM [])))) (retM []))))) (retM .nx))) (retM .nx)) (sSeq (sAsg (eTupM (argD (eRepl "." "d" (some 1) (eBin ixM (eBor 3) (eLit (.int 0)))) (argD (eAndM (eBin ixM (eBor 3) (eLit (.int 1))) (eBin (cmpD .NotEq) (eBin ixM (eBor 0) (eLit (.int 1))) (eLit (.str "own")))) (retM [])))) (asgM 3)) (sSeq (sIf (tOrM (tVal (eBin (cmpD .Eq) (eBin ixM (eBor 1) (eLit (.int 3))) (eLit (.str "each")))) (tAndM (tVal (eBin (cmpD .Eq) (eBin ixM (eBor 1) (eLit (.int 3))) (eLit (.str "full")))) (tVal (eBin (cmpD .NotIn) (eLit (.str ".")) (eBin ixM (eBor 3) (eLit (.int 0))))))) (sSeq (sRet (eTupM (argD (eFn F_started (argD (eLoc 0) (argD (eLoc 1) (argD (eLoc 2) (argD (eLoc 3) (retM [])))))) (argD (eBin (opD .Add) (eBor 5) (eTupM (argD (eLit (.str "puts")) (argD (eLit (.str "starts")) (retM []))))) (retM []))))) (retM .nx)) (retM .nx)) (sSeq (sRet (eTupM (argD (eLoc 3) (argD (eBin (opD .Add) (eBor 5) (eTupM (argD (eLit (.str "puts")) (retM [])))) (retM []))))) (retM .nx))))))))
def n_wanted (F_trusts F_emptied : FT) : M Fl := (sSeq (sIf (tNotM (tVal (eFn F_trusts (argD (eLoc 1) (argD (eLoc 3) (retM [])))))) (sSeq (sRet (eTupM (argD (eLoc 3) (argD (eTupM (argD (eLit (.str "leaves")) (retM []))) (retM []))))) (retM .nx)) (retM .nx)) (sSeq (sAsg (eBin (opD .Mult) (eLit (.str ".")) (eBin ixM (eBor 0) (eLit (.int 0)))) (asgM 4)) (sSeq (sIf (tVal (eBin (cmpD .Eq) (eBin ixM (eBor 1) (eLit (.int 2))) (eLit (.str "one")))) (sSeq (sAsg (eComp [6, 7] (eWalk fEnum (argD (eBin ixM (eBor 3) (eLit (.int 0))) (retM []))) (gTupM 2 (gsCons (asgM 6) (gsCons (asgM 7) gsNil))) (tVal (eBin (cmpD .NotEq) (eBor 7) (eLit (.str ".")))) (eLoc 6)) (asgM 5)) (sSeq (sAsg (eBin (opD .Add) (eBin (opD .Add) (eSlc (eBin ixM (eBor 3) (eLit (.int 0))) (retM none) (partF (eBin ixM (eBor 5) (eLit (.int 0))))) (eLit (.str "."))) (eSlc (eBin ixM (eBor 3) (eLit (.int 0))) (partF (eBin (opD .Add) (eBin ixM (eBor 5) (eLit (.int 0))) (eLit (.int 1)))) (retM none))) (asgM 4)) (retM .nx))) (retM .nx)) (sSeq (sRet (eTupM (argD (eFn F_emptied (argD (eLoc 0) (argD (eLoc 1) (argD (eLoc 2) (argD (eLoc 3) (argD (eLoc 4) (retM []))))))) (argD (eTupM (argD (eLit (.str "takes")) (retM []))) (retM []))))) (retM .nx)))))
def n_step (F_brought F_wanted : FT) : M Fl := (sSeq (sAsg (eLoc 2) (gTupM 3 (gsCons (asgM 3) (gsCons (asgM 4) (gsCons (asgM 5) gsNil))))) (sSeq (sIf (tVal (eBin (cmpD .Eq) (eBor 3) (eLit (.str "bring")))) (sSeq (sRet (eFn F_brought (argD (eLoc 0) (argD (eBin ixM (eBin ixM (eBor 0) (eLit (.int 2))) (eBor 4)) (argD (eLoc 5) (argD (eLoc 1) (retM []))))))) (retM .nx)) (retM .nx)) (sSeq (sRet (eFn F_wanted (argD (eLoc 0) (argD (eBin ixM (eBin ixM (eBor 0) (eLit (.int 2))) (eBor 4)) (argD (eLoc 5) (argD (eLoc 1) (retM []))))))) (retM .nx))))
def n_deeds_of (F_step : FT) : M Fl := (sSeq (sAsg (eLstM (retM [])) (asgM 2)) (sSeq (sFor (eIter (eTupM (argD (eLit (.str "bring")) (argD (eLit (.str "want")) (retM []))))) (asgM 3) (sSeq (sFor (eWalk fEnum (argD (eBin ixM (eBor 0) (eLit (.int 2))) (retM []))) (gTupM 2 (gsCons (asgM 4) (gsCons (asgM 5) gsNil))) (sSeq (sApp 2 (eTupM (argD (eLoc 3) (argD (eLoc 4) (argD (eLit (.bl false)) (retM [])))))) (sSeq (sIf (tVal (eBin ixM (eBor 5) (eLit (.int 5)))) (sSeq (sIf (tVal (eBin (cmpD .NotEq) (eBin ixM (eFn F_step (argD (eLoc 0) (argD (eLoc 1) (argD (eTupM (argD (eLoc 3) (argD (eLoc 4) (argD (eLit (.bl false)) (retM []))))) (retM []))))) (eLit (.int 0))) (eBin ixM (eFn F_step (argD (eLoc 0) (argD (eLoc 1) (argD (eTupM (argD (eLoc 3) (argD (eLoc 4) (argD (eLit (.bl true)) (retM []))))) (retM []))))) (eLit (.int 0))))) (sSeq (sApp 2 (eTupM (argD (eLoc 3) (argD (eLoc 4) (argD (eLit (.bl true)) (retM [])))))) (retM .nx)) (retM .nx)) (retM .nx)) (retM .nx)) (retM .nx)))) (retM .nx))) (sSeq (sRet (eMov 2)) (retM .nx))))
def n_is_possible (F_deeds_of : FT) : M Fl := (sSeq (sIf (tOrM (tNotM (tVal (eIsi Tk.tuple.ty (eBor 2)))) (tOrM (tVal (eBin (cmpD .NotEq) (eCall (argR (eBor 2) (retM [])) (pureF Bk.len.h)) (eLit (.int 3)))) (tNotM (tVal (eIsi Tk.bool.ty (eBin ixM (eBor 2) (eLit (.int 2)))))))) (sSeq (sRet (eLit (.bl false))) (retM .nx)) (retM .nx)) (sSeq (sRet (eAndM (eNotM (eIsi Tk.bool.ty (eBin ixM (eBor 2) (eLit (.int 1))))) (eBin (cmpD .In) (eBor 2) (eFn F_deeds_of (argD (eLoc 0) (argD (eLoc 1) (retM []))))))) (retM .nx)))
def n_first_stand (F_need_kitchen F_begun : FT) : M Fl := (sSeq (sDrop (eFn F_need_kitchen (argD (eLoc 0) (retM [])))) (sSeq (sRet (eFn F_begun (argD (eLoc 0) (retM [])))) (retM .nx)))
def n_deeds_at (F_need_kitchen F_need_stand F_deeds_of : FT) : M Fl := (sSeq (sDrop (eFn F_need_kitchen (argD (eLoc 0) (retM [])))) (sSeq (sDrop (eFn F_need_stand (argD (eLoc 0) (argD (eLoc 1) (retM []))))) (sSeq (sRet (eFn F_deeds_of (argD (eLoc 0) (argD (eLoc 1) (retM []))))) (retM .nx))))
def n_after (F_need_kitchen F_need_stand F_is_possible F_step : FT) : M Fl := (sSeq (sDrop (eFn F_need_kitchen (argD (eLoc 0) (retM [])))) (sSeq (sDrop (eFn F_need_stand (argD (eLoc 0) (argD (eLoc 1) (retM []))))) (sSeq (sIf (tNotM (tVal (eFn F_is_possible (argD (eLoc 0) (argD (eLoc 1) (argD (eLoc 2) (retM []))))))) (sSeq (sRaise "InvalidDeed") (retM .nx)) (retM .nx)) (sSeq (sRet (eFn F_step (argD (eLoc 0) (argD (eLoc 1) (argD (eLoc 2) (retM [])))))) (retM .nx)))))
def n__law_run : M Fl := (sSeq (sAsg (eStrM (fun z => pureF (Sm.join.h z)) (eLit (.str "")) (argR (eComp [6] (eIter (eLoc 3)) (asgM 6) (retM true) (eIfM (tVal (eBin (cmpD .Eq) (eBor 6) (eLit (.str "d")))) (eLit (.str "c")) (eLoc 6))) (retM []))) (asgM 3)) (sSeq (sAsg (eAndM (eBin (cmpD .Eq) (eBin ixM (eBor 0) (eLit (.int 1))) (eLit (.str "hand"))) (eAndM (eBin (cmpD .NotEq) (eBin ixM (eBor 1) (eLit (.int 4))) (eLit (.str "never"))) (eNotM (eBor 2)))) (asgM 5)) (sSeq (sRet (eTupM (argD (eLoc 3) (argD (eOrM (eLoc 4) (eOrM (eLoc 5) (eBin (cmpD .Eq) (eBin ixM (eBor 0) (eLit (.int 1))) (eLit (.str "own"))))) (retM []))))) (retM .nx))))
def n__law_cleared : M Fl := (sSeq (sAsg (eAndM (eBin (cmpD .Eq) (eBin ixM (eBor 0) (eLit (.int 1))) (eLit (.str "hand"))) (eAndM (eBin (cmpD .Eq) (eBin ixM (eBor 1) (eLit (.int 4))) (eLit (.str "both"))) (eNotM (eBor 2)))) (asgM 5)) (sSeq (sRet (eTupM (argD (eLoc 3) (argD (eAndM (eLoc 4) (eNotM (eAndM (eLoc 5) (eSetEq (argR (eBor 3) (retM [])) (argR (eLit (.str ".")) (retM [])))))) (retM []))))) (retM .nx)))
def n__law_bring (F__law_sure F__law_cleared F__law_run : FT) : M Fl := (sSeq (sPar [6, 5] (argR (eFn F__law_sure (argD (eBin ixM (eBor 1) (eLit (.int 0))) (argD (eLoc 3) (retM [])))) (argR (eLstM (retM [])) (retM [])))) (sSeq (sAsg (eLoc 3) (gTupM 2 (gsCons (asgM 7) (gsCons (asgM 8) gsNil)))) (sSeq (sIf (tAndM (tVal (eBor 6)) (tVal (eBin (cmpD .Eq) (eBin ixM (eBor 1) (eLit (.int 1))) (eLit (.str "waits"))))) (sSeq (sRet (eTupM (argD (eLoc 3) (argD (eTupM (argD (eLit (.str "leaves")) (retM []))) (retM []))))) (retM .nx)) (retM .nx)) (sSeq (sIf (tAndM (tVal (eBor 6)) (tVal (eBin (cmpD .Eq) (eBin ixM (eBor 1) (eLit (.int 1))) (eLit (.str "empties"))))) (sSeq (sAsg (eLstM (argD (eLit (.str "empties")) (retM []))) (asgM 5)) (sSeq (sAsg (eFn F__law_cleared (argD (eLoc 0) (argD (eLoc 1) (argD (eLoc 2) (argD (eBin (opD .Mult) (eLit (.str ".")) (eCall (argR (eBor 7) (retM [])) (pureF Bk.len.h))) (argD (eLoc 8) (retM []))))))) (gTupM 2 (gsCons (asgM 7) (gsCons (asgM 8) gsNil)))) (retM .nx))) (retM .nx)) (sSeq (sAsg (eComp [10, 11] (eWalk fEnum (argD (eLoc 7) (retM []))) (gTupM 2 (gsCons (asgM 10) (gsCons (asgM 11) gsNil))) (tVal (eBin (cmpD .Eq) (eBor 11) (eLit (.str ".")))) (eLoc 10)) (asgM 4)) (sSeq (sIf (tVal (eBin (cmpD .NotEq) (eBor 4) (eLstM (retM [])))) (sSeq (sPar [7, 5] (argR (eBin (opD .Add) (eBin (opD .Add) (eSlc (eBor 7) (retM none) (partF (eBin ixM (eBor 4) (eLit (.int 0))))) (eLit (.str "d"))) (eSlc (eBor 7) (partF (eBin (opD .Add) (eBin ixM (eBor 4) (eLit (.int 0))) (eLit (.int 1)))) (retM none))) (argR (eBin (opD .Add) (eBor 5) (eLstM (argD (eLit (.str "puts")) (retM [])))) (retM [])))) (sSeq (sAsg (eAndM (eLoc 8) (eBin (cmpD .NotEq) (eBin ixM (eBor 0) (eLit (.int 1))) (eLit (.str "own")))) (asgM 8)) (sSeq (sAsg (eOrM (eBin (cmpD .Eq) (eBin ixM (eBor 1) (eLit (.int 3))) (eLit (.str "each"))) (eAndM (eBin (cmpD .Eq) (eBin ixM (eBor 1) (eLit (.int 3))) (eLit (.str "full"))) (eBin (cmpD .Eq) (eCall (argR (eBor 4) (retM [])) (pureF Bk.len.h)) (eLit (.int 1))))) (asgM 9)) (retM .nx)))) (sSeq (sAsg (eAndM (eNotM (eBor 6)) (eBin (cmpD .NotEq) (eBin ixM (eBor 1) (eLit (.int 3))) (eLit (.str "never")))) (asgM 9)) (retM .nx))) (sSeq (sIf (tVal (eBor 9)) (sSeq (sAsg (eFn F__law_run (argD (eLoc 0) (argD (eLoc 1) (argD (eLoc 2) (argD (eLoc 7) (argD (eLoc 8) (retM []))))))) (gTupM 2 (gsCons (asgM 7) (gsCons (asgM 8) gsNil)))) (retM .nx)) (retM .nx)) (sSeq (sAsg (eBin (opD .Add) (eBin (opD .Add) (eBor 5) (eBin (opD .Mult) (eLstM (argD (eLit (.str "starts")) (retM []))) (eCall (argR (eBor 9) (retM [])) (pureF Bk.int.h)))) (eBin (opD .Mult) (eLstM (argD (eLit (.str "leaves")) (retM []))) (eCall (argR (eBin (cmpD .Eq) (eBor 4) (eLstM (retM []))) (retM [])) (pureF Bk.int.h)))) (asgM 5)) (sSeq (sRet (eTupM (argD (eTupM (argD (eLoc 7) (argD (eLoc 8) (retM [])))) (argD (eCall (argR (eBor 5) (retM [])) (pureF Bk.tuple.h)) (retM []))))) (retM .nx))))))))))
def n__law_want (F__law_sure F__law_cleared : FT) : M Fl := (sSeq (sIf (tNotM (tVal (eFn F__law_sure (argD (eBin ixM (eBor 1) (eLit (.int 0))) (argD (eLoc 3) (retM [])))))) (sSeq (sRet (eTupM (argD (eLoc 3) (argD (eTupM (argD (eLit (.str "leaves")) (retM []))) (retM []))))) (retM .nx)) (retM .nx)) (sSeq (sAsg (eIfM (tVal (eBin (cmpD .Eq) (eBin ixM (eBor 1) (eLit (.int 2))) (eLit (.str "all")))) (eBin ixM (eBor 3) (eLit (.int 0))) (eBin ixM (eRepl "." "" none (eBin ixM (eBor 3) (eLit (.int 0)))) (eLit (.int 0)))) (asgM 4)) (sSeq (sAsg (eStrM (fun z => pureF (Sm.index.h z)) (eBin ixM (eBor 3) (eLit (.int 0))) (argR (eBor 4) (retM []))) (asgM 5)) (sSeq (sAsg (eBin (opD .Add) (eBin (opD .Add) (eSlc (eBin ixM (eBor 3) (eLit (.int 0))) (retM none) (partF (eBor 5))) (eBin (opD .Mult) (eLit (.str ".")) (eCall (argR (eBor 4) (retM [])) (pureF Bk.len.h)))) (eSlc (eBin ixM (eBor 3) (eLit (.int 0))) (partF (eBin (opD .Add) (eBor 5) (eCall (argR (eBor 4) (retM [])) (pureF Bk.len.h)))) (retM none))) (asgM 6)) (sSeq (sRet (eTupM (argD (eFn F__law_cleared (argD (eLoc 0) (argD (eLoc 1) (argD (eLoc 2) (argD (eLoc 6) (argD (eBin ixM (eBor 3) (eLit (.int 1))) (retM []))))))) (argD (eTupM (argD (eLit (.str "takes")) (retM []))) (retM []))))) (retM .nx))))))
def n__law_next (F__law_bring F__law_want : FT) : M Fl := (sSeq (sAsg (eBin ixM (eBin ixM (eBor 0) (eLit (.int 2))) (eBin ixM (eBor 2) (eLit (.int 1)))) (asgM 3)) (sSeq (sIf (tVal (eBin (cmpD .Eq) (eBin ixM (eBor 2) (eLit (.int 0))) (eLit (.str "bring")))) (sSeq (sRet (eFn F__law_bring (argD (eLoc 0) (argD (eLoc 3) (argD (eBin ixM (eBor 2) (eLit (.int 2))) (argD (eLoc 1) (retM []))))))) (retM .nx)) (retM .nx)) (sSeq (sRet (eFn F__law_want (argD (eLoc 0) (argD (eLoc 3) (argD (eBin ixM (eBor 2) (eLit (.int 2))) (argD (eLoc 1) (retM []))))))) (retM .nx))))
def n__law_all_deeds (F__law_next : FT) : M Fl := (sSeq (sAsg (eLstM (retM [])) (asgM 2)) (sSeq (sFor (eIter (eLstM (argD (eLit (.str "bring")) (argD (eLit (.str "want")) (retM []))))) (asgM 3) (sSeq (sFor (eRange (argR (eCall (argR (eBin ixM (eBor 0) (eLit (.int 2))) (retM [])) (pureF Bk.len.h)) (retM []))) (asgM 4) (sSeq (sPar [5, 6] (argR (eTupM (argD (eLoc 3) (argD (eLoc 4) (argD (eLit (.bl false)) (retM []))))) (argR (eTupM (argD (eLoc 3) (argD (eLoc 4) (argD (eLit (.bl true)) (retM []))))) (retM [])))) (sSeq (sApp 2 (eLoc 5)) (sSeq (sPar [7, 8] (argR (eFn F__law_next (argD (eLoc 0) (argD (eLoc 1) (argD (eLoc 5) (retM []))))) (argR (eFn F__law_next (argD (eLoc 0) (argD (eLoc 1) (argD (eLoc 6) (retM []))))) (retM [])))) (sSeq (sIf (tAndM (tVal (eBin ixM (eBin ixM (eBin ixM (eBor 0) (eLit (.int 2))) (eBor 4)) (eLit (.int 5)))) (tVal (eBin (cmpD .NotEq) (eBin ixM (eBor 7) (eLit (.int 0))) (eBin ixM (eBor 8) (eLit (.int 0)))))) (sSeq (sApp 2 (eLoc 6)) (retM .nx)) (retM .nx)) (retM .nx)))))) (retM .nx))) (sSeq (sRet (eMov 2)) (retM .nx))))
def n__law_first : M Fl := (sSeq (sRet (eTupM (argD (eBin (opD .Mult) (eLit (.str ".")) (eBin ixM (eBor 0) (eLit (.int 0)))) (argD (eLit (.bl false)) (retM []))))) (retM .nx))
def n__law_outcome_k11 (sb : Str → Str → Option Bool) (F_deeds_at F_after : FT) : M Fl := (sSeq (sTry sb (sSeq (sRet (eIfM (tVal (eBin (cmpD .Eq) (eBor 0) (eLit (.int 0)))) (eFn F_deeds_at (argD (eLoc 1) (argD (eLoc 2) (retM [])))) (eFn F_after (argD (eLoc 1) (argD (eLoc 2) (argD (eLoc 3) (retM []))))))) (retM .nx)) [("InvalidKitchen", sRet (eLit (.str "kitchen!"))), ("InvalidStand", sRet (eLit (.str "stand!"))), ("InvalidDeed", sRet (eLit (.str "deed!")))]) (retM .nx))
def n_law_k11 (F__law_source F__law_house F_first_stand F__law_first F__law_spots F__law_all_deeds F__law_outcome F__law_next F_after : FT) : M Fl := (sSeq (sFor (eRange (argR (eCall (argR (eLit (.int 5)) (argR (eCall (argR (eLit (.int 16)) (argR (eCall (argR (eBor 0) (retM [])) (pureF Bk.len.h)) (retM []))) (pureF Bk.min.h)) (retM []))) (pureF Bk.max.h)) (retM []))) (asgM 1) (sSeq (sAsg (eFn F__law_source (argD (eLoc 0) (argD (eLoc 1) (retM [])))) (asgRef 4)) (sSeq (sAsg (eFn F__law_house (argD (eLoc 4) (argD (eLit (.int 3)) (retM [])))) (asgM 3)) (sSeq (sIf (tVal (eBin (cmpD .NotEq) (eFn F_first_stand (argD (eLoc 3) (retM []))) (eFn F__law_first (argD (eLoc 3) (retM []))))) (sSeq (sRet (eLit (.bl false))) (retM .nx)) (retM .nx)) (sSeq (sAsg (eLstM (retM [])) (asgM 5)) (sSeq (sFor (eRange (argR (eLit (.int 3)) (retM []))) (asgM 6) (sSeq (sAsg (eBin (opD .Add) (eBor 5) (eLstM (argD (eTupM (argD (eLit (.str "bring")) (argD (eLoc 6) (argD (eLit (.bl false)) (retM []))))) (argD (eTupM (argD (eLit (.str "bring")) (argD (eLoc 6) (argD (eLit (.bl true)) (retM []))))) (argD (eTupM (argD (eLit (.str "want")) (argD (eLoc 6) (argD (eLit (.bl false)) (retM []))))) (retM [])))))) (asgM 5)) (sSeq (sApp 5 (eTupM (argD (eLit (.str "want")) (argD (eLoc 6) (argD (eLit (.bl true)) (retM [])))))) (retM .nx)))) (sSeq (sFor (eIter (eFn F__law_spots (argD (eLoc 3) (retM [])))) (asgM 7) (sSeq (sAsg (eFn F__law_all_deeds (argD (eLoc 3) (argD (eLoc 7) (retM [])))) (asgM 9)) (sSeq (sFor (eRange (argR (eLit (.int 2)) (retM []))) (asgM 10) (sSeq (sAsg (eFn F__law_outcome (argD (eLit (.int 0)) (argD (eLoc 3) (argD (eLoc 7) (argD (eLit (.non)) (retM [])))))) (asgM 12)) (sSeq (sIf (tOrM (tNotM (tVal (eIsi Tk.list.ty (eBor 12)))) (tVal (eBin (cmpD .NotEq) (eBor 12) (eBor 9)))) (sSeq (sRet (eLit (.bl false))) (retM .nx)) (retM .nx)) (sSeq (sApp 12 (eLit (.str "odd"))) (retM .nx))))) (sSeq (sFor (eIter (eLoc 5)) (asgM 11) (sSeq (sAsg (eIfM (tVal (eBin (cmpD .In) (eBor 11) (eBor 9))) (eFn F__law_next (argD (eLoc 3) (argD (eLoc 7) (argD (eLoc 11) (retM []))))) (eLit (.str "deed!"))) (asgM 13)) (sSeq (sIf (tVal (eBin (cmpD .NotEq) (eFn F__law_outcome (argD (eLit (.int 1)) (argD (eLoc 3) (argD (eLoc 7) (argD (eLoc 11) (retM [])))))) (eBor 13))) (sSeq (sRet (eLit (.bl false))) (retM .nx)) (retM .nx)) (retM .nx)))) (retM .nx))))) (sSeq (sFor (eIter (eLstM (argD (eLit (.non)) (argD (eTupM (argD (eLit (.str "bring")) (argD (eLit (.int 0)) (retM [])))) (argD (eLstM (argD (eLit (.str "want")) (argD (eLit (.int 0)) (argD (eLit (.bl false)) (retM []))))) (argD (eTupM (argD (eLit (.str "want")) (argD (eLit (.int 0)) (argD (eLit (.int 0)) (retM []))))) (argD (eTupM (argD (eLit (.str "bring")) (argD (eLit (.bl true)) (argD (eLit (.bl false)) (retM []))))) (argD (eTupM (argD (eLit (.str "use")) (argD (eLit (.int 0)) (argD (eLit (.bl false)) (retM []))))) (retM []))))))))) (asgM 8) (sSeq (sIf (tVal (eBin (cmpD .NotEq) (eFn F__law_outcome (argD (eLit (.int 1)) (argD (eLoc 3) (argD (eLoc 7) (argD (eLoc 8) (retM [])))))) (eLit (.str "deed!")))) (sSeq (sRet (eLit (.bl false))) (retM .nx)) (retM .nx)) (retM .nx))) (sSeq (sFor (eIter (eLstM (argD (eLit (.non)) (argD (eCall (argR (eBor 7) (retM [])) (pureF Bk.list.h)) (argD (eSlc (eBor 7) (retM none) (partF (eLit (.int 1)))) (argD (eTupM (argD (eBin (opD .Add) (eBin ixM (eBor 7) (eLit (.int 0))) (eLit (.str "."))) (argD (eLit (.bl false)) (retM [])))) (argD (eTupM (argD (eBin (opD .Mult) (eLit (.str "x")) (eBin ixM (eBor 3) (eLit (.int 0)))) (argD (eLit (.bl false)) (retM [])))) (argD (eTupM (argD (eBin ixM (eBor 7) (eLit (.int 0))) (argD (eLit (.int 0)) (retM [])))) (retM []))))))))) (asgM 8) (sSeq (sIf (tOrM (tVal (eBin (cmpD .NotEq) (eFn F__law_outcome (argD (eLit (.int 0)) (argD (eLoc 3) (argD (eLoc 8) (argD (eLit (.non)) (retM [])))))) (eLit (.str "stand!")))) (tVal (eBin (cmpD .NotEq) (eFn F__law_outcome (argD (eLit (.int 1)) (argD (eLoc 3) (argD (eLoc 8) (argD (eLit (.non)) (retM [])))))) (eLit (.str "stand!"))))) (sSeq (sRet (eLit (.bl false))) (retM .nx)) (retM .nx)) (retM .nx))) (sSeq (sIf (tOrM (tVal (eBin (cmpD .NotEq) (eFn F__law_outcome (argD (eLit (.int 0)) (argD (eSlc (eBor 3) (retM none) (partF (eLit (.int 2)))) (argD (eLit (.int 0)) (argD (eLit (.int 0)) (retM [])))))) (eLit (.str "kitchen!")))) (tVal (eBin (cmpD .NotEq) (eFn F__law_outcome (argD (eLit (.int 1)) (argD (eCall (argR (eBor 3) (retM [])) (pureF Bk.list.h)) (argD (eLit (.int 0)) (argD (eLit (.int 0)) (retM [])))))) (eLit (.str "kitchen!"))))) (sSeq (sRet (eLit (.bl false))) (retM .nx)) (retM .nx)) (retM .nx))))))))))) (sSeq (sAsg (eTupM (argD (eLit (.str "sign")) (argD (eLit (.str "empties")) (argD (eLit (.str "all")) (argD (eLit (.str "full")) (argD (eLit (.str "both")) (argD (eLit (.bl true)) (retM [])))))))) (asgM 2)) (sSeq (sAsg (eTupM (argD (eLit (.int 2)) (argD (eLit (.str "hand")) (argD (eTupM (argD (eLoc 2) (retM []))) (retM []))))) (asgM 3)) (sSeq (sIf (tVal (eBin (cmpD .NotEq) (eFn F_after (argD (eLoc 3) (argD (eTupM (argD (eLit (.str "d.")) (argD (eLit (.bl false)) (retM [])))) (argD (eTupM (argD (eLit (.str "bring")) (argD (eLit (.int 0)) (argD (eLit (.bl true)) (retM []))))) (retM []))))) (eTupM (argD (eTupM (argD (eLit (.str "cc")) (argD (eLit (.bl false)) (retM [])))) (argD (eTupM (argD (eLit (.str "puts")) (argD (eLit (.str "starts")) (retM [])))) (retM [])))))) (sSeq (sRet (eLit (.bl false))) (retM .nx)) (retM .nx)) (sSeq (sRet (eBin (cmpD .Eq) (eFn F_after (argD (eLoc 3) (argD (eTupM (argD (eLit (.str "cc")) (argD (eLit (.bl true)) (retM [])))) (argD (eTupM (argD (eLit (.str "bring")) (argD (eLit (.int 0)) (argD (eLit (.bl false)) (retM []))))) (retM []))))) (eTupM (argD (eTupM (argD (eLit (.str "d.")) (argD (eLit (.bl false)) (retM [])))) (argD (eTupM (argD (eLit (.str "empties")) (argD (eLit (.str "puts")) (retM [])))) (retM [])))))) (retM .nx))))))
end Pn


/-! P1 -/
set_option Elab.async false
set_option linter.all false
set_option maxRecDepth 100000
namespace Pn
open PySem PySem.Spec PyProof.Rows L2 Dn
/-- ordinary values -/
def isWhole (v : D) (lo hi : Int) : Bool := match v with
  | .int i => decide (lo ≤ i) && decide (i ≤ hi)
  | _ => false
def isWord (v : D) (ws : List Str) : Bool := match v with
  | .str z => ws.contains z
  | _ => false
def Sp_is_whole (F : FT) : Prop := ∀ (v : D) (lo hi : Int) st, (tyD v).isSome → F [v, .int lo, .int hi] st = .ok (.val (.bl (isWhole v lo hi))) st
theorem sp_is_whole : Sp_is_whole (funF 3 3 n_is_whole) := by
  intro v lo hi st hv
  refine (funF_ap rfl).trans ?_
  unfold n_is_whole isWhole
  cases v with
  | int i => cases h : decide (lo ≤ i) <;> simp_arith! [h, Bool.true_and, Bool.false_and]
  | dct _ => cases hv
  | ref _ => cases hv
  | _ => simp_arith! []

def gws (ws : List Str) : Prop := ∀ w ∈ ws, gdB 1000 (.str w) = true
theorem ty_gd {N : Nat} {v : D} (h : gdB N v = true) : (tyD v).isSome = true := by
  cases v with
  | dct _ => cases h
  | ref _ => cases h
  | _ => rfl
def Sp_is_word (F : FT) : Prop := ∀ (v : D) (ws : List Str) N st, gdB N v = true → gws ws → F [v, .tup (sts ws)] st = .ok (.val (.bl (isWord v ws))) st
theorem sp_is_word : Sp_is_word (funF 2 2 n_is_word) := by
  intro v ws N st hv hw
  refine (funF_ap rfl).trans ?_
  unfold n_is_word isWord
  cases v with
  | str z => simp_arith! [inF_f (x := .val _) (y := .val _) (inE_sts hv hw)]
  | dct _ => cases hv
  | ref _ => cases hv
  | _ => simp_arith! []

/-! a habit -/
def chs : List (List Str) := [["dish", "full", "sign"], ["adds", "empties", "waits"], ["all", "one"], ["each", "full", "never"], ["both", "never", "start"]]
theorem c_CHOICES_eq : c_CHOICES = .tup (chs.map fun ws => .tup (sts ws)) := rfl
def wordsOk : List D → List (List Str) → Bool
  | d :: l, ws :: r => isWord d ws && wordsOk l r
  | _, _ => true
def isHabit : D → Bool
  | .tup [a, b, c, d, e, f] => wordsOk [a, b, c, d, e] chs && isTk .bool f
  | _ => false
def Sp_is_right_habit (F : FT) : Prop := ∀ (v : D) N st, N ≤ LIM → gdB N v = true → F [v] st = .ok (.val (.bl (isHabit v))) st
theorem sp_is_right_habit {F : FT} (h1 : Sp_is_word F) : Sp_is_right_habit (funF 3 1 (n_is_right_habit F)) := by
  intro v N st hN hv
  refine (funF_ap rfl).trans ?_
  unfold n_is_right_habit
  cases v with
  | tup l =>
    by_cases hl : l.length = 6
    · obtain ⟨a, b, c, d, e, f, rfl⟩ : ∃ a b c d e f, l = [a, b, c, d, e, f] := by
        match l, hl with
        | [a, b, c, d, e, f], _ => exact ⟨a, b, c, d, e, f, rfl⟩
      have g : gdB N a = true ∧ gdB N b = true ∧ gdB N c = true ∧ gdB N d = true ∧ gdB N e = true ∧ gdB N f = true := by
        have : (decide (6 ≤ N) && (gdB N a && (gdB N b && (gdB N c && (gdB N d && (gdB N e && (gdB N f && true))))))) = true := hv
        simp only [Bool.and_eq_true] at this
        exact ⟨this.2.1, this.2.2.1, this.2.2.2.1, this.2.2.2.2.1, this.2.2.2.2.2.1, this.2.2.2.2.2.2.1⟩
      have ix : ixF (.val (.tup [a, b, c, d, e, f])) (.val (.int 5)) = some (.val f) := rfl
      simp_arith! [ix, isiF_of .bool (.val f) (ty_gd g.2.2.2.2.2)]
      have hz : fZip [.tup [a, b, c, d, e, f], c_CHOICES] = some [.tup [a, .tup (sts ["dish", "full", "sign"])], .tup [b, .tup (sts ["adds", "empties", "waits"])], .tup [c, .tup (sts ["all", "one"])], .tup [d, .tup (sts ["each", "full", "never"])], .tup [e, .tup (sts ["both", "never", "start"])]] := rfl
      have w : ∀ x ws st, gdB N x = true → gws ws → F [x, .tup (sts ws)] st = .ok (.val (.bl (isWord x ws))) st := fun x ws st hx hw => h1 x ws N st hx hw
      have q1 : gws ["dish", "full", "sign"] := by unfold gws; decide +kernel
      have q2 : gws ["adds", "empties", "waits"] := by unfold gws; decide +kernel
      have q3 : gws ["all", "one"] := by unfold gws; decide +kernel
      have q4 : gws ["each", "full", "never"] := by unfold gws; decide +kernel
      have q5 : gws ["both", "never", "start"] := by unfold gws; decide +kernel
      cases hf : isTk .bool f with
      | false => simp_arith! [hf, isHabit, Bool.and_false]
      | true =>
        have hA := fAll_map (fun b : Bool => b) [isWord a ["dish", "full", "sign"], isWord b ["adds", "empties", "waits"], isWord c ["all", "one"], isWord d ["each", "full", "never"], isWord e ["both", "never", "start"]]
        simp only [List.map_cons, List.map_nil] at hA
        simp_arith! [hf, hz, eComp_ap, compM_cons, w _ _ _ g.1 q1, w _ _ _ g.2.1 q2, w _ _ _ g.2.2.1 q3, w _ _ _ g.2.2.2.1 q4, w _ _ _ g.2.2.2.2.1 q5, hA, isHabit, wordsOk, chs, Bool.and_true, List.all_cons, List.all_nil]
    · have e6 : decide ((l.length : Int) = 6) = false := decide_eq_false (by omega)
      have eh : isHabit (.tup l) = false := by
        unfold isHabit
        split
        · rename_i e
          cases e
          exact absurd rfl hl
        · rfl
      simp_arith! [e6, eh]
  | dct _ => cases hv
  | ref _ => cases hv
  | _ => simp_arith! [isHabit]

/-! a kitchen -/
def sgs : List Str := ["hand", "none", "own"]
theorem c_SIGNS_eq : c_SIGNS = .tup (sts sgs) := rfl
def isKit : D → Bool
  | .tup [a, b, .tup ps] => isWhole a 1 3 && isWord b sgs && decide (1 ≤ ps.length) && decide (ps.length ≤ 3) && ps.all isHabit
  | _ => false
theorem isKit_tup {a b : D} {ps : List D} : isKit (.tup [a, b, .tup ps]) = (isWhole a 1 3 && isWord b sgs && decide (1 ≤ ps.length) && decide (ps.length ≤ 3) && ps.all isHabit) := rfl
theorem gd3 {N : Nat} {a b c : D} (h : gdB N (.tup [a, b, c]) = true) : gdB N a = true ∧ gdB N b = true ∧ gdB N c = true := by
  have : (decide (3 ≤ N) && (gdB N a && (gdB N b && (gdB N c && true)))) = true := h
  simp only [Bool.and_eq_true] at this
  exact ⟨this.2.1, this.2.2.1, this.2.2.2.1⟩
theorem gds_mem {N : Nat} : ∀ {l : List D}, gdsB N l = true → ∀ d ∈ l, gdB N d = true
  | [], _, d, h => by cases h
  | a :: l, h, d, hd => by
    obtain ⟨h1, h2⟩ := Bool.and_eq_true_iff.mp h
    rcases List.mem_cons.mp hd with e | hd
    · rw [e]; exact h1
    · exact gds_mem h2 d hd
theorem gd_tup {N : Nat} {l : List D} (h : gdB N (.tup l) = true) : l.length ≤ N ∧ gdsB N l = true := by
  obtain ⟨h1, h2⟩ := Bool.and_eq_true_iff.mp h
  exact ⟨of_decide_eq_true h1, h2⟩
def Sp_is_right_kitchen (F : FT) : Prop := ∀ (v : D) N st, N ≤ LIM → gdB N v = true → F [v] st = .ok (.val (.bl (isKit v))) st
theorem sp_is_right_kitchen {Fw Fd Fh : FT} (h1 : Sp_is_whole Fw) (h2 : Sp_is_word Fd) (h3 : Sp_is_right_habit Fh) : Sp_is_right_kitchen (funF 2 1 (n_is_right_kitchen Fw Fd Fh)) := by
  intro v N st hN hv
  refine (funF_ap rfl).trans ?_
  unfold n_is_right_kitchen
  cases v with
  | tup l =>
    by_cases hl : l.length = 3
    · obtain ⟨a, b, c, rfl⟩ : ∃ a b c, l = [a, b, c] := by
        match l, hl with
        | [a, b, c], _ => exact ⟨a, b, c, rfl⟩
      obtain ⟨ga, gb, gc⟩ := gd3 hv
      have i0 : ixF (.val (.tup [a, b, c])) (.val (.int 0)) = some (.val a) := rfl
      have i1 : ixF (.val (.tup [a, b, c])) (.val (.int 1)) = some (.val b) := rfl
      have i2 : ixF (.val (.tup [a, b, c])) (.val (.int 2)) = some (.val c) := rfl
      have q1 : gws sgs := by unfold gws; decide +kernel
      have w1 := fun st => h1 a 1 3 st (ty_gd ga)
      have w2 := fun st => h2 b sgs N st gb q1
      cases e1 : isWhole a 1 3 with
      | false => 
        have eh : isKit (.tup [a, b, c]) = false := by cases c <;> first | rfl | (rw [isKit_tup, e1]; rfl)
        simp_arith! [i0, i1, i2, c_MOST_PLACES, w1, e1, eh]
      | true =>
        cases e2 : isWord b sgs with
        | false =>
          have eh : isKit (.tup [a, b, c]) = false := by cases c <;> first | rfl | (rw [isKit_tup, e2, Bool.and_false]; rfl)
          simp_arith! [i0, i1, i2, c_MOST_PLACES, c_SIGNS_eq, w1, w2, e1, e2, eh]
        | true =>
          cases c with
          | tup ps =>
            obtain ⟨hp, gp⟩ := gd_tup gc
            have hc : ∀ st, eComp [1] (eIter (eBin ixM (eBor 0) (eLit (.int 2)))) (asgM 1) (retM true) (eFn Fh (argD (eLoc 1) (retM []))) ⟨[.val (.tup [a, b, .tup ps]), .un], st⟩ = .ok (.own (.lst (ps.map fun p => .bl (isHabit p)))) ⟨[.val (.tup [a, b, .tup ps]), .un], st⟩ := fun st => by
              refine (eComp_map (fun p => .bl (isHabit p)) (s1 := ⟨[.val (.tup [a, b, .tup ps]), .un], st⟩) (ds := ps) ?_ (by omega) fun d hd => ⟨[.val (.tup [a, b, .tup ps]), .val d], rfl, rfl, ?_⟩)
              · simp_arith! [i2]
                rfl
              · simp_arith! [h3 d N st hN (gds_mem gp d hd)]
            have eh : isKit (.tup [a, b, .tup ps]) = (decide (1 ≤ ps.length) && decide (ps.length ≤ 3) && ps.all isHabit) := by
              rw [isKit_tup, e1, e2]
              simp
            have n1 : decide ((1 : Int) ≤ (ps.length : Int)) = decide (1 ≤ ps.length) := by congr 1; exact propext (by omega)
            have n2 : decide ((ps.length : Int) ≤ 3) = decide (ps.length ≤ 3) := by congr 1; exact propext (by omega)
            rw [eh]
            cases k1 : decide (1 ≤ ps.length) with
            | false => simp_arith! [i0, i1, i2, c_MOST_PLACES, c_MOST_HABITS, c_SIGNS_eq, w1, w2, e1, e2, n1, n2, k1, Bool.false_and]
            | true =>
              cases k2 : decide (ps.length ≤ 3) with
              | false => simp_arith! [i0, i1, i2, c_MOST_PLACES, c_MOST_HABITS, c_SIGNS_eq, w1, w2, e1, e2, n1, n2, k1, k2, Bool.false_and, Bool.and_false]
              | true => simp_arith! [i0, i1, i2, c_MOST_PLACES, c_MOST_HABITS, c_SIGNS_eq, w1, w2, e1, e2, n1, n2, k1, k2, hc, fAll_map, Bool.true_and]
          | dct _ => cases gc
          | ref _ => cases gc
          | _ => simp_arith! [i0, i1, i2, c_MOST_PLACES, c_SIGNS_eq, w1, w2, e1, e2, isKit]
    · have e3 : decide ((l.length : Int) = 3) = false := decide_eq_false (by omega)
      have eh : isKit (.tup l) = false := by
        unfold isKit
        split
        · rename_i e
          cases e
          exact absurd rfl hl
        · rfl
      simp_arith! [e3, eh]
  | dct _ => cases hv
  | ref _ => cases hv
  | _ => simp_arith! [isKit]
end Pn


/-! P2 -/
set_option Elab.async false
set_option linter.all false
set_option maxRecDepth 100000
namespace Pn
open PySem PySem.Spec PyProof.Rows L2 Dn
/-! a stand -/
def ms : List Str := [".", "c", "d"]
def isMark (c : Nat) : Bool := ms.contains ⟨#[c]⟩
def isStand (n : Int) (sg : Str) : D → Bool
  | .tup [.str z, .bl b] => decide ((z.length : Int) = n) && z.cps.toList.all isMark && (!decide (sg = "none") || !b)
  | _ => false
theorem gd2 {N : Nat} {a b : D} (h : gdB N (.tup [a, b]) = true) : gdB N a = true ∧ gdB N b = true := by
  have : (decide (2 ≤ N) && (gdB N a && (gdB N b && true))) = true := h
  simp only [Bool.and_eq_true] at this
  exact ⟨this.2.1, this.2.2.1⟩
theorem gd_str {N : Nat} {z : Str} (h : gdB N (.str z) = true) : z.length ≤ N ∧ z.cps.toList.all (fun c => decide (c < 0x110000)) = true := by
  obtain ⟨h1, h2⟩ := Bool.and_eq_true_iff.mp h
  refine ⟨of_decide_eq_true h2, ?_⟩
  have h3 : z.cps.all (fun c => decide (c < 0x110000)) = true := h1
  rw [← Array.all_toList] at h3
  exact h3
theorem gd_chr {N c : Nat} (h : c < 0x110000) (hN : 1 ≤ N) : gdB N (.str ⟨#[c]⟩) = true := by
  show (_ && decide (1 ≤ N)) = true
  rw [decide_eq_true hN, Bool.and_true]
  show (#[c].all fun c => decide (c < 0x110000)) = true
  rw [← Array.all_toList]
  simp [h]
theorem isStand_str {n : Int} {sg z : Str} {b : Bool} : isStand n sg (.tup [.str z, .bl b]) = (decide ((z.length : Int) = n) && z.cps.toList.all isMark && (!decide (sg = "none") || !b)) := rfl
def Sp_is_right_stand (F : FT) : Prop := ∀ (n : Int) (sg : Str) (l : List D) (v : D) N st, 1 ≤ N → N ≤ LIM → gdB N v = true → F [.tup (.int n :: .str sg :: l), v] st = .ok (.val (.bl (isStand n sg v))) st
theorem sp_is_right_stand : Sp_is_right_stand (funF 3 2 n_is_right_stand) := by
  intro n sg k v N st h1 hN hv
  refine (funF_ap rfl).trans ?_
  unfold n_is_right_stand
  cases v with
  | tup l =>
    by_cases hl : l.length = 2
    · obtain ⟨a, b, rfl⟩ : ∃ a b, l = [a, b] := by
        match l, hl with
        | [a, b], _ => exact ⟨a, b, rfl⟩
      obtain ⟨ga, gb⟩ := gd2 hv
      have i0 : ixF (.val (.tup [a, b])) (.val (.int 0)) = some (.val a) := rfl
      have i1 : ixF (.val (.tup [a, b])) (.val (.int 1)) = some (.val b) := rfl
      have j0 : ixF (.val (.tup (.int n :: .str sg :: k))) (.val (.int 0)) = some (.val (.int n)) := ix_tup (j := 0) rfl
      have j1 : ixF (.val (.tup (.int n :: .str sg :: k))) (.val (.int 1)) = some (.val (.str sg)) := ix_tup (j := 1) rfl
      cases a with
      | str z =>
        obtain ⟨hz, hc⟩ := gd_str ga
        cases b with
        | bl b =>
          have hcm : ∀ st, eComp [2] (eIter (eBin ixM (eBor 1) (eLit (.int 0)))) (asgM 2) (retM true) (eBin (cmpD .In) (eBor 2) (eTupM (argD (eLit (.str ".")) (argD (eLit (.str "c")) (argD (eLit (.str "d")) (retM [])))))) ⟨[.val (.tup (.int n :: .str sg :: k)), .val (.tup [.str z, .bl b]), .un], st⟩ = .ok (.own (.lst (z.cps.toList.map fun c => .bl (isMark c)))) ⟨[.val (.tup (.int n :: .str sg :: k)), .val (.tup [.str z, .bl b]), .un], st⟩ := fun st => by
            refine (eComp_map (fun d => match d with | .str y => .bl (ms.contains y) | _ => .non) (s1 := ⟨[.val (.tup (.int n :: .str sg :: k)), .val (.tup [.str z, .bl b]), .un], st⟩) (ds := z.cps.toList.map fun c => .str ⟨#[c]⟩) ?_ ?_ fun d hd => ⟨[.val (.tup (.int n :: .str sg :: k)), .val (.tup [.str z, .bl b]), .val d], rfl, rfl, ?_⟩).trans ?_
            · simp_arith! [i0]
              rfl
            · rw [List.length_map, Array.length_toList]
              exact Nat.le_trans hz hN
            · obtain ⟨c, hcm, rfl⟩ := List.mem_map.mp hd
              have q := of_decide_eq_true (List.all_eq_true.mp hc c hcm)
              have hin : inE (.str ⟨#[c]⟩) (.tup [.str ".", .str "c", .str "d"]) = some (ms.contains ⟨#[c]⟩) := inE_sts (ws := ms) (gd_chr (N := 5) q (by decide)) (M := 5) (by decide +kernel)
              simp_arith! [inF_f (x := .val _) (y := .val _) hin]
            · rw [List.map_map]
              rfl
          cases e1 : decide ((z.length : Int) = n) with
          | false => simp_arith! [i0, i1, j0, fLen_str (Nat.le_trans hz hN), e1, isStand_str, Bool.false_and]
          | true =>
            cases e2 : z.cps.toList.all isMark with
            | false => simp_arith! [i0, i1, j0, fLen_str (Nat.le_trans hz hN), e1, e2, hcm, fAll_map, isStand_str, Bool.false_and, Bool.and_false]
            | true =>
              cases e3 : decide (sg = "none") <;> simp_arith! [i0, i1, j0, j1, fLen_str (Nat.le_trans hz hN), e1, e2, e3, hcm, fAll_map, isStand_str, Bool.true_and, Bool.true_or, Bool.false_or]
        | dct _ => cases gb
        | ref _ => cases gb
        | _ => simp_arith! [i0, i1, isStand]
      | dct _ => cases ga
      | ref _ => cases ga
      | _ => simp_arith! [i0, i1, isStand]
    · have e3 : decide ((l.length : Int) = 2) = false := decide_eq_false (by omega)
      have eh : isStand n sg (.tup l) = false := by
        unfold isStand
        split
        · rename_i e
          cases e
          exact absurd rfl hl
        · rfl
      simp_arith! [e3, eh]
  | dct _ => cases hv
  | ref _ => cases hv
  | _ => simp_arith! [isStand]
end Pn


/-! P3 -/
set_option Elab.async false
set_option linter.all false
set_option maxRecDepth 100000
namespace Pn
open PySem PySem.Spec PyProof.Rows L2 Dn
/-! all stands, written out -/
def spotsL : Nat → List Str
  | 0 => [""]
  | n + 1 => (spotsL n).flatMap fun z => [z ++ ".", z ++ "c", z ++ "d"]
theorem isMark_cases {c : Nat} (h : isMark c = true) : c = 46 ∨ c = 99 ∨ c = 100 := by
  have h2 : (⟨#[c]⟩ : Str) ∈ ms := List.contains_iff_mem.mp h
  have e1 : (Str.ofString "." : Str) = ⟨#[46]⟩ := by decide +kernel
  have e2 : (Str.ofString "c" : Str) = ⟨#[99]⟩ := by decide +kernel
  have e3 : (Str.ofString "d" : Str) = ⟨#[100]⟩ := by decide +kernel
  have h3 : (⟨#[c]⟩ : Str) ∈ ([⟨#[46]⟩, ⟨#[99]⟩, ⟨#[100]⟩] : List Str) := by
    rw [← e1, ← e2, ← e3]
    exact h2
  simp only [List.mem_cons, List.not_mem_nil, or_false, Str.mk.injEq, Array.mk.injEq, List.cons.injEq, and_true] at h3
  exact h3
theorem mem_spots {z : Str} (h : z.cps.toList.all isMark = true) (hl : z.length ≤ 3) : z ∈ spotsL z.length := by
  obtain ⟨⟨l⟩⟩ := z
  have h : l.all isMark = true := h
  have hl : l.length ≤ 3 := hl
  show (⟨⟨l⟩⟩ : Str) ∈ spotsL l.length
  match l, hl with
  | [], _ => decide +kernel
  | [a], _ =>
    simp only [List.all_cons, List.all_nil, Bool.and_true] at h
    rcases isMark_cases h with rfl | rfl | rfl <;> decide +kernel
  | [a, b], _ =>
    simp only [List.all_cons, List.all_nil, Bool.and_true, Bool.and_eq_true] at h
    rcases isMark_cases h.1 with rfl | rfl | rfl <;> rcases isMark_cases h.2 with rfl | rfl | rfl <;> decide +kernel
  | [a, b, c], _ =>
    simp only [List.all_cons, List.all_nil, Bool.and_true, Bool.and_eq_true] at h
    rcases isMark_cases h.1 with rfl | rfl | rfl <;> rcases isMark_cases h.2.1 with rfl | rfl | rfl <;> rcases isMark_cases h.2.2 with rfl | rfl | rfl <;> decide +kernel
/-- is he sure, with this look -/
def sure (l z : Str) (b : Bool) : Bool :=
  if (z.cps.toList.filter fun c => !decide (c = 46)) = [] then false else if l = "sign" then b else if l = "dish" then decide ((z.cps.toList.filter fun c => !decide (c = 46)).head? = some 99) else decide ((z.cps.toList.filter fun c => !decide (c = 46)).length = z.length)
def lks : List Str := ["dish", "full", "sign"]
def allSp : List Str := spotsL 1 ++ spotsL 2 ++ spotsL 3
def allT : List (Str × Str) := lks.flatMap fun l => allSp.map fun z => (l, z)
/-- for each of l: f is g -/
def AllQ {α : Type} (P : α → Prop) : List α → Prop
  | [] => True
  | a :: l => P a ∧ AllQ P l
theorem AllQ.mem {α : Type} {P : α → Prop} : ∀ {l : List α}, AllQ P l → ∀ a ∈ l, P a
  | [], _, _, h => by cases h
  | b :: l, ⟨p, q⟩, a, h => by
    rcases List.mem_cons.mp h with e | h
    · rw [e]; exact p
    · exact q.mem a h
def Sp_trusts (F : FT) : Prop := ∀ (l z : Str) (d2 d3 d4 d5 d6 : D) (b : Bool) st, l ∈ lks → z ∈ allSp → F [.tup [.str l, d2, d3, d4, d5, d6], .tup [.str z, .bl b]] st = .ok (.val (.bl (sure l z b))) st
theorem tr_all : (fun (d2 d3 d4 d5 d6 : D) (b : Bool) (st : List SO) => allT.map fun q => funF 5 2 n_trusts [.tup [.str q.1, d2, d3, d4, d5, d6], .tup [.str q.2, .bl b]] st) = fun d2 d3 d4 d5 d6 b st => allT.map fun q => .ok (.val (.bl (sure q.1 q.2 b))) st := by kernel_rfl
theorem sp_trusts : Sp_trusts (funF 5 2 n_trusts) := by
  intro l z d2 d3 d4 d5 d6 b st hl hz
  have h := congrFun (congrFun (congrFun (congrFun (congrFun (congrFun (congrFun tr_all d2) d3) d4) d5) d6) b) st
  have hm : (l, z) ∈ allT := List.mem_flatMap.mpr ⟨l, hl, List.mem_map.mpr ⟨z, hz, rfl⟩⟩
  exact List.map_inj_left.mp h (l, z) hm
end Pn


/-! P4 -/
set_option Elab.async false
set_option linter.all false
set_option maxRecDepth 100000
namespace Pn
open PySem PySem.Spec PyProof.Rows L2 Dn
/-! the errors -/
def exR (x : Str) (st : List SO) : RF := .exc ⟨x, none⟩ st
def needR (b : Bool) (x : Str) (st : List SO) : RF := if b = true then .ok (.val .non) st else exR x st
def Sp_need_kitchen (F : FT) : Prop := ∀ (v : D) N st, N ≤ LIM → gdB N v = true → F [v] st = needR (isKit v) "InvalidKitchen" st
theorem sp_need_kitchen {F : FT} (h : Sp_is_right_kitchen F) : Sp_need_kitchen (funF 1 1 (n_need_kitchen F)) := by
  intro v N st hN hv
  refine (funF_ap rfl).trans ?_
  unfold n_need_kitchen needR exR
  cases e : isKit v with
  | true => simp_arith! [h v N _ hN hv, e]; rfl
  | false => simp_arith! [h v N _ hN hv, e]; rfl
def kitNS : D → Option (Int × Str)
  | .tup (.int n :: .str sg :: _) => some (n, sg)
  | _ => none
def Sp_need_stand (F : FT) : Prop := ∀ (n : Int) (sg : Str) (l : List D) (v : D) N st, 1 ≤ N → N ≤ LIM → gdB N v = true → F [.tup (.int n :: .str sg :: l), v] st = needR (isStand n sg v) "InvalidStand" st
theorem sp_need_stand {F : FT} (h : Sp_is_right_stand F) : Sp_need_stand (funF 2 2 (n_need_stand F)) := by
  intro n sg l v N st h1 hN hv
  refine (funF_ap rfl).trans ?_
  unfold n_need_stand needR exR
  cases e : isStand n sg v with
  | true => simp_arith! [h n sg l v N _ h1 hN hv, e]; rfl
  | false => simp_arith! [h n sg l v N _ h1 hN hv, e]; rfl
def Sp_need_number (F : FT) : Prop := ∀ (a b : D) (ps : List D) (v : D) st, (tyD v).isSome = true → F [.tup [a, b, .tup ps], v] st = needR (isWhole v 0 ((ps.length : Int) - 1)) "InvalidNumber" st
theorem sp_need_number {F : FT} (h : Sp_is_whole F) : Sp_need_number (funF 2 2 (n_need_number F)) := by
  intro a b ps v st hv
  refine (funF_ap rfl).trans ?_
  unfold n_need_number needR exR
  have i2 : ixF (.val (.tup [a, b, .tup ps])) (.val (.int 2)) = some (.val (.tup ps)) := rfl
  cases e : isWhole v 0 ((ps.length : Int) - 1) with
  | true => simp_arith! [i2, h v 0 _ _ hv, e]; rfl
  | false => simp_arith! [i2, h v 0 _ _ hv, e]; rfl
def Sp_is_habit (F : FT) : Prop := ∀ (v : D) N st, N ≤ LIM → gdB N v = true → F [v] st = .ok (.val (.bl (isHabit v))) st
theorem sp_is_habit {F : FT} (h : Sp_is_right_habit F) : Sp_is_habit (funF 1 1 (n_is_habit F)) := by
  intro v N st hN hv
  refine (funF_ap rfl).trans ?_
  unfold n_is_habit
  simp_arith! [h v N _ hN hv]
def Sp_is_kitchen (F : FT) : Prop := ∀ (v : D) N st, N ≤ LIM → gdB N v = true → F [v] st = .ok (.val (.bl (isKit v))) st
theorem sp_is_kitchen {F : FT} (h : Sp_is_right_kitchen F) : Sp_is_kitchen (funF 1 1 (n_is_kitchen F)) := by
  intro v N st hN hv
  refine (funF_ap rfl).trans ?_
  unfold n_is_kitchen
  simp_arith! [h v N _ hN hv]
/-- what a right kitchen looks like -/
theorem kit_form {k : D} (h : isKit k = true) : ∃ (n : Int) (sg : Str) (ps : List D), k = .tup [.int n, .str sg, .tup ps] ∧ 1 ≤ n ∧ n ≤ 3 ∧ sg ∈ sgs ∧ 1 ≤ ps.length ∧ ps.length ≤ 3 ∧ ∀ p ∈ ps, isHabit p = true := by
  unfold isKit at h
  split at h
  · rename_i a b ps
    simp only [Bool.and_eq_true, decide_eq_true_eq, List.all_eq_true] at h
    obtain ⟨⟨⟨⟨h1, h2⟩, h3⟩, h4⟩, h5⟩ := h
    cases a with
    | int n =>
      obtain ⟨k1, k2⟩ := Bool.and_eq_true_iff.mp (show (decide (1 ≤ n) && decide (n ≤ 3)) = true from h1)
      cases b with
      | str sg => exact ⟨n, sg, ps, rfl, of_decide_eq_true k1, of_decide_eq_true k2, List.contains_iff_mem.mp h2, h3, h4, h5⟩
      | _ => cases h2
    | _ => cases h1
  · cases h
theorem kit_of {n : Int} {sg : Str} {ps : List D} (h1 : 1 ≤ n) (h2 : n ≤ 3) (h3 : sg ∈ sgs) (h4 : 1 ≤ ps.length) (h5 : ps.length ≤ 3) (h6 : ∀ p ∈ ps, isHabit p = true) : isKit (.tup [.int n, .str sg, .tup ps]) = true := by
  rw [isKit_tup]
  simp only [Bool.and_eq_true, decide_eq_true_eq, List.all_eq_true]
  refine ⟨⟨⟨⟨?_, ?_⟩, h4⟩, h5⟩, h6⟩
  · show (decide (1 ≤ n) && decide (n ≤ 3)) = true
    rw [decide_eq_true h1, decide_eq_true h2]
    rfl
  · exact List.contains_iff_mem.mpr h3
theorem word_form {v : D} {ws : List Str} (h : isWord v ws = true) : ∃ z, v = .str z ∧ z ∈ ws := by
  cases v with
  | str z => exact ⟨z, rfl, List.contains_iff_mem.mp h⟩
  | _ => cases h
theorem habit_form {p : D} (h : isHabit p = true) : ∃ (a b c d e : Str) (f : Bool), p = .tup [.str a, .str b, .str c, .str d, .str e, .bl f] ∧ a ∈ lks ∧ b ∈ (["adds", "empties", "waits"] : List Str) ∧ c ∈ (["all", "one"] : List Str) ∧ d ∈ (["each", "full", "never"] : List Str) ∧ e ∈ (["both", "never", "start"] : List Str) := by
  unfold isHabit at h
  split at h
  · rename_i a b c d e f
    simp only [wordsOk, chs, Bool.and_eq_true, Bool.and_true] at h
    obtain ⟨⟨h1, h2, h3, h4, h5⟩, h6⟩ := h
    obtain ⟨a, rfl, ha⟩ := word_form h1
    obtain ⟨b, rfl, hb⟩ := word_form h2
    obtain ⟨c, rfl, hc⟩ := word_form h3
    obtain ⟨d, rfl, hd⟩ := word_form h4
    obtain ⟨e, rfl, he⟩ := word_form h5
    cases f with
    | bl f => exact ⟨a, b, c, d, e, f, rfl, ha, hb, hc, hd, he⟩
    | _ => cases h6
  · cases h
theorem stand_form {n : Int} {sg : Str} {v : D} (h : isStand n sg v = true) : ∃ z b, v = .tup [.str z, .bl b] ∧ (z.length : Int) = n ∧ z.cps.toList.all isMark = true ∧ (sg = "none" → b = false) := by
  unfold isStand at h
  split at h
  · rename_i z b
    simp only [Bool.and_eq_true, decide_eq_true_eq, Bool.or_eq_true, Bool.not_eq_true', decide_eq_false_iff_not] at h
    refine ⟨z, b, rfl, h.1.1, h.1.2, fun e => ?_⟩
    rcases h.2 with q | q
    · exact absurd e q
    · exact q
  · cases h
theorem mem_allSp {z : Str} (h : z.cps.toList.all isMark = true) (h1 : 1 ≤ z.length) (h3 : z.length ≤ 3) : z ∈ allSp := by
  have hm := mem_spots h h3
  have hc : z.length = 1 ∨ z.length = 2 ∨ z.length = 3 := by omega
  unfold allSp
  rcases hc with e | e | e <;> rw [e] at hm <;> simp [hm]
end Pn


/-! P5 -/
set_option Elab.async false
set_option linter.all false
set_option maxRecDepth 100000
namespace Pn
open PySem PySem.Spec PyProof.Rows L2 Dn
/-! the law's own looks -/
def Sp_is_stand (F : FT) : Prop := (∀ (k v : D) N st, N ≤ LIM → gdB N k = true → isKit k = false → F [k, v] st = exR "InvalidKitchen" st) ∧
  ∀ (n : Int) (sg : Str) (ps : List D) (v : D) N M st, N ≤ LIM → gdB N (.tup [.int n, .str sg, .tup ps]) = true → isKit (.tup [.int n, .str sg, .tup ps]) = true → 1 ≤ M → M ≤ LIM → gdB M v = true → F [.tup [.int n, .str sg, .tup ps], v] st = .ok (.val (.bl (isStand n sg v))) st
theorem sp_is_stand {F1 F2 : FT} (h1 : Sp_need_kitchen F1) (h2 : Sp_is_right_stand F2) : Sp_is_stand (funF 2 2 (n_is_stand F1 F2)) := by
  constructor
  · intro k v N st hN hk e
    refine (funF_ap rfl).trans ?_
    unfold n_is_stand
    simp_arith! [h1 k N _ hN hk, e, needR, exR, Bool.false_eq_true, if_false]
  · intro n sg ps v N M st hN hk e hM1 hM hv
    refine (funF_ap rfl).trans ?_
    unfold n_is_stand
    simp_arith! [h1 _ N _ hN hk, e, needR, if_true, h2 n sg _ v M _ hM1 hM hv]
/-- what believes says at a kitchen that is right -/
def believeR (n : Int) (sg : Str) (ps : List D) (v num : D) (st : List SO) : RF :=
  if isStand n sg v = true then (if isWhole num 0 ((ps.length : Int) - 1) = true then (match v, num with
    | .tup [.str z, .bl b], .int i => match ps[i.toNat]? with
      | some (.tup [.str l, _, _, _, _, _]) => .ok (.val (.bl (sure l z b))) st
      | _ => .stuck
    | _, _ => .stuck) else exR "InvalidNumber" st) else exR "InvalidStand" st
def Sp_believes (F : FT) : Prop := (∀ (k v num : D) N st, N ≤ LIM → gdB N k = true → isKit k = false → F [k, v, num] st = exR "InvalidKitchen" st) ∧
  ∀ (n : Int) (sg : Str) (ps : List D) (v num : D) N M st, N ≤ LIM → gdB N (.tup [.int n, .str sg, .tup ps]) = true → isKit (.tup [.int n, .str sg, .tup ps]) = true → 1 ≤ M → M ≤ LIM → gdB M v = true → (tyD num).isSome = true →
    F [.tup [.int n, .str sg, .tup ps], v, num] st = believeR n sg ps v num st
theorem sp_believes {F1 F2 F3 F4 : FT} (h1 : Sp_need_kitchen F1) (h2 : Sp_need_stand F2) (h3 : Sp_need_number F3) (h4 : Sp_trusts F4) : Sp_believes (funF 3 3 (n_believes F1 F2 F3 F4)) := by
  constructor
  · intro k v num N st hN hk e
    refine (funF_ap rfl).trans ?_
    unfold n_believes
    simp_arith! [h1 k N _ hN hk, e, needR, exR, Bool.false_eq_true, if_false]
  · intro n sg ps v num N M st hN hk e hM1 hM hv hnum
    refine (funF_ap rfl).trans ?_
    unfold n_believes believeR
    cases e1 : isStand n sg v with
    | false => simp_arith! [h1 _ N _ hN hk, e, needR, exR, if_true, h2 n sg _ v M _ hM1 hM hv, e1, Bool.false_eq_true, if_false]
    | true =>
      cases e2 : isWhole num 0 ((ps.length : Int) - 1) with
      | false => simp_arith! [h1 _ N _ hN hk, e, needR, exR, if_true, h2 n sg _ v M _ hM1 hM hv, e1, Bool.false_eq_true, if_false, h3 _ _ _ _ _ hnum, e2]
      | true =>
        obtain ⟨n', sg', ps', ek, k1, k2, k3, k4, k5, k6⟩ := kit_form e
        cases ek
        obtain ⟨z, b, rfl, z1, z2, z3⟩ := stand_form e1
        cases num with
        | int i =>
          obtain ⟨i1, i2⟩ := Bool.and_eq_true_iff.mp (show (decide (0 ≤ i) && decide (i ≤ (ps.length : Int) - 1)) = true from e2)
          have i1 := of_decide_eq_true i1
          have i2 := of_decide_eq_true i2
          obtain ⟨j, rfl⟩ := Int.eq_ofNat_of_zero_le i1
          have hj : j < ps.length := by omega
          obtain ⟨a1, a2, a3, a4, a5, a6, hp, m1, _⟩ := habit_form (k6 ps[j] (List.getElem_mem hj))
          have gj : ps[j]? = some (.tup [.str a1, .str a2, .str a3, .str a4, .str a5, .bl a6]) := by rw [List.getElem?_eq_getElem hj, hp]
          have i2 : ixF (.val (.tup [.int n, .str sg, .tup ps])) (.val (.int 2)) = some (.val (.tup ps)) := rfl
          have tj : (j : Int).toNat = j := rfl
          simp_arith! [h1 _ N _ hN hk, e, needR, exR, if_true, h2 n sg _ _ M _ hM1 hM hv, e1, h3 _ _ _ _ _ hnum, e2, i2, ix_tup gj, h4 a1 z _ _ _ _ _ b _ m1 (mem_allSp z2 (by omega) (by omega)), tj, gj]
        | _ => cases e2
def Sp_law_is_bool (F : FT) : Prop := ∀ (a b : Bool) st, F [.bl a, .bl b] st = .ok (.val (.bl (a == b))) st
theorem sp_law_is_bool : Sp_law_is_bool (funF 2 2 n__law_is_bool) := by
  intro a b st
  refine (funF_ap (np := 2) (by rfl)).trans ?_
  unfold n__law_is_bool
  have h : eqF (.val (.bl a)) (.val (.bl b)) = some (.val (.bl (a == b))) := rfl
  simp_arith! [h]
def Sp_law_is_boolS (F : FT) : Prop := ∀ (a : Str) (b : Bool) st, F [.str a, .bl b] st = .ok (.val (.bl false)) st
theorem sp_law_is_boolS : Sp_law_is_boolS (funF 2 2 n__law_is_bool) := by
  intro a b st
  refine (funF_ap (np := 2) (by rfl)).trans ?_
  unfold n__law_is_bool
  simp_arith! []
def isWide (v : D) (lo hi : Int) : Bool := match v with
  | .tup l => decide (lo ≤ (l.length : Int)) && decide ((l.length : Int) ≤ hi)
  | _ => false
def Sp_law_wide (F : FT) : Prop := ∀ (v : D) (lo hi : Int) st, (tyD v).isSome → F [v, .int lo, .int hi] st = .ok (.val (.bl (isWide v lo hi))) st
theorem sp_law_wide : Sp_law_wide (funF 3 3 n__law_wide) := by
  intro v lo hi st hv
  refine (funF_ap rfl).trans ?_
  unfold n__law_wide isWide
  cases v with
  | tup l => cases h : decide (lo ≤ (l.length : Int)) <;> simp_arith! [h, Bool.true_and, Bool.false_and]
  | dct _ => cases hv
  | ref _ => cases hv
  | _ => simp_arith! []
def Sp_law_whole (F : FT) : Prop := ∀ (v : D) (lo hi : Int) st, (tyD v).isSome → F [v, .int lo, .int hi] st = .ok (.val (.bl (isWhole v lo hi))) st
theorem sp_law_whole : Sp_law_whole (funF 3 3 n__law_whole) := by
  intro v lo hi st hv
  refine (funF_ap rfl).trans ?_
  unfold n__law_whole isWhole
  cases v with
  | int i => cases h : decide (lo ≤ i) <;> simp_arith! [h, Bool.true_and, Bool.false_and]
  | dct _ => cases hv
  | ref _ => cases hv
  | _ => simp_arith! []
def Sp_law_among (F : FT) : Prop := ∀ (v : D) (ws : List Str) N st, gdB N v = true → gws ws → F [v, .lst (sts ws)] st = .ok (.val (.bl (isWord v ws))) st
theorem sp_law_among : Sp_law_among (funF 2 2 n__law_among) := by
  intro v ws N st hv hw
  refine (funF_ap rfl).trans ?_
  unfold n__law_among isWord
  cases v with
  | str z => simp_arith! [inF_f (x := .val _) (y := .val _) (inE_stl hv hw)]
  | dct _ => cases hv
  | ref _ => cases hv
  | _ => simp_arith! []
def tableD : List D := (chs.map fun ws => .lst (sts ws)) ++ [.lst [.bl false, .bl true]]
def Sp_law_table (F : FT) : Prop := ∀ st, F [] st = .ok (.own (.lst tableD)) st
theorem sp_law_table : Sp_law_table (funF 1 0 n__law_table) := fun st => congrFun (show (fun st => funF 1 0 n__law_table [] st) = fun st => .ok (.own (.lst tableD)) st from by kernel_rfl) st
theorem eqE_nil {N : Nat} {l : List D} (h : gdsB N l = true) (hd : deps l < 64) : eqE (.lst l) (.lst []) = some l.isEmpty := by
  have hg : gdB (N + l.length) (.lst []) = true := by
    show (decide (0 ≤ N + l.length) && true) = true
    rw [decide_eq_true (Nat.zero_le _)]
    rfl
  have e : scalE (.lst l) (.lst []) = none := rfl
  unfold eqE
  rw [e]
  unfold deqE
  obtain ⟨k1, k2, k3⟩ := toPys_gd l h
  have t : toPy (.lst l) = some (.list (pysD l)) := by
    show (match toPys l with | some ks => some (PyData.list ks) | none => none) = _
    rw [k1]
  rw [t]
  have hs : SeqAt.shaped (.list (pysD l)) = true := by
    unfold SeqAt.shaped
    rw [show PyData.canLay0 (.list (pysD l)) = true from k2, show PyData.depth (.list (pysD l)) = deps l + 1 from by show PyData.depthAll (pysD l) + 1 = _; rw [k3], decide_eq_true (show deps l + 1 ≤ 64 from hd)]
    rfl
  show (if (SeqAt.shaped (.list (pysD l)) && SeqAt.shaped (.list [])) = true then some (PyData.eqv (.list (pysD l)) (.list [])) else none) = _
  rw [hs, show SeqAt.shaped (.list []) = true from by decide +kernel]
  cases l <;> rfl
end Pn


/-! P6 -/
set_option Elab.async false
set_option linter.all false
set_option maxRecDepth 100000
namespace Pn
open PySem PySem.Spec PyProof.Rows L2 Dn
theorem gds_sub {N : Nat} : ∀ {l : List D} (p : D → Bool), gdsB N l = true → gdsB N (l.filter p) = true
  | [], _, _ => rfl
  | a :: l, p, h => by
    obtain ⟨h1, h2⟩ := Bool.and_eq_true_iff.mp h
    rw [List.filter_cons]
    split
    · show (gdB N a && gdsB N (l.filter p)) = true
      rw [h1, gds_sub p h2]
      rfl
    · exact gds_sub p h2
theorem gds_of {N : Nat} : ∀ {l : List D}, (∀ d ∈ l, gdB N d = true) → gdsB N l = true
  | [], _ => rfl
  | a :: l, h => by
    show (gdB N a && gdsB N l) = true
    rw [h a (by simp), gds_of fun d hd => h d (by simp [hd])]
    rfl
theorem deps_mem : ∀ {l : List D} {d : D}, d ∈ l → dep d ≤ deps l
  | [], _, h => by cases h
  | a :: l, d, h => by
    show dep d ≤ max (dep a) (deps l)
    rcases List.mem_cons.mp h with e | h
    · rw [e]; omega
    · have := deps_mem h; omega
theorem deps_le {n : Nat} : ∀ {l : List D}, (∀ d ∈ l, dep d ≤ n) → deps l ≤ n
  | [], _ => Nat.zero_le _
  | a :: l, h => by
    show max (dep a) (deps l) ≤ n
    have h1 := h a (by simp)
    have h2 := deps_le (l := l) fun d hd => h d (by simp [hd])
    omega
theorem deps_sub {l : List D} (p : D → Bool) : deps (l.filter p) ≤ deps l := deps_le fun d hd => deps_mem (List.mem_filter.mp hd).1
theorem dep_tup {l : List D} {n : Nat} (h : dep (.tup l) ≤ n) : deps l < n := h
/-- a filtered list against [] -/
theorem eqF_nil {N : Nat} {l : List D} (h : gdsB N l = true) (hd : deps l < 64) : eqF (.own (.lst l)) (.own (.lst [])) = some (.val (.bl l.isEmpty)) := eqF_of (eqE_nil h hd)
theorem filter_isEmpty {α : Type} (p : α → Bool) (l : List α) : (l.filter fun a => !p a).isEmpty = l.all p := by
  induction l with
  | nil => rfl
  | cons a l ih => cases h : p a <;> simp [List.filter_cons, h, ih]
def Sp_law_good_habit (F : FT) : Prop := ∀ (v : D) N st, N ≤ LIM → gdB N v = true → dep v ≤ 60 → F [v] st = .ok (.val (.bl (isHabit v))) st
theorem wide_len {l : List D} {n : Nat} : isWide (.tup l) n n = decide (l.length = n) := by
  show (decide ((n : Int) ≤ (l.length : Int)) && decide ((l.length : Int) ≤ n)) = _
  by_cases h : l.length = n
  · rw [h]; simp
  · rw [decide_eq_false h]
    by_cases h1 : (n : Int) ≤ l.length
    · rw [decide_eq_false (show ¬ (l.length : Int) ≤ n by omega), Bool.and_false]
    · rw [decide_eq_false h1, Bool.false_and]
theorem sp_law_good_habit {F1 F2 F3 : FT} (h1 : Sp_law_wide F1) (h2 : Sp_law_among F2) (h3 : Sp_law_table F3) : Sp_law_good_habit (funF 3 1 (n__law_good_habit F1 F2 F3)) := by
  intro v N st hN hv hd
  refine (funF_ap rfl).trans ?_
  unfold n__law_good_habit
  have w := fun st => h1 v 6 6 st (ty_gd hv)
  cases v with
  | tup l =>
    have ew : isWide (.tup l) 6 6 = decide (l.length = 6) := wide_len (n := 6)
    by_cases hl : l.length = 6
    · obtain ⟨a, b, c, d, e, f, rfl⟩ : ∃ a b c d e f, l = [a, b, c, d, e, f] := by
        match l, hl with
        | [a, b, c, d, e, f], _ => exact ⟨a, b, c, d, e, f, rfl⟩
      have gl := (gd_tup hv).2
      have g : ∀ x ∈ [a, b, c, d, e, f], gdB N x = true := gds_mem gl
      have dl := dep_tup hd
      rw [decide_eq_true hl] at ew
      have ix : ixF (.val (.tup [a, b, c, d, e, f])) (.val (.int 5)) = some (.val f) := rfl
      have sl : slF (.val (.tup [a, b, c, d, e, f])) none (some 5) = some (.val (.tup [a, b, c, d, e])) := rfl
      have w2 : ∀ x ws st, gdB N x = true → gws ws → F2 [x, .lst (sts ws)] st = .ok (.val (.bl (isWord x ws))) st := fun x ws st hx hw => h2 x ws N st hx hw
      have hi := isiF_of .bool (.val f) (ty_gd (g f (by simp)))
      have hA : isHabit (.tup [a, b, c, d, e, f]) = (wordsOk [a, b, c, d, e] chs && isTk .bool f) := rfl
      have t3 : ∀ st, F3 [] st = .ok (.own (.lst tableD)) st := h3
      cases hf : isTk .bool f with
      | false => simp_arith! [w, ew, ix, hi, hf, hA, Bool.and_false]
      | true =>
        have pr : ∀ q ∈ [a, b, c, d, e].zip chs, gdB N q.1 = true ∧ gws q.2 ∧ dep q.1 < 60 := fun q hq => by
          obtain ⟨k1, k2⟩ := List.of_mem_zip (a := q.1) (b := q.2) hq
          have m : q.1 ∈ [a, b, c, d, e, f] := by
            simp only [List.mem_cons, List.not_mem_nil, or_false] at k1 ⊢
            rcases k1 with h | h | h | h | h <;> simp [h]
          have gc : ∀ ws ∈ chs, gws ws := by unfold gws; decide +kernel
          exact ⟨g _ m, gc _ k2, Nat.lt_of_le_of_lt (deps_mem m) dl⟩
        have hz : fZip [.tup [a, b, c, d, e], .lst tableD] = some (([a, b, c, d, e].zip chs).map fun q => .tup [q.1, .lst (sts q.2)]) := rfl
        have hc : eComp [1, 2] (eWalk fZip (argD (eSlc (eBor 0) (retM none) (partF (eLit (.int 5)))) (argD (eFn F3 (retM [])) (retM [])))) (gTupM 2 (gsCons (asgM 1) (gsCons (asgM 2) gsNil))) (tNotM (tVal (eFn F2 (argD (eLoc 1) (argD (eLoc 2) (retM [])))))) (eLoc 1) ⟨[.val (.tup [a, b, c, d, e, f]), .un, .un], st⟩
            = .ok (.own (.lst ((([a, b, c, d, e].zip chs).filter fun q => !isWord q.1 q.2).map fun q => q.1))) ⟨[.val (.tup [a, b, c, d, e, f]), .un, .un], st⟩ := by
          refine (eComp_on (fun q : D × List Str => .tup [q.1, .lst (sts q.2)]) (fun q => !isWord q.1 q.2) (fun q => q.1) ([a, b, c, d, e].zip chs) (s1 := ⟨[.val (.tup [a, b, c, d, e, f]), .un, .un], st⟩) ?_ (by show 5 ≤ LIM; decide) fun q hq => ⟨[.val (.tup [a, b, c, d, e, f]), .val q.1, .val (.lst (sts q.2))], rfl, rfl, ?_, fun _ => rfl⟩).trans rfl
          · simp_arith! [sl, t3, hz]
          · obtain ⟨k1, k2, _⟩ := pr q hq
            simp_arith! [w2 _ _ _ k1 k2]
        have hN2 := eqF_nil (N := N) (l := (([a, b, c, d, e].zip chs).filter fun q => !isWord q.1 q.2).map fun q => q.1) (gds_of fun x hx => by
          obtain ⟨q, hq, rfl⟩ := List.mem_map.mp hx
          exact (pr q (List.mem_filter.mp hq).1).1) (by
          have := deps_le (n := 60) (l := (([a, b, c, d, e].zip chs).filter fun q => !isWord q.1 q.2).map fun q => q.1) fun x hx => by
            obtain ⟨q, hq, rfl⟩ := List.mem_map.mp hx
            exact Nat.le_of_lt (pr q (List.mem_filter.mp hq).1).2.2
          omega)
        have hE : ((([a, b, c, d, e].zip chs).filter fun q => !isWord q.1 q.2).map fun q => q.1).isEmpty = wordsOk [a, b, c, d, e] chs := by
          rw [List.isEmpty_map, filter_isEmpty]
          rfl
        rw [hA, ← hE]
        simp_arith! [w, ew, ix, hi, hf, hc, hN2, Bool.and_true]
    · rw [decide_eq_false hl] at ew
      have eh : isHabit (.tup l) = false := by
        unfold isHabit
        split
        · rename_i e
          cases e
          exact absurd rfl hl
        · rfl
      simp_arith! [w, ew, eh]
  | dct _ => cases hv
  | ref _ => cases hv
  | _ => simp_arith! [w, isWide, isHabit]
end Pn


/-! P7 -/
set_option Elab.async false
set_option linter.all false
set_option maxRecDepth 100000
namespace Pn
open PySem PySem.Spec PyProof.Rows L2 Dn
def allT2 : List (Str × Str) := allT
def Sp_law_sure (F : FT) : Prop := ∀ (l z : Str) (b : Bool) st, l ∈ lks → z ∈ allSp → F [.str l, .tup [.str z, .bl b]] st = .ok (.val (.bl (sure l z b))) st
theorem ls_all : (fun (b : Bool) (st : List SO) => allT.map fun q => funF 4 2 n__law_sure [.str q.1, .tup [.str q.2, .bl b]] st) = fun b st => allT.map fun q => .ok (.val (.bl (sure q.1 q.2 b))) st := by kernel_rfl
theorem sp_law_sure : Sp_law_sure (funF 4 2 n__law_sure) := by
  intro l z b st hl hz
  have h := congrFun (congrFun ls_all b) st
  have hm : (l, z) ∈ allT := List.mem_flatMap.mpr ⟨l, hl, List.mem_map.mpr ⟨z, hz, rfl⟩⟩
  exact List.map_inj_left.mp h (l, z) hm
def Sp_law_good_house (F : FT) : Prop := ∀ (v : D) N st, N ≤ LIM → gdB N v = true → dep v ≤ 60 → F [v] st = .ok (.val (.bl (isKit v))) st
theorem sp_law_good_house {F1 F2 F3 F4 : FT} (h1 : Sp_law_wide F1) (h2 : Sp_law_whole F2) (h3 : Sp_law_among F3) (h4 : Sp_law_good_habit F4) : Sp_law_good_house (funF 2 1 (n__law_good_house F1 F2 F3 F4)) := by
  intro v N st hN hv hd
  refine (funF_ap rfl).trans ?_
  unfold n__law_good_house
  have w := fun st => h1 v 3 3 st (ty_gd hv)
  cases v with
  | tup l =>
    have ew : isWide (.tup l) 3 3 = decide (l.length = 3) := wide_len (n := 3)
    by_cases hl : l.length = 3
    · obtain ⟨a, b, c, rfl⟩ : ∃ a b c, l = [a, b, c] := by
        match l, hl with
        | [a, b, c], _ => exact ⟨a, b, c, rfl⟩
      obtain ⟨ga, gb, gc⟩ := gd3 hv
      have dl := dep_tup hd
      have dc : dep c < 60 := Nat.lt_of_le_of_lt (deps_mem (l := [a, b, c]) (by simp)) dl
      rw [decide_eq_true hl] at ew
      have i0 : ixF (.val (.tup [a, b, c])) (.val (.int 0)) = some (.val a) := rfl
      have i1 : ixF (.val (.tup [a, b, c])) (.val (.int 1)) = some (.val b) := rfl
      have i2 : ixF (.val (.tup [a, b, c])) (.val (.int 2)) = some (.val c) := rfl
      have q1 : gws sgs := by unfold gws; decide +kernel
      have w1 := fun st => h2 a 1 3 st (ty_gd ga)
      have w2 : ∀ st, F3 [b, .lst [.str "hand", .str "none", .str "own"]] st = .ok (.val (.bl (isWord b sgs))) st := fun st => h3 b sgs N st gb q1
      have w3 := fun st => h1 c 1 3 st (ty_gd gc)
      cases e1 : isWhole a 1 3 with
      | false =>
        have eh : isKit (.tup [a, b, c]) = false := by cases c <;> first | rfl | (rw [isKit_tup, e1]; rfl)
        simp_arith! [w, ew, i0, i1, i2, w1, e1, eh]
      | true =>
        cases e2 : isWord b sgs with
        | false =>
          have eh : isKit (.tup [a, b, c]) = false := by cases c <;> first | rfl | (rw [isKit_tup, e2, Bool.and_false]; rfl)
          simp_arith! [w, ew, i0, i1, i2, w1, w2, e1, e2, eh]
        | true =>
          cases c with
          | tup ps =>
            obtain ⟨hp, gp⟩ := gd_tup gc
            have dp := dep_tup (Nat.le_of_lt dc)
            have e3 : isWide (.tup ps) 1 3 = (decide (1 ≤ ps.length) && decide (ps.length ≤ 3)) := by
              show (decide ((1 : Int) ≤ (ps.length : Int)) && decide ((ps.length : Int) ≤ 3)) = _
              congr 2 <;> exact propext (by omega)
            have eh : isKit (.tup [a, b, .tup ps]) = (isWide (.tup ps) 1 3 && ps.all isHabit) := by
              rw [isKit_tup, e1, e2, e3]
              simp
            have hc : ∀ st, eComp [1] (eIter (eBin ixM (eBor 0) (eLit (.int 2)))) (asgM 1) (tNotM (tVal (eFn F4 (argD (eLoc 1) (retM []))))) (eLoc 1) ⟨[.val (.tup [a, b, .tup ps]), .un], st⟩ = .ok (.own (.lst ((ps.filter fun p => !isHabit p).map id))) ⟨[.val (.tup [a, b, .tup ps]), .un], st⟩ := fun st => by
              refine (eComp_pure (fun p => !isHabit p) id (s1 := ⟨[.val (.tup [a, b, .tup ps]), .un], st⟩) (ds := ps) ?_ (by omega) fun d hd => ⟨[.val (.tup [a, b, .tup ps]), .val d], rfl, rfl, ?_, fun _ => rfl⟩).trans rfl
              · simp_arith! [i2]
                rfl
              · simp_arith! [h4 d N st hN (gds_mem gp d hd) (Nat.le_trans (deps_mem hd) (by omega))]
            have hn := eqF_nil (N := N) (l := (ps.filter fun p => !isHabit p).map id) (by rw [List.map_id]; exact gds_sub _ gp) (by rw [List.map_id]; exact Nat.lt_of_le_of_lt (deps_sub _) (by omega))
            have hE : ((ps.filter fun p => !isHabit p).map id).isEmpty = ps.all isHabit := by rw [List.map_id, filter_isEmpty]
            rw [eh, ← hE]
            cases e4 : isWide (.tup ps) 1 3 <;> simp_arith! [w, ew, i0, i1, i2, w1, w2, w3, e1, e2, e4, hc, hn, Bool.true_and, Bool.false_and]
          | dct _ => cases gc
          | ref _ => cases gc
          | _ => simp_arith! [w, ew, i0, i1, i2, w1, w2, w3, isWide, Bool.and_true, e1, e2, isKit]
    · rw [decide_eq_false hl] at ew
      have eh : isKit (.tup l) = false := by
        unfold isKit
        split
        · rename_i e
          cases e
          exact absurd rfl hl
        · rfl
      simp_arith! [w, ew, eh]
  | dct _ => cases hv
  | ref _ => cases hv
  | _ => simp_arith! [w, isWide, isKit]

def Sp_law_good_spot (F : FT) : Prop := ∀ (n : Int) (sg : Str) (k : List D) (v : D) N st, 1 ≤ N → N ≤ LIM → gdB N v = true → F [.tup (.int n :: .str sg :: k), v] st = .ok (.val (.bl (isStand n sg v))) st
theorem isMark_iff (c : Nat) : isMark c = decide (c ∈ [46, 99, 100]) := by
  by_cases h : c ∈ [46, 99, 100]
  · rw [decide_eq_true h]
    simp only [List.mem_cons, List.not_mem_nil, or_false] at h
    rcases h with rfl | rfl | rfl <;> decide +kernel
  · rw [decide_eq_false h]
    cases e : isMark c with
    | false => rfl
    | true => exact absurd (by rcases isMark_cases e with rfl | rfl | rfl <;> simp) h
theorem occ_mark (c : Nat) : inE (.str ⟨#[c]⟩) (.str ".cd") = some (isMark c) := by
  show some (!(Builtin.Str.occurrences ".cd" ⟨#[c]⟩ 0 (Str.length ".cd") 1).isEmpty) = _
  rw [StrLaws.found_one, isMark_iff]
  rfl
theorem sp_law_good_spot {F1 : FT} (h1 : Sp_law_wide F1) : Sp_law_good_spot (funF 3 2 (n__law_good_spot F1)) := by
  intro n sg k v N st hN1 hN hv
  refine (funF_ap rfl).trans ?_
  unfold n__law_good_spot
  have w := fun st => h1 v 2 2 st (ty_gd hv)
  cases v with
  | tup l =>
    have ew : isWide (.tup l) 2 2 = decide (l.length = 2) := wide_len (n := 2)
    by_cases hl : l.length = 2
    · obtain ⟨a, b, rfl⟩ : ∃ a b, l = [a, b] := by
        match l, hl with
        | [a, b], _ => exact ⟨a, b, rfl⟩
      obtain ⟨ga, gb⟩ := gd2 hv
      rw [decide_eq_true hl] at ew
      have i0 : ixF (.val (.tup [a, b])) (.val (.int 0)) = some (.val a) := rfl
      have i1 : ixF (.val (.tup [a, b])) (.val (.int 1)) = some (.val b) := rfl
      have j0 : ixF (.val (.tup (.int n :: .str sg :: k))) (.val (.int 0)) = some (.val (.int n)) := ix_tup (j := 0) rfl
      have j1 : ixF (.val (.tup (.int n :: .str sg :: k))) (.val (.int 1)) = some (.val (.str sg)) := ix_tup (j := 1) rfl
      cases a with
      | str z =>
        obtain ⟨hz, hc⟩ := gd_str ga
        cases b with
        | bl b =>
          have hcm : ∀ st, eComp [2] (eIter (eBin ixM (eBor 1) (eLit (.int 0)))) (asgM 2) (tVal (eBin (cmpD .NotIn) (eBor 2) (eLit (.str ".cd")))) (eLoc 2) ⟨[.val (.tup (.int n :: .str sg :: k)), .val (.tup [.str z, .bl b]), .un], st⟩ = .ok (.own (.lst ((z.cps.toList.filter fun c => !isMark c).map fun c => .str ⟨#[c]⟩))) ⟨[.val (.tup (.int n :: .str sg :: k)), .val (.tup [.str z, .bl b]), .un], st⟩ := fun st => by
            refine (eComp_on (fun c : Nat => D.str ⟨#[c]⟩) (fun c => !isMark c) (fun c => D.str ⟨#[c]⟩) z.cps.toList (s1 := ⟨[.val (.tup (.int n :: .str sg :: k)), .val (.tup [.str z, .bl b]), .un], st⟩) ?_ ?_ fun c hd => ⟨[.val (.tup (.int n :: .str sg :: k)), .val (.tup [.str z, .bl b]), .val (.str ⟨#[c]⟩)], rfl, rfl, ?_, fun _ => rfl⟩).trans rfl
            · simp_arith! [i0]
              rfl
            · rw [Array.length_toList]
              exact Nat.le_trans hz hN
            · simp_arith! [inF_t (x := .val _) (y := .val _) (occ_mark c)]
          have hn := eqF_nil (N := N) (l := (z.cps.toList.filter fun c => !isMark c).map fun c => .str ⟨#[c]⟩) (gds_of fun d hd => by
            obtain ⟨c, hcm, rfl⟩ := List.mem_map.mp hd
            exact gd_chr (of_decide_eq_true (List.all_eq_true.mp hc c (List.mem_filter.mp hcm).1)) hN1) (by
            have := deps_le (n := 0) (l := (z.cps.toList.filter fun c => !isMark c).map fun c => D.str ⟨#[c]⟩) fun d hd => by
              obtain ⟨c, _, rfl⟩ := List.mem_map.mp hd
              exact Nat.zero_le _
            omega)
          have hE : ((z.cps.toList.filter fun c => !isMark c).map fun c => D.str ⟨#[c]⟩).isEmpty = z.cps.toList.all isMark := by rw [List.isEmpty_map, filter_isEmpty]
          rw [isStand_str, ← hE]
          cases e1 : decide ((z.length : Int) = n) with
          | false => simp_arith! [w, ew, i0, i1, j0, fLen_str (Nat.le_trans hz hN), e1, Bool.false_and, Bool.and_true]
          | true => cases e3 : decide (sg = "none") <;> cases b <;> simp_arith! [w, ew, i0, i1, j0, j1, fLen_str (Nat.le_trans hz hN), e1, e3, hcm, hn, Bool.true_and, Bool.and_true, Bool.and_false, Bool.true_or, Bool.false_or, Bool.or_true, Bool.or_false]
        | dct _ => cases gb
        | ref _ => cases gb
        | _ => simp_arith! [w, ew, i0, i1, isStand]
      | dct _ => cases ga
      | ref _ => cases ga
      | _ => simp_arith! [w, ew, i0, i1, isStand]
    · rw [decide_eq_false hl] at ew
      have eh : isStand n sg (.tup l) = false := by
        unfold isStand
        split
        · rename_i e
          cases e
          exact absurd rfl hl
        · rfl
      simp_arith! [w, ew, eh]
  | dct _ => cases hv
  | ref _ => cases hv
  | _ => simp_arith! [w, isWide, isStand]
end Pn


/-! P8 -/
set_option Elab.async false
set_option linter.all false
set_option maxRecDepth 100000
namespace Pn
open PySem PySem.Spec PyProof.Rows L2 Dn
/-- which class is under which -/
structure SbOk (sb : Str → Str → Option Bool) : Prop where
  kk : sb "InvalidKitchen" "InvalidKitchen" = some true
  sk : sb "InvalidStand" "InvalidKitchen" = some false
  ss : sb "InvalidStand" "InvalidStand" = some true
  nk : sb "InvalidNumber" "InvalidKitchen" = some false
  ns : sb "InvalidNumber" "InvalidStand" = some false
  nn : sb "InvalidNumber" "InvalidNumber" = some true
def outcomeR (n : Int) (sg : Str) (ps : List D) (v num : D) (st : List SO) : RF := match believeR n sg ps v num st with
  | .ok r st => .ok r st
  | .exc x st => .ok (.val (.str (if x.cls = "InvalidStand" then "stand!" else "number!"))) st
  | .stuck => .stuck
def Sp_law_outcome (F : FT) : Prop := (∀ (k v num : D) N st, N ≤ LIM → gdB N k = true → isKit k = false → F [k, v, num] st = .ok (.val (.str "kitchen!")) st) ∧
  ∀ (n : Int) (sg : Str) (ps : List D) (v num : D) N M st, N ≤ LIM → gdB N (.tup [.int n, .str sg, .tup ps]) = true → isKit (.tup [.int n, .str sg, .tup ps]) = true → 1 ≤ M → M ≤ LIM → gdB M v = true → (tyD num).isSome = true →
    (isStand n sg v = false → F [.tup [.int n, .str sg, .tup ps], v, num] st = .ok (.val (.str "stand!")) st) ∧
    (isStand n sg v = true → isWhole num 0 ((ps.length : Int) - 1) = false → F [.tup [.int n, .str sg, .tup ps], v, num] st = .ok (.val (.str "number!")) st) ∧
    (∀ d, believeR n sg ps v num st = .ok (.val d) st → F [.tup [.int n, .str sg, .tup ps], v, num] st = .ok (.val d) st)
theorem sp_law_outcome {sb : Str → Str → Option Bool} {F1 : FT} (hs : SbOk sb) (h1 : Sp_believes F1) : Sp_law_outcome (funF 3 3 (n__law_outcome sb F1)) := by
  constructor
  · intro k v num N st hN hk e
    refine (funF_ap rfl).trans ?_
    unfold n__law_outcome
    simp_arith! [h1.1 k v num N _ hN hk e, exR, findH, hs.kk]
  · intro n sg ps v num N M st hN hk e hM1 hM hv hnum
    have hb := h1.2 n sg ps v num N M st hN hk e hM1 hM hv hnum
    refine ⟨fun e1 => ?_, fun e1 e2 => ?_, fun d hd => ?_⟩
    · have hB : believeR n sg ps v num st = exR "InvalidStand" st := by
        unfold believeR
        rw [e1, if_neg Bool.false_ne_true]
      refine (funF_ap rfl).trans ?_
      unfold n__law_outcome
      simp_arith! [hb, hB, exR, findH, hs.sk, hs.ss]
    · have hB : believeR n sg ps v num st = exR "InvalidNumber" st := by
        unfold believeR
        rw [e1, if_pos rfl, e2, if_neg Bool.false_ne_true]
      refine (funF_ap rfl).trans ?_
      unfold n__law_outcome
      simp_arith! [hb, hB, exR, findH, hs.nk, hs.ns, hs.nn]
    · refine (funF_ap rfl).trans ?_
      unfold n__law_outcome
      simp_arith! [hb, hd]
def Sp_law_refused (F : FT) : Prop := ∀ (k : D) N st, N ≤ LIM → gdB N k = true → F [k] st = .ok (.val (.bl (!isKit k))) st
theorem sp_law_refused {sb : Str → Str → Option Bool} {F1 : FT} (hs : SbOk sb) (h1 : Sp_is_stand F1) : Sp_law_refused (funF 1 1 (n__law_refused sb F1)) := by
  intro k N st hN hk
  refine (funF_ap rfl).trans ?_
  unfold n__law_refused
  cases e : isKit k with
  | false => simp_arith! [h1.1 k .non N _ hN hk e, exR, findH, hs.kk]
  | true =>
    obtain ⟨n, sg, ps, rfl, _⟩ := kit_form e
    simp_arith! [h1.2 n sg ps .non N 1 _ hN hk e (by decide) (by decide) rfl]
end Pn


/-! Q1 -/
set_option Elab.async false
set_option linter.all false
set_option maxRecDepth 100000
namespace Dn
open PySem PySem.Spec PyProof.Rows L2
/-! shared lists -/
def ixR (i : Option Int) : Option SO → S → Res R
  | some (.lst l), s => match i with
    | some i => optM ((L2.atI l i).map R.val) s
    | none => .stuck
  | _, _ => .stuck
theorem ixM_ref {n : Nat} {b : R} {e : List Slot} {st : List SO} : ixM (.val (.ref n)) b ⟨e, st⟩ = ixR (asInt b.d) st[n]? ⟨e, st⟩ := by
  show (match st[n]?, asInt b.d with
    | some (.lst l), some i => match L2.atI l i with
      | some d => Res.ok (R.val d) ⟨e, st⟩
      | none => .stuck
    | _, _ => .stuck) = _
  cases st[n]? with
  | none => rfl
  | some o =>
    cases o with
    | lst l =>
      cases asInt b.d with
      | none => rfl
      | some i =>
        show (match L2.atI l i with
          | some d => Res.ok (R.val d) ⟨e, st⟩
          | none => .stuck) = optM ((L2.atI l i).map R.val) ⟨e, st⟩
        cases L2.atI l i <;> rfl
    | ins _ _ => rfl
theorem ixR_lst {i : Int} {l : List D} {s : S} : ixR (some i) (some (.lst l)) s = optM ((L2.atI l i).map R.val) s := rfl
theorem sPut_ap {i : Nat} {fe fi : M R} {s : S} : sPut i fe fi s = ((fe s).bd escF).bd fun d s1 => (chkM i s1).bd fun _ s2 => (fi s2).bd fun ix s3 => (modL i (putF ix d) s3).bd fun _ s4 => .ok .nx s4 := rfl
def chkO : Option Slot → S → Res Unit
  | some (.own _), s => .ok () s
  | some (.val _), s => .ok () s
  | _, _ => .stuck
theorem chkM_ap {i : Nat} {e : List Slot} {st : List SO} : chkM i ⟨e, st⟩ = chkO e[i]? ⟨e, st⟩ := by
  unfold chkM chkO
  rcases e[i]? with _ | (_ | _ | _) <;> rfl
theorem chkO_val {d : D} {s : S} : chkO (some (.val d)) s = .ok () s := rfl
theorem chkO_own {d : D} {s : S} : chkO (some (.own d)) s = .ok () s := rfl
def setO (n : Nat) : Option (List D) → S → Res Unit
  | some l, s => .ok () { s with st := s.st.set n (.lst l) }
  | none, _ => .stuck
def refO (f : List D → Option (List D)) (n : Nat) : Option SO → S → Res Unit
  | some (.lst l), s => setO n (f l) s
  | _, _ => .stuck
def setL (i : Nat) : Option (List D) → S → Res Unit
  | some l, s => .ok () { s with env := s.env.set i (.own (.lst l)) }
  | none, _ => .stuck
def modO (i : Nat) (f : List D → Option (List D)) : Option Slot → S → Res Unit
  | some (.own (.lst l)), s => setL i (f l) s
  | some (.val (.ref n)), s => refO f n s.st[n]? s
  | _, _ => .stuck
theorem modL_ap {i : Nat} {f : List D → Option (List D)} {e : List Slot} {st : List SO} : modL i f ⟨e, st⟩ = modO i f e[i]? ⟨e, st⟩ := by
  unfold modL modO
  rcases e[i]? with _ | (_ | d | d)
  · rfl
  · rfl
  · cases d with
    | ref n =>
      show (match st[n]? with
        | some (.lst l) => match f l with
          | some l' => Res.ok () (⟨e, st.set n (.lst l')⟩ : S)
          | none => .stuck
        | _ => .stuck) = refO f n st[n]? ⟨e, st⟩
      rcases st[n]? with _ | (l | _)
      · rfl
      · show (match f l with
          | some l' => Res.ok () (⟨e, st.set n (.lst l')⟩ : S)
          | none => .stuck) = setO n (f l) ⟨e, st⟩
        cases f l <;> rfl
      · rfl
    | _ => rfl
  · cases d with
    | lst l =>
      show (match f l with
        | some l' => Res.ok () (⟨e.set i (.own (.lst l')), st⟩ : S)
        | none => .stuck) = setL i (f l) ⟨e, st⟩
      cases f l <;> rfl
    | _ => rfl
theorem modO_ref {i n : Nat} {f : List D → Option (List D)} {e : List Slot} {st : List SO} : modO i f (some (.val (.ref n))) ⟨e, st⟩ = refO f n st[n]? ⟨e, st⟩ := rfl
theorem modO_own {i : Nat} {f : List D → Option (List D)} {l : List D} {s : S} : modO i f (some (.own (.lst l))) s = setL i (f l) s := rfl
theorem refO_lst {f : List D → Option (List D)} {n : Nat} {l : List D} {s : S} : refO f n (some (.lst l)) s = setO n (f l) s := rfl
theorem setO_some {n : Nat} {l : List D} {e : List Slot} {st : List SO} : setO n (some l) ⟨e, st⟩ = .ok () ⟨e, st.set n (.lst l)⟩ := rfl
theorem setL_some {i : Nat} {l : List D} {e : List Slot} {st : List SO} : setL i (some l) ⟨e, st⟩ = .ok () ⟨e.set i (.own (.lst l)), st⟩ := rfl
theorem put0 {a : D} {l : List D} {d : D} : putF (.val (.int 0)) d (a :: l) = some (d :: l) := by
  unfold putF
  show (match ixN (a :: l).length 0 with
    | some j => some ((a :: l).set j d)
    | none => none) = _
  have e : ixN (a :: l).length 0 = some 0 := by
    unfold ixN
    rw [if_pos (by decide), if_pos (by simp only [List.length_cons]; omega)]
    rfl
  rw [e]
  rfl
theorem put1 {a b : D} {l : List D} {d : D} : putF (.val (.int 1)) d (a :: b :: l) = some (a :: d :: l) := by
  unfold putF
  show (match ixN (a :: b :: l).length 1 with
    | some j => some ((a :: b :: l).set j d)
    | none => none) = _
  have e : ixN (a :: b :: l).length 1 = some 1 := by
    unfold ixN
    rw [if_pos (by decide), if_pos (by simp only [List.length_cons]; omega)]
    rfl
  rw [e]
  rfl
end Dn
namespace Pn
open PySem PySem.Spec PyProof.Rows L2 Dn
/-! drawing -/
def SrcAt (st : List SO) (n : Nat) : Prop := ∃ a b : Int, st[n]? = some (.lst [.int a, .int b]) ∧ 0 ≤ b ∧ b < 2 ^ 33
/-- one source was drawn from -/
def Dr (n : Nat) (st st' : List SO) : Prop := SrcAt st' n ∧ ∃ o, st' = st.set n o
theorem Dr.trans {n : Nat} {s1 s2 s3 : List SO} (h : Dr n s1 s2) (k : Dr n s2 s3) : Dr n s1 s3 := by
  obtain ⟨_, o, rfl⟩ := h
  obtain ⟨k1, p, rfl⟩ := k
  exact ⟨k1, p, by rw [List.set_set]⟩
theorem SrcAt.lt {n : Nat} {st : List SO} (h : SrcAt st n) : n < st.length := by
  obtain ⟨a, b, e, _⟩ := h
  exact (List.getElem?_eq_some_iff.mp e).1
theorem Dr.refl {n : Nat} {st : List SO} (h : SrcAt st n) : Dr n st st := by
  refine ⟨h, ?_⟩
  obtain ⟨a, b, e, _⟩ := h
  obtain ⟨hn, e2⟩ := List.getElem?_eq_some_iff.mp e
  exact ⟨st[n], (List.set_getElem_self hn).symm⟩
def Sp_law_pick (F : FT) : Prop := ∀ (n : Nat) (m : Int) st, SrcAt st n → 0 < m → m < 1000 → ∃ i st', F [.ref n, .int m] st = .ok (.val (.int i)) st' ∧ 0 ≤ i ∧ i < m ∧ Dr n st st'
theorem fInt_int {i : Int} : Bk.int.h [.val (.int i)] = some (.val (.int i)) := rfl
theorem modF_pos {i j : Int} (h : 0 < j) : modF (.val (.int i)) (.val (.int j)) = some (.val (.int (i % j))) := by
  show (if decide (0 < j) = true then some (R.val (.int (i % j))) else none) = _
  rw [decide_eq_true h]
  rfl
theorem fdvF_pos {i j : Int} (h : 0 < j) (h2 : j < 1073741824) : fdvF (.val (.int i)) (.val (.int j)) = some (.val (.int (i / j))) := by
  show (if (decide (0 < j) && decide (j < 1073741824)) = true then some (R.val (.int (i / j))) else none) = _
  rw [decide_eq_true h, decide_eq_true h2]
  rfl
theorem mulF_right {i j : Int} (h : smallI j = true) : mulF (.val (.int i)) (.val (.int j)) = some (.val (.int (i * j))) := by
  show (if (smallI i || smallI j) = true then some (R.val (.int (i * j))) else none) = _
  rw [h, Bool.or_true]
  rfl
theorem at0 {a b : D} : L2.atI [a, b] 0 = some a := rfl
theorem at1 {a b : D} : L2.atI [a, b] 1 = some b := rfl
theorem small_of {b : Int} (h0 : -(2 ^ 64) < b) (h1 : b < 2 ^ 64) : smallI b = true := by
  unfold smallI
  rw [decide_eq_true h0, decide_eq_true h1]
  rfl
theorem sp_law_pick : Sp_law_pick (funF 3 2 n__law_pick) := by
  intro n m st hS hm hm2
  have hn := hS.lt
  obtain ⟨a, b, hst, hb, hb2⟩ := hS
  by_cases ha : a > 0
  · refine ⟨a % m, st.set n (.lst [.int (a / m), .int b]), (funF_ap rfl).trans ?_, Int.emod_nonneg _ (by omega), Int.emod_lt_of_pos _ hm, ⟨_, _, List.getElem?_set_self hn, hb, hb2⟩, _, rfl⟩
    unfold n__law_pick
    simp_arith! [ixM_ref, hst, ixR_lst, at0, at1, decide_eq_true ha, fInt_int, modF_pos hm, fdvF_pos hm (by omega), sPut_ap, chkM_ap, chkO_val, modL_ap, modO_ref, refO_lst, put0, setO_some]
  · have hb3 : (b * 44497 + 9973) % 2147483647 < 2147483647 := Int.emod_lt_of_pos _ (by decide)
    have hb4 : 0 ≤ (b * 44497 + 9973) % 2147483647 := Int.emod_nonneg _ (by decide)
    refine ⟨((b * 44497 + 9973) % 2147483647 * ((b * 44497 + 9973) % 2147483647)) % 2147483399 / 11 % m, st.set n (.lst [.int a, .int ((b * 44497 + 9973) % 2147483647)]), (funF_ap rfl).trans ?_, Int.emod_nonneg _ (by omega), Int.emod_lt_of_pos _ hm, ⟨_, _, List.getElem?_set_self hn, hb4, by omega⟩, _, rfl⟩
    unfold n__law_pick
    simp_arith! [ixM_ref, hst, ixR_lst, at0, at1, decide_eq_false ha, fInt_int, modF_pos hm, modF_pos (j := 2147483647) (by decide), modF_pos (j := 2147483399) (by decide), fdvF_pos (j := 11) (by decide) (by decide), mulF_right (j := 44497) (by decide), mulF_right (small_of (b := (b * 44497 + 9973) % 2147483647) (by omega) (by omega)), sPut_ap, chkM_ap, chkO_val, modL_ap, modO_ref, refO_lst, put1, setO_some, List.getElem?_set_self hn]
end Pn


/-! Q2 -/
set_option Elab.async false
set_option linter.all false
set_option maxRecDepth 100000
namespace Pn
open PySem PySem.Spec PyProof.Rows L2 Dn
def Sp_law_chosen (F : FT) : Prop := ∀ (n : Nat) (l : List D) st, SrcAt st n → 0 < l.length → l.length < 1000 → ∃ d st', F [.ref n, .lst l] st = .ok (.val d) st' ∧ d ∈ l ∧ Dr n st st'
theorem sp_law_chosen {F1 : FT} (h1 : Sp_law_pick F1) : Sp_law_chosen (funF 2 2 (n__law_chosen F1)) := by
  intro n l st hS h0 hl
  obtain ⟨i, st', e, i0, i1, hD⟩ := h1 n l.length st hS (by omega) (by omega)
  obtain ⟨j, rfl⟩ := Int.eq_ofNat_of_zero_le i0
  have hj : j < l.length := by omega
  refine ⟨l[j], st', (funF_ap rfl).trans ?_, List.getElem_mem hj, hD⟩
  unfold n__law_chosen
  simp_arith! [e, ix_lst (List.getElem?_eq_getElem hj)]
def Sp_law_source (F : FT) : Prop := ∀ (ns : List Int) (k : Nat) st, k < 64 → ns.length < 1000 → ∃ a b : Int, F [.lst (ns.map D.int), .int k] st = .ok (.own (.lst [.int a, .int b])) st ∧ 0 ≤ b ∧ b < 2 ^ 33
theorem powF_10 : powF (.val (.int 10)) (.val (.int 18)) = some (.val (.int (10 ^ 18))) := rfl
def stA (num : Int) : Int := if num ≥ 10 ^ 18 then num else 0
def stM (num : Int) (k : Nat) : Int := (num * 16807 + 60919 * k + 31) % 2147481173
def stB (num : Int) (k : Nat) : Int := stM num k * stM num k % 2147481151 + 2 * k + 5
theorem stM_b (num : Int) (k : Nat) : 0 ≤ stM num k ∧ stM num k < 2147481173 := ⟨Int.emod_nonneg _ (by decide), Int.emod_lt_of_pos _ (by decide)⟩
theorem stB_b (num : Int) (k : Nat) (h : k < 64) : 0 ≤ stB num k ∧ stB num k < 2 ^ 33 := by
  have h3 := Int.emod_lt_of_pos (stM num k * stM num k) (show (0 : Int) < 2147481151 by decide)
  have h4 := Int.emod_nonneg (stM num k * stM num k) (show (2147481151 : Int) ≠ 0 by decide)
  unfold stB
  constructor <;> omega
theorem src1 (num : Int) (k : Nat) : modF (.val (.int (num * 16807 + 60919 * k + 31))) (.val (.int 2147481173)) = some (.val (.int (stM num k))) := modF_pos (by decide)
theorem src2 (num : Int) (k : Nat) : mulF (.val (.int (stM num k))) (.val (.int (stM num k))) = some (.val (.int (stM num k * stM num k))) := mulF_right (small_of (by have := stM_b num k; omega) (by have := stM_b num k; omega))
theorem src3 (x : Int) : modF (.val (.int x)) (.val (.int 2147481151)) = some (.val (.int (x % 2147481151))) := modF_pos (by decide)
theorem src4 (x : Int) : mulF (.val (.int x)) (.val (.int 16807)) = some (.val (.int (x * 16807))) := mulF_right (by decide)
theorem src5 {k : Nat} (h : k < 64) (x : Int) : mulF (.val (.int x)) (.val (.int k)) = some (.val (.int (x * k))) := mulF_right (small_of (by omega) (by omega))
theorem stB_def (num : Int) (k : Nat) : stB num k = stM num k * stM num k % 2147481151 + 2 * k + 5 := rfl
theorem sla (ns : List Int) (k : Nat) (st : List SO) (hk : k < 64) (h : (ns.length : Int) > k) (hk2 : k < ns.length) (gx : (ns.map D.int)[k]? = some (.int ns[k])) :
  funF 4 2 n__law_source [.lst (ns.map D.int), .int k] st = .ok (.own (.lst [.int (stA ns[k]), .int (stB ns[k] k)])) st := by
  refine (funF_ap rfl).trans ?_
  unfold n__law_source
  rw [stB_def]
  unfold stA
  by_cases hg : ns[k] ≥ 10 ^ 18
  · rw [if_pos hg]
    simp_arith! [List.length_map, decide_eq_true h, ix_lst gx, fInt_int, src1, src2, src3, src4, src5 hk, powF_10, decide_eq_true hg]
  · rw [if_neg hg]
    simp_arith! [List.length_map, decide_eq_true h, ix_lst gx, fInt_int, src1, src2, src3, src4, src5 hk, powF_10, decide_eq_false hg]
theorem slc0 (ns : List Int) (k : Nat) (st : List SO) (hk : k < 64) (h : ¬ (ns.length : Int) > k) (num : Int) (hz : num = 0) (hg : ¬ num ≥ 10 ^ 18) (x : Int) (hx : x = stB num k) :
  funF 4 2 n__law_source [.lst (ns.map D.int), .int k] st = .ok (.own (.lst [.int num, .int x])) st := by
  refine (funF_ap rfl).trans ?_
  unfold n__law_source
  rw [← hz, hx, stB_def]
  simp_arith! [List.length_map, decide_eq_false h, fInt_int, src1, src2, src3, src4, src5 hk, powF_10, decide_eq_false hg]
theorem sp_law_source : Sp_law_source (funF 4 2 n__law_source) := by
  intro ns k st hk hns
  by_cases h : (ns.length : Int) > k
  · have hk2 : k < ns.length := by omega
    have gx : (ns.map D.int)[k]? = some (.int ns[k]) := by rw [List.getElem?_map, List.getElem?_eq_getElem hk2]; rfl
    exact ⟨stA ns[k], stB ns[k] k, sla ns k st hk h hk2 gx, (stB_b _ _ hk).1, (stB_b _ _ hk).2⟩
  · exact ⟨0, stB 0 k, slc0 ns k st hk h 0 rfl (by decide) _ rfl, (stB_b _ _ hk).1, (stB_b _ _ hk).2⟩
end Pn


/-! Ev4 -/
set_option Elab.async false
set_option linter.all false
set_option maxRecDepth 100000
namespace Dn
open PySem PySem.Spec PyProof.Rows L2
/-! ### what holds behind -/
structure Wp {α : Type} (r : Res α) (Q : α → S → Prop) [Lz Q] : Prop where
  eq : ∃ a s, r = .ok a s ∧ Q a s
structure WpF (r : RF) (Q : R → List SO → Prop) : Prop where
  eq : ∃ a st, r = .ok a st ∧ Q a st
section
variable {α β : Type} {r r' : Res α} {s : S} {Q Q' : α → S → Prop} {k : α → M β} {P : β → S → Prop}
theorem wp_ok {a : α} : Wp (.ok a s) Q = Q a s := propext ⟨fun ⟨_, _, e, q⟩ => by cases e; exact q, fun q => ⟨_, _, rfl, q⟩⟩
theorem wp_bind : Wp (r.bd k) P = Wp r fun a s => Wp (k a s) P := by
  cases r with
  | ok a s => rw [wp_ok]; rfl
  | exc x s => exact propext ⟨fun ⟨_, _, e, _⟩ => (by cases e), fun ⟨_, _, e, _⟩ => (by cases e)⟩
  | stuck => exact propext ⟨fun ⟨_, _, e, _⟩ => (by cases e), fun ⟨_, _, e, _⟩ => (by cases e)⟩
theorem Wp.mono (h : Wp r Q) (hq : ∀ a s, Q a s → Q' a s) : Wp r Q' := let ⟨a, s, e, q⟩ := h.eq; ⟨a, s, e, hq a s q⟩
theorem Wp.of_eq {a : α} (h : r = .ok a s) (q : Q a s) : Wp r Q := ⟨a, s, h, q⟩
theorem wp_ifM {b : Bool} {x y : M α} (ht : b = true → Wp (x s) Q) (hf : b = false → Wp (y s) Q) : Wp (ifM b x y s) Q := by
  cases b with
  | true => exact ht rfl
  | false => exact hf rfl
theorem wp_okB {c : Prop} [Decidable c] {x : M α} (h : c) (hx : Wp (x s) Q) : Wp (okB (decide c) x s) Q := by
  rw [okB_of h]
  exact hx
theorem wp_opt {o : Option α} {a : α} (h : o = some a) (q : Q a s) : Wp (optM o s) Q := by
  rw [h]
  exact ⟨_, _, rfl, q⟩
end
theorem WpF.mono {r : RF} {Q Q' : R → List SO → Prop} (h : WpF r Q) (hq : ∀ a s, Q a s → Q' a s) : WpF r Q' := let ⟨a, s, e, q⟩ := h.eq; ⟨a, s, e, hq a s q⟩
theorem WpF.of_eq {r : RF} {a : R} {st : List SO} {Q : R → List SO → Prop} (h : r = .ok a st) (q : Q a st) : WpF r Q := ⟨a, st, h, q⟩
/-- a call's end -/
def fnK (env : List Slot) : RF → Res R
  | .ok r st => .ok r ⟨env, st⟩
  | .exc x st => .exc x ⟨env, st⟩
  | .stuck => .stuck
theorem fnK_ok {env : List Slot} {r : R} {st : List SO} : fnK env (.ok r st) = .ok r ⟨env, st⟩ := rfl
theorem fnK_exc {env : List Slot} {x : Exc} {st : List SO} : fnK env (.exc x st) = .exc x ⟨env, st⟩ := rfl
theorem eFn_apK {F : FT} {fd : M (List D)} {e : List Slot} {st : List SO} : eFn F fd ⟨e, st⟩ = (fd ⟨e, st⟩).bd fun ds s1 => fnK s1.env (F ds s1.st) := by
  show (fd ⟨e, st⟩).bd _ = _
  congr 1
theorem wp_call {rf : RF} {P : R → List SO → Prop} {env : List Slot} {Q : R → S → Prop} (h : WpF rf P) (hq : ∀ r st, P r st → Q r ⟨env, st⟩) : Wp (fnK env rf) Q := by
  obtain ⟨a, s, e, q⟩ := h.eq
  rw [e]
  exact ⟨_, _, rfl, hq a s q⟩
def outP (Q : R → List SO → Prop) : Fl → S → Prop
  | .ret (.val d), s => Q (.val d) s.st
  | .ret (.own d), s => Q (.own d) s.st
  | .nx, s => Q (.val .non) s.st
  | _, _ => False
section
variable {Q : R → List SO → Prop} {d : D} {e : List Slot} {st : List SO}
theorem outP_val : outP Q (.ret (.val d)) ⟨e, st⟩ = Q (.val d) st := rfl
theorem outP_own : outP Q (.ret (.own d)) ⟨e, st⟩ = Q (.own d) st := rfl
theorem outP_nx : outP Q .nx ⟨e, st⟩ = Q (.val .non) st := rfl
end
theorem wpF_fun {n np : Nat} {A : M Fl} {ds : List D} {st : List SO} {Q : R → List SO → Prop} (hl : ds.length = np) (h : Wp (A ⟨ds.map .val ++ List.replicate (n - np) .un, st⟩) (outP Q)) : WpF (funF n np A ds st) Q := by
  obtain ⟨fl, s', e, q⟩ := h.eq
  rw [funF_ap hl, e]
  unfold outP at q
  split at q
  · exact ⟨_, _, rfl, q⟩
  · exact ⟨_, _, rfl, q⟩
  · exact ⟨_, _, rfl, q⟩
  · exact q.elim
/-! try -/
def trK (sub : Str → Str → Option Bool) (hs : List (Str × M Fl)) : Res Fl → Res Fl
  | .exc x s' => findH sub x s' hs
  | r => r
theorem sTry_apK {sub : Str → Str → Option Bool} {A : M Fl} {hs : List (Str × M Fl)} {s : S} : sTry sub A hs s = trK sub hs (A s) := by
  unfold sTry trK
  cases A s <;> rfl
theorem trK_ok {sub : Str → Str → Option Bool} {hs : List (Str × M Fl)} {fl : Fl} {s : S} : trK sub hs (.ok fl s) = .ok fl s := rfl
theorem trK_exc {sub : Str → Str → Option Bool} {hs : List (Str × M Fl)} {x : Exc} {s : S} : trK sub hs (.exc x s) = findH sub x s hs := rfl
theorem wp_trK {sub : Str → Str → Option Bool} {hs : List (Str × M Fl)} {r : Res Fl} {Q : Fl → S → Prop} (h : Wp r Q) : Wp (trK sub hs r) Q := by
  obtain ⟨a, s, e, q⟩ := h.eq
  rw [e]
  exact ⟨_, _, rfl, q⟩
/-! loops -/
def lpP (J : S → Prop) (Q : Fl → S → Prop) : Fl → S → Prop
  | .nx, s => J s
  | .cont, s => J s
  | .brk, s => Q .nx s
  | .ret r, s => Q (.ret r) s
section
variable {J : S → Prop} {Q : Fl → S → Prop} {s : S} {r : R}
theorem lpP_nx : lpP J Q .nx s = J s := rfl
theorem lpP_cont : lpP J Q .cont s = J s := rfl
theorem lpP_brk : lpP J Q .brk s = Q .nx s := rfl
theorem lpP_ret : lpP J Q (.ret r) s = Q (.ret r) s := rfl
end
theorem wp_loop {a : R → M Unit} {b : M Fl} {Q : Fl → S → Prop} (I : List D → S → Prop) (hn : ∀ s, I [] s → Q .nx s)
    (hc : ∀ d ds s, I (d :: ds) s → Wp (a (.val d) s) fun _ s1 => Wp (b s1) (lpP (I ds) Q)) : ∀ ds s, I ds s → Wp (loopM a b ds s) Q
  | [], s, h => ⟨_, _, rfl, hn s h⟩
  | d :: ds, s, h => by
    obtain ⟨u, s1, e1, q1⟩ := (hc d ds s h).eq
    obtain ⟨fl, s2, e2, q2⟩ := Wp.eq q1
    rw [loopM_cons, e1, rb_ok, e2, rb_ok]
    cases fl with
    | nx => exact wp_loop I hn hc ds s2 q2
    | cont => exact wp_loop I hn hc ds s2 q2
    | brk => exact ⟨_, _, rfl, q2⟩
    | ret r => exact ⟨_, _, rfl, q2⟩
/-- a loop over what stands for things -/
theorem wp_loopOn {α : Type} (mk : α → D) {a : R → M Unit} {b : M Fl} {Q : Fl → S → Prop} (I : List α → S → Prop) (hn : ∀ s, I [] s → Q .nx s)
    (hc : ∀ x xs s, I (x :: xs) s → Wp (a (.val (mk x)) s) fun _ s1 => Wp (b s1) (lpP (I xs) Q)) : ∀ xs s, I xs s → Wp (loopM a b (xs.map mk) s) Q
  | [], s, h => ⟨_, _, rfl, hn s h⟩
  | x :: xs, s, h => by
    obtain ⟨u, s1, e1, q1⟩ := (hc x xs s h).eq
    obtain ⟨fl, s2, e2, q2⟩ := Wp.eq q1
    rw [List.map_cons, loopM_cons, e1, rb_ok, e2, rb_ok]
    cases fl with
    | nx => exact wp_loopOn mk I hn hc xs s2 q2
    | cont => exact wp_loopOn mk I hn hc xs s2 q2
    | brk => exact ⟨_, _, rfl, q2⟩
    | ret r => exact ⟨_, _, rfl, q2⟩
/-! comprehensions -/
def cmP (is : List Nat) (env : List Slot) (te : M R) (acc : List D) (J : List D → List SO → Prop) : Bool → S → Prop
  | true, s => Wp ((te s).bd escF) fun y s3 => acc.length < LIM ∧ wipeE s3.env is = env ∧ J (acc ++ [y]) s3.st
  | false, s => wipeE s.env is = env ∧ J acc s.st
section
variable {is : List Nat} {env : List Slot} {te : M R} {acc : List D} {J : List D → List SO → Prop} {s : S}
theorem cmP_true : cmP is env te acc J true s = Wp ((te s).bd escF) fun y s3 => acc.length < LIM ∧ wipeE s3.env is = env ∧ J (acc ++ [y]) s3.st := rfl
theorem cmP_false : cmP is env te acc J false s = (wipeE s.env is = env ∧ J acc s.st) := rfl
end
theorem wp_compM {α : Type} (mk : α → D) {is : List Nat} {a : R → M Unit} {tt : M Bool} {te : M R} {env : List Slot} {Q : List D → S → Prop} (I : List α → List D → List SO → Prop) (hn : ∀ acc st, I [] acc st → Q acc ⟨env, st⟩)
    (hc : ∀ x xs acc st, I (x :: xs) acc st → Wp (a (.val (mk x)) ⟨env, st⟩) fun _ s1 => Wp (tt s1) (cmP is env te acc (I xs))) : ∀ xs acc st, I xs acc st → Wp (compM is a tt te (xs.map mk) acc ⟨env, st⟩) Q
  | [], acc, st, h => ⟨_, _, rfl, hn acc st h⟩
  | x :: xs, acc, st, h => by
    obtain ⟨u, s1, e1, q1⟩ := (hc x xs acc st h).eq
    obtain ⟨b, s2, e2, q2⟩ := Wp.eq q1
    rw [List.map_cons, compM_cons, e1, rb_ok, e2, rb_ok]
    cases b with
    | false =>
      obtain ⟨e3, h2⟩ := q2
      rw [ifM_false]
      show Wp (compM is a tt te (xs.map mk) acc ⟨wipeE s2.env is, s2.st⟩) Q
      rw [e3]
      exact wp_compM mk I hn hc xs acc s2.st h2
    | true =>
      obtain ⟨y, s3, e3, hl, e4, h2⟩ := Wp.eq q2
      rw [ifM_true]
      show Wp (((te s2).bd escF).bd _) Q
      rw [e3, rb_ok, okB_of hl]
      show Wp (compM is a tt te (xs.map mk) (acc ++ [y]) ⟨wipeE s3.env is, s3.st⟩) Q
      rw [e4]
      exact wp_compM mk I hn hc xs (acc ++ [y]) s3.st h2
theorem wp_cmpK {is : List Nat} {env : List Slot} {r : Res (List D)} {Q : R → S → Prop} (h : Wp r fun acc s' => Q (.own (.lst acc)) ⟨mergeE env s'.env is, s'.st⟩) : Wp (cmpK is env r) Q := by
  obtain ⟨a, s, e, q⟩ := h.eq
  rw [e]
  exact ⟨_, _, rfl, q⟩
/-- a comprehension over what stands for things, each of which is drawn -/
theorem wp_comp {α : Type} (mk : α → D) {is : List Nat} {a : R → M Unit} {tt : M Bool} {te : M R} {env : List Slot} {Q : R → S → Prop} (I : List α → List D → List SO → Prop) {xs : List α} {st : List SO} (hi : I xs [] st)
    (hn : ∀ acc st, I [] acc st → Q (.own (.lst acc)) ⟨mergeE env (wipeE env is) is, st⟩)
    (hc : ∀ x xs acc st, I (x :: xs) acc st → Wp (a (.val (mk x)) ⟨wipeE env is, st⟩) fun _ s1 => Wp (tt s1) (cmP is (wipeE env is) te acc (I xs))) : Wp (cmpK is env (compM is a tt te (xs.map mk) [] ⟨wipeE env is, st⟩)) Q :=
  wp_cmpK (wp_compM (Q := fun acc s' => Q (.own (.lst acc)) ⟨mergeE env s'.env is, s'.st⟩) mk I (fun acc st h => hn acc st h) hc xs [] st hi)
end Dn
namespace Dn
open PySem PySem.Spec PyProof.Rows L2
theorem wp_and {b c : Bool} {x : M Bool} {s : S} {Q : Bool → S → Prop} (hx : b = true → x s = .ok c s) (q : Q (b && c) s) : Wp (ifM b x (retM false) s) Q := by
  cases b with
  | true => rw [ifM_true, hx rfl]; exact ⟨_, _, rfl, q⟩
  | false => exact ⟨_, _, rfl, q⟩
theorem wp_or {b c : Bool} {x : M Bool} {s : S} {Q : Bool → S → Prop} (hx : b = false → x s = .ok c s) (q : Q (b || c) s) : Wp (ifM b (retM true) x s) Q := by
  cases b with
  | false => rw [ifM_false, hx rfl]; exact ⟨_, _, rfl, q⟩
  | true => exact ⟨_, _, rfl, q⟩
end Dn
namespace Dn
open PySem PySem.Spec PyProof.Rows L2
/-- a loop that keeps J, over things of which P holds -/
theorem wp_each {α : Type} (mk : α → D) {a : R → M Unit} {b : M Fl} {Q : Fl → S → Prop} {P : α → Prop} (J : S → Prop) (hn : ∀ s, J s → Q .nx s)
    (hc : ∀ x s, P x → J s → Wp (a (.val (mk x)) s) fun _ s1 => Wp (b s1) (lpP J Q)) {xs : List α} (hp : ∀ x ∈ xs, P x) {s : S} (hs : J s) : Wp (loopM a b (xs.map mk) s) Q :=
  wp_loopOn mk (fun xs s => (∀ x ∈ xs, P x) ∧ J s) (fun s h => hn s h.2) (fun x xs s h => (hc x s (h.1 x (by simp)) h.2).mono fun _ s1 h1 => Wp.mono h1 fun fl s2 h2 => by
    have h3 : ∀ y ∈ xs, P y := fun y hy => h.1 y (by simp [hy])
    cases fl with
    | nx => exact ⟨h3, h2⟩
    | cont => exact ⟨h3, h2⟩
    | brk => exact h2
    | ret r => exact h2) xs s ⟨hp, hs⟩
theorem wp_eachD {a : R → M Unit} {b : M Fl} {Q : Fl → S → Prop} {P : D → Prop} (J : S → Prop) (hn : ∀ s, J s → Q .nx s)
    (hc : ∀ x s, P x → J s → Wp (a (.val x) s) fun _ s1 => Wp (b s1) (lpP J Q)) {xs : List D} (hp : ∀ x ∈ xs, P x) {s : S} (hs : J s) : Wp (loopM a b xs s) Q := by
  have h := wp_each (fun d : D => d) (P := P) J hn hc hp hs
  rw [List.map_id'] at h
  exact h
/-! append -/
def chkLO : Option Slot → S → Res Unit
  | some (.own (.lst _)), s => .ok () s
  | some (.val (.ref n)), s => match s.st[n]? with
    | some (.lst _) => .ok () s
    | _ => .stuck
  | _, _ => .stuck
theorem chkL_ap {i : Nat} {e : List Slot} {st : List SO} : chkL i ⟨e, st⟩ = chkLO e[i]? ⟨e, st⟩ := by
  unfold chkL chkLO
  rcases e[i]? with _ | (_ | d | d)
  · rfl
  · rfl
  · cases d <;> rfl
  · cases d <;> rfl
theorem chkLO_own {l : List D} {s : S} : chkLO (some (.own (.lst l))) s = .ok () s := rfl
def appF (d : D) (l : List D) : Option (List D) := if l.length < LIM then some (l ++ [d]) else none
theorem appF_ok {d : D} {l : List D} (h : l.length < LIM) : appF d l = some (l ++ [d]) := if_pos h
theorem sApp_ap {i : Nat} {fe : M R} {s : S} : sApp i fe s = (chkL i s).bd fun _ s1 => ((fe s1).bd escF).bd fun d s2 => (modL i (appF d) s2).bd fun _ s3 => .ok .nx s3 := rfl
/-! enumerate -/
theorem enumL_map (l : List D) : ∀ k, enumL k l = (l.zipIdx k).map fun p => .tup [.int (p.2 : Nat), p.1] := by
  induction l with
  | nil => intro k; rfl
  | cons a l ih =>
    intro k
    rw [List.zipIdx_cons, List.map_cons, ← ih]
    rfl
theorem fEnum_tup {l : List D} : fEnum [.tup l] = some ((l.zipIdx).map fun p => .tup [.int (p.2 : Nat), p.1]) := by
  rw [← enumL_map]
  rfl
theorem fEnum_lst {l : List D} : fEnum [.lst l] = some ((l.zipIdx).map fun p => .tup [.int (p.2 : Nat), p.1]) := by
  rw [← enumL_map]
  rfl
theorem iter_lst {l : List D} : iterD (.lst l) = some l := rfl
theorem iter_tup {l : List D} : iterD (.tup l) = some l := rfl
/-! max(a, min(b, n)) -/
def cnt (a b L : Nat) : Nat := max a (min b L)
theorem fMin_int {i j : Int} : Bk.min.h [.val (.int i), .val (.int j)] = some (.val (.int (if j < i then j else i))) := rfl
theorem fMax_int {i j : Int} : Bk.max.h [.val (.int i), .val (.int j)] = some (.val (.int (if j > i then j else i))) := rfl
theorem cnt_eq {a b L : Nat} : (if (if (L : Int) < (b : Int) then (L : Int) else (b : Int)) > (a : Int) then (if (L : Int) < (b : Int) then (L : Int) else (b : Int)) else (a : Int)) = ((cnt a b L : Nat) : Int) := by
  unfold cnt
  split <;> split <;> omega
end Dn
namespace Dn
open PySem PySem.Spec PyProof.Rows L2
/-- of a comprehension that only looks: one round -/
def cfP (is : List Nat) (env : List Slot) (te : M R) (st : List SO) (p : Bool) (f : D) : Bool → S → Prop
  | true, s => p = true ∧ Wp ((te s).bd escF) fun y s3 => y = f ∧ wipeE s3.env is = env ∧ s3.st = st
  | false, s => p = false ∧ wipeE s.env is = env ∧ s.st = st
section
variable {is : List Nat} {env : List Slot} {te : M R} {st : List SO} {p : Bool} {f : D} {s : S}
theorem cfP_true : cfP is env te st p f true s = (p = true ∧ Wp ((te s).bd escF) fun y s3 => y = f ∧ wipeE s3.env is = env ∧ s3.st = st) := rfl
theorem cfP_false : cfP is env te st p f false s = (p = false ∧ wipeE s.env is = env ∧ s.st = st) := rfl
end
theorem compM_at {α : Type} (mk : α → D) (p : α → Bool) (f : α → D) {is : List Nat} {a : R → M Unit} {tt : M Bool} {te : M R} {env : List Slot} {st : List SO} : ∀ (xs : List α) (acc : List D)
    (_ : ∀ x ∈ xs, Wp (a (.val (mk x)) ⟨env, st⟩) fun _ s1 => Wp (tt s1) (cfP is env te st (p x) (f x))), acc.length + xs.length ≤ LIM →
    compM is a tt te (xs.map mk) acc ⟨env, st⟩ = .ok (acc ++ (xs.filter p).map f) ⟨env, st⟩
  | [], acc, _, _ => by simp [compM, retM]
  | x :: xs, acc, hc, hl => by
    obtain ⟨u, s1, e1, q1⟩ := (hc x (by simp)).eq
    obtain ⟨b, s2, e2, q2⟩ := Wp.eq q1
    rw [List.map_cons, compM_cons, e1, rb_ok, e2, rb_ok]
    simp only [List.length_cons] at hl
    have ih := fun acc hl => compM_at mk p f (is := is) (a := a) (tt := tt) (te := te) (env := env) (st := st) xs acc (fun y hy => hc y (by simp [hy])) hl
    cases b with
    | false =>
      obtain ⟨hp, e3, e4⟩ := q2
      rw [ifM_false]
      show compM is a tt te (xs.map mk) acc ⟨wipeE s2.env is, s2.st⟩ = _
      rw [e3, e4, ih acc (by omega), List.filter_cons_of_neg (by simp [hp])]
    | true =>
      obtain ⟨hp, q3⟩ := q2
      obtain ⟨y, s3, e3, e5, e4, e6⟩ := Wp.eq q3
      rw [ifM_true]
      show ((te s2).bd escF).bd _ = _
      rw [e3, rb_ok, okB_of (show acc.length < LIM by omega)]
      show compM is a tt te (xs.map mk) (acc ++ [y]) ⟨wipeE s3.env is, s3.st⟩ = _
      rw [e4, e6, e5, ih (acc ++ [f x]) (by simp only [List.length_append, List.length_cons, List.length_nil]; omega), List.filter_cons_of_pos (by simp [hp])]
      simp
/-- a comprehension that only looks: over what stands for xs, those of p, as f -/
theorem wp_compF {α : Type} (mk : α → D) (p : α → Bool) (f : α → D) {is : List Nat} {a : R → M Unit} {tt : M Bool} {te : M R} {env : List Slot} {st : List SO} {Q : R → S → Prop} {xs : List α} (hl : xs.length ≤ LIM)
    (hc : ∀ x ∈ xs, Wp (a (.val (mk x)) ⟨wipeE env is, st⟩) fun _ s1 => Wp (tt s1) (cfP is (wipeE env is) te st (p x) (f x))) (q : Q (.own (.lst ((xs.filter p).map f))) ⟨mergeE env (wipeE env is) is, st⟩) :
    Wp (cmpK is env (compM is a tt te (xs.map mk) [] ⟨wipeE env is, st⟩)) Q := by
  rw [compM_at mk p f xs [] hc (by simpa using hl)]
  exact ⟨_, _, rfl, q⟩
theorem wp_compP {α : Type} (mk : α → D) (f : α → D) {is : List Nat} {a : R → M Unit} {te : M R} {env : List Slot} {st : List SO} {Q : R → S → Prop} {xs : List α} (hl : xs.length ≤ LIM)
    (hc : ∀ x ∈ xs, Wp (a (.val (mk x)) ⟨wipeE env is, st⟩) fun _ s1 => Wp ((te s1).bd escF) fun y s3 => y = f x ∧ wipeE s3.env is = wipeE env is ∧ s3.st = st) (q : Q (.own (.lst (xs.map f))) ⟨mergeE env (wipeE env is) is, st⟩) :
    Wp (cmpK is env (compM is a (retM true) te (xs.map mk) [] ⟨wipeE env is, st⟩)) Q := by
  refine wp_compF mk (fun _ => true) f hl (fun x hx => (hc x hx).mono fun _ s1 h => ?_) (by rw [List.filter_eq_self.mpr fun _ _ => rfl]; exact q)
  exact ⟨_, _, rfl, rfl, h⟩
theorem add_str {a b : Str} (h : a.length + b.length ≤ LIM) : addF (.val (.str a)) (.val (.str b)) = some (.val (.str (a ++ b))) := by
  show (if a.length + b.length ≤ LIM then some (R.val (.str (a ++ b))) else none) = _
  rw [if_pos h]
end Dn

local macro_rules
  | `(tactic| simp_arith [$ls,*]) => `(tactic| simp -implicitDefEqProofs -dsimp only [Dn.bindM_ap, Dn.rb_ok, Dn.rb_exc, Dn.rb_stuck, Dn.retM_ap, Dn.eLit_ap, Dn.eBor_ap, Dn.eLoc_ap, Dn.eMov_ap, Dn.getV_val, Dn.getV_own, Dn.getL_val, Dn.getL_own, Dn.getM_val, Dn.getM_own, Dn.eBin_ap, Dn.tVal_ap, Dn.truF_bl, Dn.truF_tbl, Dn.ifM_true, Dn.ifM_false, Dn.tNotM_ap, Dn.eNotM_ap, Dn.tAndM_ap, Dn.tOrM_ap, Dn.eAndM_ap, Dn.eOrM_ap, Dn.eIfM_ap, Dn.eChain_ap, Dn.tChn_ap, Dn.argR_ap, Dn.argD_ap, Dn.escF_val, Dn.escF_own, Dn.okB_true, Dn.eTupM_ap, Dn.eLstM_ap, Dn.pureF_op, Dn.optM_some, Dn.eCall_ap, Dn.eIsi_ap, Dn.partF_ap, Dn.eSlc_ap, Dn.eRev_ap, Dn.eNeg_ap, Dn.eStrM_ap, Dn.eRepl_ap, Dn.eIter_ap, Dn.eRange_ap, Dn.eWalk_ap, Dn.eDisp_ap, Dn.eFn_apK, Dn.fnK_ok, Dn.fnK_exc, Dn.sSeq_ap, Dn.nxt_nx, Dn.nxt_ret, Dn.nxt_brk, Dn.nxt_cont, Dn.sDrop_ap, Dn.sRet_ap, Dn.sIf_ap, Dn.asgM_val, Dn.asgM_own, Dn.asgRef_own, Dn.asgRef_val, Dn.sAsg_ap, Dn.gsNil_ap, Dn.gsCons_ap, Dn.sPar_ap, Dn.parS_nil, Dn.parS_cons, Dn.sFor_ap, Dn.sRaise_ap, Dn.sTry_apK, Dn.trK_ok, Dn.trK_exc, Dn.eComp_ap, Dn.outP_val, Dn.outP_own, Dn.outP_nx, Dn.opD_add, Dn.opD_sub, Dn.opD_mul, Dn.opD_mod, Dn.opD_fdv, Dn.opD_pow, Dn.cmpD_eq, Dn.cmpD_ne, Dn.cmpD_lt, Dn.cmpD_le, Dn.cmpD_gt, Dn.cmpD_ge, Dn.cmpD_is, Dn.cmpD_isn, Dn.cmpD_in, Dn.cmpD_nin, Dn.ixM_lst, Dn.ixM_tlst, Dn.ixM_olst, Dn.ixM_tup, Dn.ixM_str, List.getElem?_cons_zero, List.getElem?_cons_succ, List.set_cons_zero, List.set_cons_succ, List.map_cons, List.map_nil, List.length_cons, List.length_nil, List.cons_append, List.nil_append, List.replicate, Dn.R.d, Nat.reduceAdd, Nat.reduceSub, Nat.reduceLeDiff, Nat.reduceLT, Nat.zero_add, Dn.LIM, decide_true, decide_false, Bool.not_true, Bool.not_false, List.zip_cons_cons, List.zip_nil_left, List.reverse_cons, List.reverse_nil, Dn.cmpK_ok, Dn.compM_nil, Dn.asInt_int, Dn.asStr_str, Option.map_some, Dn.wipeE_nil, Dn.wipeE_cons, Dn.mergeE_nil, Dn.mergeE_cons, Dn.sltO_some, Int.cast_ofNat_Int, Int.reduceEq, Int.reduceLE, Int.reduceLT, Dn.gTup_val, Dn.isi_non, Dn.isi_bl, Dn.isi_int, Dn.isi_str, Dn.isi_tup, Dn.isi_lst, Dn.isi_tlst, Dn.isi_olst, Dn.tk_int_non, Dn.tk_int_bl, Dn.tk_int_int, Dn.tk_int_str, Dn.tk_int_tup, Dn.tk_int_lst, Dn.tk_bool_non, Dn.tk_bool_bl, Dn.tk_bool_int, Dn.tk_bool_str, Dn.tk_bool_tup, Dn.tk_bool_lst, Dn.tk_str_non, Dn.tk_str_bl, Dn.tk_str_int, Dn.tk_str_str, Dn.tk_str_tup, Dn.tk_str_lst, Dn.tk_tuple_non, Dn.tk_tuple_bl, Dn.tk_tuple_int, Dn.tk_tuple_str, Dn.tk_tuple_tup, Dn.tk_tuple_lst, Dn.tk_list_non, Dn.tk_list_bl, Dn.tk_list_int, Dn.tk_list_str, Dn.tk_list_tup, Dn.tk_list_lst, Dn.fLen_tup, Dn.fLen_lst, Dn.fLen_tlst, Dn.fLen_olst, Dn.icF_int, Dn.eqF_int, Dn.neF_int, Dn.eqF_str, Dn.neF_str, Dn.addF_int, Dn.subF_int, Dn.wp_ok, Dn.wp_bind, Dn.lpP_nx, Dn.lpP_cont, Dn.lpP_brk, Dn.lpP_ret, Dn.cmP_true, Dn.cmP_false, Dn.loopM_nil, $ls,*])

/-! R1 -/
set_option Elab.async false
set_option linter.all false
set_option maxRecDepth 100000
namespace Pn
open PySem PySem.Spec PyProof.Rows L2 Dn
/-! ### drawing, as what holds behind a call -/
def Dp_pick (F : FT) : Prop := ∀ (n : Nat) (m : Int) st, SrcAt st n → 0 < m → m < 1000 → WpF (F [.ref n, .int m] st) fun r st' => ∃ i : Nat, r = .val (.int i) ∧ (i : Int) < m ∧ Dr n st st'
theorem dp_pick {F : FT} (h : Sp_law_pick F) : Dp_pick F := by
  intro n m st hS h0 h1
  obtain ⟨i, st', e, i0, i1, hD⟩ := h n m st hS h0 h1
  obtain ⟨j, rfl⟩ := Int.eq_ofNat_of_zero_le i0
  exact .of_eq e ⟨j, rfl, i1, hD⟩
def Dp_chosen (F : FT) : Prop := ∀ (n : Nat) (l : List D) st, SrcAt st n → 0 < l.length → l.length < 1000 → WpF (F [.ref n, .lst l] st) fun r st' => ∃ d, r = .val d ∧ d ∈ l ∧ Dr n st st'
theorem dp_chosen {F : FT} (h : Sp_law_chosen F) : Dp_chosen F := by
  intro n l st hS h0 h1
  obtain ⟨d, st', e, hm, hD⟩ := h n l st hS h0 h1
  exact .of_eq e ⟨d, rfl, hm, hD⟩
/-- a value, or a new list | tuple -/
def vo (r : R) (d : D) : Prop := r = .val d ∨ r = .own d
def okV (N m : Nat) (d : D) : Prop := gdB N d = true ∧ dep d ≤ m
def okL (N m : Nat) (l : List D) : Prop := ∀ d ∈ l, okV N m d
theorem okL.gds {N m : Nat} {l : List D} (h : okL N m l) : gdsB N l = true := gds_of fun d hd => (h d hd).1
theorem okL.deps {N m : Nat} {l : List D} (h : okL N m l) : deps l ≤ m := deps_le fun d hd => (h d hd).2
theorem okL.tup {N m : Nat} {l : List D} (h : okL N m l) (hl : l.length ≤ N) : okV N (m + 1) (.tup l) :=
  ⟨by show (decide (l.length ≤ N) && gdsB N l) = true; rw [decide_eq_true hl, h.gds]; rfl, by show Dn.deps l + 1 ≤ m + 1; exact Nat.succ_le_succ h.deps⟩
theorem okL.lst {N m : Nat} {l : List D} (h : okL N m l) (hl : l.length ≤ N) : okV N (m + 1) (.lst l) :=
  ⟨by show (decide (l.length ≤ N) && gdsB N l) = true; rw [decide_eq_true hl, h.gds]; rfl, by show Dn.deps l + 1 ≤ m + 1; exact Nat.succ_le_succ h.deps⟩
mutual
theorem gd_mono {N M : Nat} (h : N ≤ M) : ∀ {d : D}, gdB N d = true → gdB M d = true
  | .non, _ => rfl
  | .bl _, _ => rfl
  | .int _, _ => rfl
  | .str z, q => by
    obtain ⟨h1, h2⟩ := Bool.and_eq_true_iff.mp q
    show (_ && decide (z.length ≤ M)) = true
    rw [h1, decide_eq_true (Nat.le_trans (of_decide_eq_true h2) h)]
    rfl
  | .tup l, q => by
    obtain ⟨h1, h2⟩ := Bool.and_eq_true_iff.mp q
    show (decide (l.length ≤ M) && gdsB M l) = true
    rw [gds_mono h h2, decide_eq_true (Nat.le_trans (of_decide_eq_true h1) h)]
    rfl
  | .lst l, q => by
    obtain ⟨h1, h2⟩ := Bool.and_eq_true_iff.mp q
    show (decide (l.length ≤ M) && gdsB M l) = true
    rw [gds_mono h h2, decide_eq_true (Nat.le_trans (of_decide_eq_true h1) h)]
    rfl
  | .dct _, q => by cases q
  | .ref _, q => by cases q
theorem gds_mono {N M : Nat} (h : N ≤ M) : ∀ {l : List D}, gdsB N l = true → gdsB M l = true
  | [], _ => rfl
  | d :: l, q => by
    obtain ⟨h1, h2⟩ := Bool.and_eq_true_iff.mp q
    show (gdB M d && gdsB M l) = true
    rw [gd_mono h h1, gds_mono h h2]
    rfl
end
theorem okV.mono {N M m k : Nat} {d : D} (h : okV N m d) (h1 : N ≤ M) (h2 : m ≤ k) : okV M k d := ⟨gd_mono h1 h.1, Nat.le_trans h.2 h2⟩
theorem okL.mono {N M m k : Nat} {l : List D} (h : okL N m l) (h1 : N ≤ M) (h2 : m ≤ k) : okL M k l := fun d hd => (h d hd).mono h1 h2
theorem okL.nil {N m : Nat} : okL N m [] := fun d hd => by cases hd
theorem okL.snoc {N m : Nat} {l : List D} {d : D} (h : okL N m l) (hd : okV N m d) : okL N m (l ++ [d]) := fun x hx => by
  rcases List.mem_append.mp hx with hx | hx
  · exact h x hx
  · rw [List.mem_singleton.mp hx]; exact hd
theorem okL.append {N m : Nat} {l k : List D} (h : okL N m l) (h2 : okL N m k) : okL N m (l ++ k) := fun x hx => by
  rcases List.mem_append.mp hx with hx | hx
  · exact h x hx
  · exact h2 x hx
theorem okL.of_gd {N : Nat} {l : List D} (h : gdsB N l = true) : okL N (Dn.deps l) l := fun d hd => ⟨gds_mem h d hd, deps_mem hd⟩
theorem okV.tupL {N m : Nat} {l : List D} (h : okV N (m + 1) (.tup l)) : okL N m l ∧ l.length ≤ N := by
  obtain ⟨h1, h2⟩ := gd_tup h.1
  exact ⟨fun d hd => ⟨gds_mem h2 d hd, Nat.le_trans (deps_mem hd) (Nat.le_of_succ_le_succ h.2)⟩, h1⟩
theorem okL.all {N m : Nat} {l : List D} (h : (l.all fun d => gdB N d && decide (dep d ≤ m)) = true) : okL N m l := fun d hd => by
  obtain ⟨h1, h2⟩ := Bool.and_eq_true_iff.mp (List.all_eq_true.mp h d hd)
  exact ⟨h1, of_decide_eq_true h2⟩
/-! ranges -/
theorem fRange_one {j : Nat} (h : j < 1000000) : fRange [.val (.int j)] = some ((List.range j).map fun i => .int (i : Nat)) := by
  show (if okR j then some (rangeD 0 (j : Int).toNat) else none) = _
  have e : okR (j : Int) = true := by
    unfold okR
    rw [decide_eq_true (by omega), decide_eq_true (by omega)]
    rfl
  rw [e]
  refine congrArg some (List.map_congr_left fun i _ => ?_)
  rw [Int.zero_add]
/-! some value -/
def plainL : List D := [.non, .bl true, .bl false, .int 0, .int 1, .int 2, .int 4, .int (-2), .int (10 ^ 12), .str "", .str "c", .str "sign", .str "own", .str "full", .str "used", .str "..", .tup [], .lst [], .tup [.int 1]]
theorem plain_ok : okL 30 1 plainL := okL.all (by decide +kernel)
def Dp_any (k : Nat) (F : FT) : Prop := ∀ (n : Nat) (deep : Nat) st, SrcAt st n → deep ≤ k → WpF (F [.ref n, .int deep] st) fun r st' => ∃ d, vo r d ∧ okV 30 (deep + 1) d ∧ Dr n st st'
theorem neg2 : negF (.val (.int 2)) = some (.val (.int (-2))) := rfl
theorem pow12 : powF (.val (.int 10)) (.val (.int 12)) = some (.val (.int (10 ^ 12))) := rfl
theorem fTuple_tmp {l : List D} : Bk.tuple.h [.tmp (.lst l)] = some (.val (.tup l)) := rfl
theorem fTuple_own {l : List D} : Bk.tuple.h [.own (.lst l)] = some (.val (.tup l)) := rfl
theorem dp_any {F1 F2 F3 : FT} (h1 : Dp_pick F1) (h2 : Dp_chosen F2) {k : Nat} (h3 : ∀ j, k = j + 1 → Dp_any j F3) : Dp_any k (funF 6 2 (n__law_any_value F1 F2 F3)) := by
  intro n deep st hS hk
  refine wpF_fun rfl ?_
  unfold n__law_any_value
  simp_arith [neg2, pow12]
  refine wp_call (h1 n 8 st hS (by decide) (by decide)) ?_
  rintro _ st1 ⟨way, rfl, w1, hD1⟩
  have fin : ∀ r st', (∃ d, r = R.val d ∧ d ∈ plainL ∧ Dr n st1 st') → ∃ d, vo r d ∧ okV 30 (deep + 1) d ∧ Dr n st st' := by
    rintro _ st2 ⟨d, rfl, hm, hD2⟩
    exact ⟨d, .inl rfl, (plain_ok d hm).mono (Nat.le_refl _) (by omega), hD1.trans hD2⟩
  simp_arith []
  refine wp_ifM (fun hd => ?_) (fun hd => ?_)
  · simp_arith []
    refine wp_call (h2 n plainL st1 hD1.1 (by decide) (by decide)) ?_
    rintro _ st2 ⟨d, rfl, hm, hD2⟩
    simp_arith []
    exact fin _ _ ⟨d, rfl, hm, hD2⟩
  · simp_arith []
    refine wp_ifM (fun hw => ?_) (fun hw => ?_)
    · simp_arith []
      refine wp_call (h2 n plainL st1 hD1.1 (by decide) (by decide)) ?_
      rintro _ st2 ⟨d, rfl, hm, hD2⟩
      simp_arith []
      exact fin _ _ ⟨d, rfl, hm, hD2⟩
    · have hd := of_decide_eq_false hd
      simp_arith []
      refine wp_call (h1 n 5 st1 hD1.1 (by decide) (by decide)) ?_
      intro r st2 h
      obtain ⟨j, e, h⟩ := h
      obtain ⟨j1, hD2⟩ := h
      subst e
      simp_arith [fRange_one (j := j) (by omega)]
      have hD12 := hD1.trans hD2
      refine wp_comp (fun i : Nat => D.int i) (fun xs acc st' => Dr n st st' ∧ acc.length + xs.length = j ∧ okL 30 deep acc) ⟨hD12, by simp, okL.nil⟩ ?_ ?_
      · rintro acc st3 ⟨hD3, hl, ha⟩
        simp_arith [fTuple_tmp]
        have hl : acc.length ≤ 30 := by simp only [List.length_nil] at hl; omega
        refine wp_ifM (fun _ => ?_) (fun _ => ?_)
        · simp_arith []
          exact ⟨_, .inr rfl, ha.lst hl, hD3⟩
        · simp_arith [fTuple_tmp]
          exact ⟨_, .inl rfl, ha.tup hl, hD3⟩
      · rintro x xs acc st3 ⟨hD3, hl, ha⟩
        have e1 : (deep : Int) - 1 = ((deep - 1 : Nat) : Int) := by omega
        simp_arith [e1]
        refine wp_call (h3 (k - 1) (by omega) n (deep - 1) st3 hD3.1 (by omega)) ?_
        rintro r st4 ⟨d, hr, hd2, hD4⟩
        have hd3 : okV 30 deep d := hd2.mono (Nat.le_refl _) (by omega)
        simp only [List.length_cons] at hl
        have hlim : acc.length < 16777216 := by omega
        have hfin : Dr n st st4 ∧ (acc ++ [d]).length + xs.length = j ∧ okL 30 deep (acc ++ [d]) := ⟨hD3.trans hD4, by simp only [List.length_append, List.length_cons, List.length_nil]; omega, ha.snoc hd3⟩
        rcases hr with rfl | rfl <;> simp_arith [] <;> exact ⟨hlim, trivial, hfin⟩
end Pn


/-! R2 -/
set_option Elab.async false
set_option linter.all false
set_option maxRecDepth 100000
namespace Pn
open PySem PySem.Spec PyProof.Rows L2 Dn
/-! a tuple that is otherwise at one place -/
theorem cutD_mem {l : List D} {a b : Option Int} {d : D} (h : d ∈ cutD l a b) : d ∈ l := List.mem_of_mem_drop (List.mem_of_mem_take h)
theorem cutD_len {l : List D} {a b : Option Int} : (cutD l a b).length ≤ l.length := by
  unfold Dn.cutD
  rw [List.length_take, List.length_drop]
  omega
theorem okL.cut {N m : Nat} {l : List D} {a b : Option Int} (h : okL N m l) : okL N m (cutD l a b) := fun d hd => h d (cutD_mem hd)
theorem okL.rev {N m : Nat} {l : List D} (h : okL N m l) : okL N m l.reverse := fun d hd => h d (List.mem_reverse.mp hd)
theorem okL.set {N m : Nat} {l : List D} {d : D} {i : Nat} (h : okL N m l) (hd : okV N m d) : okL N m (l.set i d) := fun x hx => by
  rcases List.mem_or_eq_of_mem_set hx with hx | rfl
  · exact h x hx
  · exact hd
theorem fList_tup {l : List D} : Bk.list.h [.val (.tup l)] = some (.own (.lst l)) := rfl
theorem sl_tmp {l : List D} {a b : Option Int} : slF (.tmp (.lst l)) a b = some (.own (.lst (cutD l a b))) := rfl
theorem rev_own {l : List D} : revF (.own (.lst l)) = some (.own (.lst l.reverse)) := rfl
theorem add_oo {l k : List D} (h : l.length + k.length ≤ LIM) : addF (.own (.lst l)) (.own (.lst k)) = some (.own (.lst (l ++ k))) := by
  show (if l.length + k.length ≤ LIM then some (R.own (.lst (l ++ k))) else none) = _
  rw [if_pos h]
theorem add_to {l k : List D} (h : l.length + k.length ≤ LIM) : addF (.tmp (.lst l)) (.own (.lst k)) = some (.own (.lst (l ++ k))) := by
  show (if l.length + k.length ≤ LIM then some (R.own (.lst (l ++ k))) else none) = _
  rw [if_pos h]
theorem add_tt {l k : List D} (h : l.length + k.length ≤ LIM) : addF (.val (.tup l)) (.val (.tup k)) = some (.val (.tup (l ++ k))) := by
  show (if l.length + k.length ≤ LIM then some (R.val (.tup (l ++ k))) else none) = _
  rw [if_pos h]
theorem eqT_nil {N : Nat} {l : List D} (h : gdsB N l = true) (hd : deps l < 64) : eqF (.tmp (.lst l)) (.own (.lst [])) = some (.val (.bl l.isEmpty)) := eqF_of (eqE_nil h hd)
theorem putF_nat {l : List D} {i : Nat} {d : D} (h : i < l.length) : putF (.val (.int i)) d l = some (l.set i d) := by
  unfold Dn.putF
  show (match ixN l.length i with
    | some j => some (l.set j d)
    | none => none) = _
  have e : ixN l.length (i : Int) = some i := by
    unfold ixN
    rw [if_pos (by omega), if_pos (by omega)]
    rfl
  rw [e]
def nearL : List D := [.int 0, .int 1, .int 2, .int 3, .int 4, .bl true, .str "hand", .str "none", .str "own", .str "adds", .str "one", .str "never", .str "both", .str "cd", .str "d.", .str "c", .str "bring"]
theorem near_ok : okL 30 0 nearL := okL.all (by decide +kernel)
def Dp_var (k : Nat) (F : FT) : Prop := ∀ (n : Nat) (l : List D) (deep N m : Nat) st, SrcAt st n → deep ≤ k → 30 ≤ N → N < 300 → m ≤ 50 → okL N m l → l.length ≤ N →
  WpF (F [.ref n, .tup l, .int deep] st) fun r st' => ∃ d, vo r d ∧ okV (3 * N) (m + 5) d ∧ Dr n st st'
theorem dp_var {F1 F2 F3 F4 : FT} (h1 : Dp_any 2 F1) (h2 : Dp_pick F2) {k : Nat} (h3 : ∀ j, k = j + 1 → Dp_var j F3) (h4 : Dp_chosen F4) : Dp_var k (funF 8 3 (n__law_variant F1 F2 F3 F4)) := by
  intro n l deep N m st hS hk hN hN2 hm hl hln
  refine wpF_fun rfl ?_
  unfold n__law_variant
  have hL : ∀ j, j ≤ 3 * N + 1 → j ≤ LIM := fun j hj => by unfold LIM; omega
  have h3N : okL (3 * N) (m + 4) l := hl.mono (by omega) (by omega)
  have cl : ∀ a b, (cutD l a b).length ≤ N := fun a b => Nat.le_trans cutD_len hln
  simp_arith [fList_tup, eqT_nil hl.gds (Nat.lt_of_le_of_lt hl.deps (by omega))]
  refine wp_ifM (fun _ => ?_) (fun he => ?_)
  · simp_arith []
    refine wp_call (h1 n 1 st hS (by decide)) ?_
    rintro r st1 ⟨d, hr, hd, hD⟩
    have hd2 : okL (3 * N) (m + 4) [d] := fun x hx => by rw [List.mem_singleton.mp hx]; exact hd.mono (by omega) (by omega)
    rcases hr with rfl | rfl <;> simp_arith [] <;> exact ⟨_, .inl rfl, hd2.tup (by show 1 ≤ 3 * N; omega), hD⟩
  · have h0 : 0 < l.length := by
      cases l with
      | nil => cases he
      | cons a l => exact Nat.succ_pos _
    simp_arith []
    refine wp_call (h2 n l.length st hS (by omega) (by omega)) ?_
    rintro _ st1 ⟨i, rfl, i1, hD1⟩
    have i1 : i < l.length := by omega
    simp_arith []
    refine wp_call (h2 n 9 st1 hD1.1 (by decide) (by decide)) ?_
    rintro _ st2 ⟨way, rfl, w1, hD2⟩
    have hD12 := hD1.trans hD2
    have hx : l[i]? = some l[i] := List.getElem?_eq_getElem i1
    have okx : okV N m l[i] := hl _ (List.getElem_mem i1)
    simp_arith [ix_tlst hx, isiF_of .tuple (.val l[i]) (ty_gd okx.1)]
    generalize l[i] = x at okx hx ⊢
    refine wp_and (c := decide ((deep : Int) > 0) && decide ((way : Int) > 2)) (fun _ => ?_) ?_
    · cases h : decide ((deep : Int) > 0) <;> simp_arith! [h, Bool.true_and, Bool.false_and]
    refine wp_ifM (fun ht => ?_) (fun _ => ?_)
    · simp only [Bool.and_eq_true, decide_eq_true_eq] at ht
      obtain ⟨t1, t2, t3⟩ := ht
      cases x with
      | tup l2 =>
        have hm1 : m = (m - 1) + 1 := by
          have := okx.2
          have e : dep (.tup l2) = deps l2 + 1 := rfl
          omega
        rw [hm1] at okx
        obtain ⟨ok2, ln2⟩ := okx.tupL
        have e1 : (deep : Int) - 1 = ((deep - 1 : Nat) : Int) := by omega
        simp_arith [sl_tmp, fTuple_own, e1]
        refine wp_call (h3 (k - 1) (by omega) n l2 (deep - 1) N (m - 1) st2 hD12.1 (by omega) hN hN2 (by omega) ok2 ln2) ?_
        rintro r st3 ⟨d, hr, hd, hD3⟩
        have hd4 : okV (3 * N) (m + 4) d := hd.mono (Nat.le_refl _) (by omega)
        have hd2 : okL (3 * N) (m + 4) [d] := fun x hx => by rw [List.mem_singleton.mp hx]; exact hd4
        have hA : ∀ a b c e, okV (3 * N) (m + 5) (.tup (cutD l a b ++ [d] ++ cutD l c e)) := fun a b c e => ((h3N.cut.append hd2).append h3N.cut).tup (by
          have := cl a b; have := cl c e
          simp only [List.length_append, List.length_cons, List.length_nil]; omega)
        have A1 : ∀ a b, addF (.val (.tup (cutD l a b))) (.val (.tup [d])) = some (.val (.tup (cutD l a b ++ [d]))) := fun a b => add_tt (by have := cl a b; apply hL; simp only [List.length_cons, List.length_nil]; omega)
        have A2 : ∀ a b c e, addF (.val (.tup (cutD l a b ++ [d]))) (.val (.tup (cutD l c e))) = some (.val (.tup (cutD l a b ++ [d] ++ cutD l c e))) := fun a b c e => add_tt (by have := cl a b; have := cl c e; apply hL; simp only [List.length_append, List.length_cons, List.length_nil]; omega)
        rcases hr with rfl | rfl <;> simp_arith [A1, sl_tmp, fTuple_own, A2] <;> exact ⟨_, .inl rfl, hA _ _ _ _, hD12.trans hD3⟩
      | _ => cases t1
    · have A2 : ∀ a b c e, addF (.own (.lst (cutD l a b))) (.own (.lst (cutD l c e))) = some (.own (.lst (cutD l a b ++ cutD l c e))) := fun a b c e => add_oo (by have := cl a b; have := cl c e; apply hL; omega)
      have A3 : ∀ a b c e, addF (.own (.lst (cutD l a b))) (.own (.lst (cutD l c e).reverse)) = some (.own (.lst (cutD l a b ++ (cutD l c e).reverse))) := fun a b c e => add_oo (by have := cl a b; have := cl c e; apply hL; rw [List.length_reverse]; omega)
      have A4 : ∀ a b c e f g, addF (.own (.lst (cutD l a b ++ (cutD l c e).reverse))) (.own (.lst (cutD l f g))) = some (.own (.lst (cutD l a b ++ (cutD l c e).reverse ++ cutD l f g))) := fun a b c e f g => add_oo (by have := cl a b; have := cl c e; have := cl f g; apply hL; rw [List.length_append, List.length_reverse]; omega)
      have hB : ∀ a b c e, okV (3 * N) (m + 5) (.tup (cutD l a b ++ cutD l c e)) := fun a b c e => (h3N.cut.append h3N.cut).tup (by
        have := cl a b; have := cl c e
        simp only [List.length_append]; omega)
      have hC : ∀ a b c e f g, okV (3 * N) (m + 5) (.tup (cutD l a b ++ (cutD l c e).reverse ++ cutD l f g)) := fun a b c e f g => ((h3N.cut.append h3N.cut.rev).append h3N.cut).tup (by
        have := cl a b; have := cl c e; have := cl f g
        simp only [List.length_append, List.length_reverse]; omega)
      simp_arith []
      refine wp_ifM (fun _ => ?_) (fun _ => ?_)
      · simp_arith [sl_tmp, A2, fTuple_own]
        exact ⟨_, .inl rfl, hB _ _ _ _, hD12⟩
      simp_arith []
      refine wp_ifM (fun _ => ?_) (fun _ => ?_)
      · simp_arith [sl_tmp, A2, fTuple_own]
        exact ⟨_, .inl rfl, hB _ _ _ _, hD12⟩
      simp_arith []
      refine wp_ifM (fun _ => ?_) (fun _ => ?_)
      · simp_arith [sl_tmp, rev_own, A3, A4, fTuple_own]
        exact ⟨_, .inl rfl, hC _ _ _ _ _ _, hD12⟩
      simp_arith []
      refine wp_ifM (fun _ => ?_) (fun _ => ?_)
      · simp_arith []
        exact ⟨_, .inr rfl, h3N.lst (by omega), hD12⟩
      simp_arith []
      have hset : ∀ d, okV (3 * N) (m + 4) d → okV (3 * N) (m + 5) (.tup (l.set i d)) := fun d hd => (h3N.set hd).tup (by rw [List.length_set]; omega)
      refine wp_ifM (fun _ => ?_) (fun _ => ?_)
      · simp_arith [sPut_ap]
        refine wp_call (h1 n 2 st2 hD12.1 (by decide)) ?_
        rintro r st3 ⟨d, hr, hd, hD3⟩
        rcases hr with rfl | rfl <;> simp_arith [chkM_ap, chkO_own, modL_ap, modO_own, putF_nat i1, setL_some, fTuple_tmp] <;> exact ⟨_, .inl rfl, hset d (hd.mono (by omega) (by omega)), hD12.trans hD3⟩
      · simp_arith [sPut_ap]
        refine wp_call (h4 n nearL st2 hD12.1 (by decide) (by decide)) ?_
        rintro _ st3 ⟨d, rfl, hd, hD3⟩
        simp_arith [chkM_ap, chkO_own, modL_ap, modO_own, putF_nat i1, setL_some, fTuple_tmp]
        exact ⟨_, .inl rfl, hset d ((near_ok d hd).mono (by omega) (by omega)), hD12.trans hD3⟩
end Pn


/-! R3 -/
set_option Elab.async false
set_option linter.all false
set_option maxRecDepth 100000
namespace Pn
open PySem PySem.Spec PyProof.Rows L2 Dn
/-! somebody, a house -/
theorem wordsOk_snoc {d : D} {ws : List Str} : ∀ {acc : List D} {pre : List (List Str)}, acc.length = pre.length → wordsOk (acc ++ [d]) (pre ++ [ws]) = (wordsOk acc pre && isWord d ws)
  | [], [], _ => by simp [wordsOk]
  | a :: acc, p :: pre, h => by
    show (isWord a p && wordsOk (acc ++ [d]) (pre ++ [ws])) = (isWord a p && wordsOk acc pre && isWord d ws)
    rw [wordsOk_snoc (acc := acc) (by simpa using h), Bool.and_assoc]
  | [], _ :: _, h => by cases h
  | _ :: _, [], h => by cases h
def Dp_somebody (F : FT) : Prop := ∀ (n : Nat) st, SrcAt st n → WpF (F [.ref n] st) fun r st' => ∃ p, r = .val p ∧ isHabit p = true ∧ Dr n st st'
theorem sl_table : slF (.own (.lst tableD)) none (some 5) = some (.own (.lst (chs.map fun ws => .lst (sts ws)))) := rfl
theorem chs_len : ∀ ws ∈ chs, 0 < ws.length ∧ ws.length < 1000 := by decide
theorem mem_sts {d : D} {ws : List Str} (h : d ∈ sts ws) : isWord d ws = true := by
  obtain ⟨z, hz, rfl⟩ := List.mem_map.mp h
  exact List.contains_iff_mem.mpr hz
theorem sts_len {ws : List Str} : (sts ws).length = ws.length := List.length_map _
theorem dp_somebody {F1 F2 F3 : FT} (h1 : Sp_law_table F1) (h2 : Dp_chosen F2) (h3 : Dp_pick F3) : Dp_somebody (funF 3 1 (n__law_somebody F1 F2 F3)) := by
  intro n st hS
  refine wpF_fun rfl ?_
  unfold n__law_somebody
  simp_arith [h1 st, sl_table, iter_lst]
  refine wp_comp (fun ws : List Str => D.lst (sts ws)) (fun xs acc st' => Dr n st st' ∧ ∃ pre, chs = pre ++ xs ∧ acc.length = pre.length ∧ wordsOk acc pre = true) ⟨Dr.refl hS, [], rfl, rfl, rfl⟩ ?_ ?_
  · rintro acc st1 ⟨hD, pre, hp, hl, ha⟩
    rw [List.append_nil] at hp
    subst hp
    obtain ⟨a, b, c, d, e, rfl⟩ : ∃ a b c d e, acc = [a, b, c, d, e] := by
      match acc, hl with
      | [a, b, c, d, e], _ => exact ⟨a, b, c, d, e, rfl⟩
    simp_arith []
    refine wp_call (h3 n 2 st1 hD.1 (by decide) (by decide)) ?_
    rintro _ st2 ⟨i, rfl, _, hD2⟩
    have A : ∀ x f, addF (.val (.tup [x, b, c, d, e])) (.val (.tup [f])) = some (.val (.tup [x, b, c, d, e, f])) := fun x f => rfl
    have ha2 : (isWord a ["dish", "full", "sign"] && wordsOk [b, c, d, e] chs.tail) = true := ha
    simp_arith []
    refine wp_ifM (fun _ => ?_) (fun _ => ?_)
    · simp_arith [sPut_ap, chkM_ap, chkO_own, modL_ap, modO_own, put0, setL_some, fTuple_tmp]
      refine wp_call (h3 n 3 st2 hD2.1 (by decide) (by decide)) ?_
      rintro _ st3 ⟨j, rfl, _, hD3⟩
      simp_arith [A]
      refine ⟨_, rfl, ?_, hD.trans (hD2.trans hD3)⟩
      show (isWord (.str "sign") ["dish", "full", "sign"] && wordsOk [b, c, d, e] chs.tail && isTk .bool (.bl _)) = true
      have hs : isWord (.str "sign") ["dish", "full", "sign"] = true := by decide +kernel
      rw [(Bool.and_eq_true_iff.mp ha2).2, hs]
      rfl
    · simp_arith [fTuple_tmp]
      refine wp_call (h3 n 3 st2 hD2.1 (by decide) (by decide)) ?_
      rintro _ st3 ⟨j, rfl, _, hD3⟩
      simp_arith [A]
      refine ⟨_, rfl, ?_, hD.trans (hD2.trans hD3)⟩
      show (wordsOk [a, b, c, d, e] chs && isTk .bool (.bl _)) = true
      rw [ha]
      rfl
  · rintro ws xs acc st1 ⟨hD, pre, hp, hl, ha⟩
    have hm : ws ∈ chs := by rw [hp]; simp
    obtain ⟨l0, l1⟩ := chs_len ws hm
    simp_arith []
    refine wp_call (h2 n (sts ws) st1 hD.1 (by rw [sts_len]; exact l0) (by rw [sts_len]; exact l1)) ?_
    rintro _ st2 ⟨d, rfl, hd, hD2⟩
    simp_arith []
    refine ⟨?_, trivial, hD.trans hD2, pre ++ [ws], by rw [hp]; simp, by simp [hl], by rw [wordsOk_snoc hl, ha, mem_sts hd]; rfl⟩
    have := congrArg List.length hp
    rw [List.length_append] at this
    have h5 : chs.length = 5 := rfl
    omega
theorem hab_ok {p : D} (h : isHabit p = true) : okV 30 1 p := by
  obtain ⟨a, b, c, d, e, f, rfl, ha, hb, hc, hd, he⟩ := habit_form h
  have q1 : ∀ x ∈ lks, okV 30 0 (.str x) := fun x hx => by
    have : (lks.all fun x => gdB 30 (.str x)) = true := by decide +kernel
    exact ⟨List.all_eq_true.mp this x hx, Nat.zero_le _⟩
  have q2 : ∀ x ∈ (["adds", "empties", "waits"] : List Str), okV 30 0 (.str x) := fun x hx => by
    have : ((["adds", "empties", "waits"] : List Str).all fun x => gdB 30 (.str x)) = true := by decide +kernel
    exact ⟨List.all_eq_true.mp this x hx, Nat.zero_le _⟩
  have q3 : ∀ x ∈ (["all", "one"] : List Str), okV 30 0 (.str x) := fun x hx => by
    have : ((["all", "one"] : List Str).all fun x => gdB 30 (.str x)) = true := by decide +kernel
    exact ⟨List.all_eq_true.mp this x hx, Nat.zero_le _⟩
  have q4 : ∀ x ∈ (["each", "full", "never"] : List Str), okV 30 0 (.str x) := fun x hx => by
    have : ((["each", "full", "never"] : List Str).all fun x => gdB 30 (.str x)) = true := by decide +kernel
    exact ⟨List.all_eq_true.mp this x hx, Nat.zero_le _⟩
  have q5 : ∀ x ∈ (["both", "never", "start"] : List Str), okV 30 0 (.str x) := fun x hx => by
    have : ((["both", "never", "start"] : List Str).all fun x => gdB 30 (.str x)) = true := by decide +kernel
    exact ⟨List.all_eq_true.mp this x hx, Nat.zero_le _⟩
  refine okL.tup (fun x hx => ?_) (by show 6 ≤ 30; decide)
  simp only [List.mem_cons, List.not_mem_nil, or_false] at hx
  rcases hx with rfl | rfl | rfl | rfl | rfl | rfl
  · exact q1 _ ha
  · exact q2 _ hb
  · exact q3 _ hc
  · exact q4 _ hd
  · exact q5 _ he
  · exact ⟨rfl, Nat.zero_le _⟩
theorem sgs_ok {x : Str} (h : x ∈ sgs) : okV 30 0 (.str x) := by
  have : (sgs.all fun x => gdB 30 (.str x)) = true := by decide +kernel
  exact ⟨List.all_eq_true.mp this x h, Nat.zero_le _⟩
theorem ps_ok {ps : List D} (h : ∀ p ∈ ps, isHabit p = true) : okL 30 1 ps := fun p hp => hab_ok (h p hp)
theorem kit_okL {n : Int} {sg : Str} {ps : List D} (h : isKit (.tup [.int n, .str sg, .tup ps]) = true) : okL 30 2 [.int n, .str sg, .tup ps] := by
  obtain ⟨n', sg', ps', ek, k1, k2, k3, k4, k5, k6⟩ := kit_form h
  cases ek
  intro x hx
  simp only [List.mem_cons, List.not_mem_nil, or_false] at hx
  rcases hx with rfl | rfl | rfl
  · exact ⟨rfl, Nat.zero_le _⟩
  · exact (sgs_ok k3).mono (Nat.le_refl _) (Nat.zero_le _)
  · exact (ps_ok k6).tup (by omega)
def Dp_house (F : FT) : Prop := ∀ (n : Nat) (m : Int) st, SrcAt st n → 1 ≤ m → m ≤ 3 → WpF (F [.ref n, .int m] st) fun r st' => ∃ (k : Int) (sg : Str) (ps : List D), r = .val (.tup [.int k, .str sg, .tup ps]) ∧ isKit (.tup [.int k, .str sg, .tup ps]) = true ∧ (ps.length : Int) ≤ m ∧ Dr n st st'
theorem dp_house {F1 F2 F3 : FT} (h1 : Dp_pick F1) (h2 : Dp_somebody F2) (h3 : Dp_chosen F3) : Dp_house (funF 4 2 (n__law_house F1 F2 F3)) := by
  intro n m st hS m1 m3
  refine wpF_fun rfl ?_
  unfold n__law_house
  simp_arith []
  refine wp_call (h1 n m st hS (by omega) (by omega)) ?_
  (intro r_ st1 h_; obtain ⟨i, e_, h_⟩ := h_; obtain ⟨i1, hD1⟩ := h_; subst e_)
  have e1 : (1 : Int) + (i : Int) = ((1 + i : Nat) : Int) := by omega
  simp_arith [e1, fRange_one (j := 1 + i) (by omega)]
  refine wp_comp (fun i : Nat => D.int i) (fun xs acc st' => Dr n st st' ∧ acc.length + xs.length = 1 + i ∧ ∀ p ∈ acc, isHabit p = true) ⟨hD1, by simp, fun _ h => by cases h⟩ ?_ ?_
  · rintro ps st2 ⟨hD2, hl, hp⟩
    simp only [List.length_nil, Nat.add_zero] at hl
    simp_arith [fTuple_own]
    refine wp_call (h1 n 3 st2 hD2.1 (by decide) (by decide)) ?_
    (intro r_ st3 h_; obtain ⟨j, e_, h_⟩ := h_; obtain ⟨j1, hD3⟩ := h_; subst e_)
    simp_arith []
    refine wp_call (h3 n (sts ["hand", "hand", "none", "own"]) st3 hD3.1 (by decide) (by decide)) ?_
    rintro _ st4 ⟨d, rfl, hd, hD4⟩
    obtain ⟨sg, hsg, rfl⟩ := List.mem_map.mp hd
    have hs : sg ∈ sgs := by
      have : ((["hand", "hand", "none", "own"] : List Str).all fun x => sgs.contains x) = true := by decide +kernel
      exact List.contains_iff_mem.mp (List.all_eq_true.mp this sg hsg)
    simp_arith []
    exact ⟨_, _, _, rfl, kit_of (by omega) (by omega) hs (by omega) (by omega) hp, by omega, hD2.trans (hD3.trans hD4)⟩
  · rintro x xs acc st2 ⟨hD2, hl, hp⟩
    simp_arith []
    refine wp_call (h2 n st2 hD2.1) ?_
    rintro _ st3 ⟨p, rfl, hh, hD3⟩
    simp only [List.length_cons] at hl
    simp_arith []
    refine ⟨by omega, trivial, hD2.trans hD3, by simp only [List.length_append, List.length_cons, List.length_nil]; omega, fun q hq => ?_⟩
    rcases List.mem_append.mp hq with hq | hq
    · exact hp q hq
    · rw [List.mem_singleton.mp hq]; exact hh
/-! all stands of a kitchen -/
def spotsD (n : Nat) (sg : Str) : List D := (spotsL n).map (fun z => .tup [.str z, .bl false]) ++ (if sg = "none" then [] else (spotsL n).map fun z => .tup [.str z, .bl true])
def Sp_law_spots (F : FT) : Prop := ∀ (n : Nat) (sg : Str) (ps : D) st, 1 ≤ n → n ≤ 3 → sg ∈ sgs → F [.tup [.int n, .str sg, ps]] st = .ok (.own (.lst (spotsD n sg))) st
theorem spotsL_len : ∀ n, n ≤ 3 → (spotsL n).length ≤ 27 := by
  have hc : ([0, 1, 2, 3].all fun n => decide ((spotsL n).length ≤ 27)) = true := by decide +kernel
  intro n hn
  have hn : n = 0 ∨ n = 1 ∨ n = 2 ∨ n = 3 := by omega
  exact of_decide_eq_true (List.all_eq_true.mp hc n (by simp [hn]))
theorem spotsL_str : ∀ n, n ≤ 3 → ∀ z ∈ spotsL n, z.length ≤ 3 := by
  have hc : ([0, 1, 2, 3].all fun n => (spotsL n).all fun z => decide (z.length ≤ 3)) = true := by decide +kernel
  intro n hn z hz
  have hn : n = 0 ∨ n = 1 ∨ n = 2 ∨ n = 3 := by omega
  exact of_decide_eq_true (List.all_eq_true.mp (List.all_eq_true.mp hc n (by simp [hn])) z hz)
theorem flat3 (f : Str → List Str) (hf : ∀ z, (f z).length = 3) : ∀ l : List Str, (l.flatMap f).length = 3 * l.length
  | [] => rfl
  | z :: l => by rw [List.flatMap_cons, List.length_append, hf, flat3 f hf l, List.length_cons]; omega
def more3 (z : Str) : List Str := [z ++ ".", z ++ "c", z ++ "d"]
theorem sts_append {a b : List Str} : sts (a ++ b) = sts a ++ sts b := List.map_append
theorem wp_law_spots (n : Nat) (sg : Str) (ps : D) (st : List SO) (h3 : n ≤ 3) : WpF (funF 6 1 n__law_spots [.tup [.int n, .str sg, ps]] st) fun r st' => r = .own (.lst (spotsD n sg)) ∧ st' = st := by
  refine wpF_fun (np := 1) (by rfl) ?_
  unfold n__law_spots
  have j0 : ixF (.val (.tup [.int n, .str sg, ps])) (.val (.int 0)) = some (.val (.int n)) := rfl
  have j1 : ixF (.val (.tup [.int n, .str sg, ps])) (.val (.int 1)) = some (.val (.str sg)) := rfl
  simp_arith [j0, fRange_one (j := n) (by omega)]
  refine wp_loopOn (fun i : Nat => D.int i) (fun xs s => ∃ (t : Nat) (a2 a4 a5 : Slot), t + xs.length = n ∧ s = ⟨[.val (.tup [.int n, .str sg, ps]), .own (.lst (sts (spotsL t))), a2, .un, a4, a5], st⟩) ?_ ?_ _ _ ⟨0, .un, .un, .un, by simp, rfl⟩
  · rintro _ ⟨t, a2, a4, a5, ht, rfl⟩
    have ht : t = n := by simpa using ht
    subst ht
    simp_arith [iter_lst]
    refine wp_compP (fun z : Str => D.str z) (fun z => .tup [.str z, .bl false]) (xs := spotsL t) (Nat.le_trans (spotsL_len t h3) (by decide)) (fun z hz => ?_) ?_
    · simp_arith []
      trivial
    · simp_arith [j1]
      refine wp_ifM (fun e => ?_) (fun e => ?_)
      · simp_arith []
        refine ⟨?_, trivial⟩
        unfold spotsD
        rw [if_pos (of_decide_eq_true e), List.append_nil]
      · simp_arith [iter_lst]
        refine wp_compP (fun z : Str => D.str z) (fun z => .tup [.str z, .bl true]) (xs := spotsL t) (Nat.le_trans (spotsL_len t h3) (by decide)) (fun z hz => ?_) ?_
        · simp_arith []
          trivial
        · have := spotsL_len t h3
          simp_arith [add_to (l := (spotsL t).map fun z => D.tup [.str z, .bl false]) (k := (spotsL t).map fun z => D.tup [.str z, .bl true]) (by rw [List.length_map, List.length_map]; unfold LIM; omega)]
          refine ⟨?_, trivial⟩
          unfold spotsD
          rw [if_neg (of_decide_eq_false e)]
  · rintro x xs _ ⟨t, a2, a4, a5, ht, rfl⟩
    simp only [List.length_cons] at ht
    have ht3 : t ≤ 3 := by omega
    simp_arith [iter_lst]
    refine wp_loopOn (fun z : Str => D.str z) (fun zs s => ∃ (pre : List Str) (a5 : Slot), spotsL t = pre ++ zs ∧ s = ⟨[.val (.tup [.int n, .str sg, ps]), .val (.lst (sts (spotsL t))), .val (.int x), .un, .own (.lst (sts (pre.flatMap more3))), a5], st⟩) ?_ ?_ (spotsL t) _ ⟨[], _, rfl, rfl⟩
    · rintro _ ⟨pre, a5, hp, rfl⟩
      rw [List.append_nil] at hp
      simp_arith []
      exact ⟨t + 1, _, _, _, by omega, by rw [← hp]; rfl⟩
    · rintro z zs _ ⟨pre, a5, hp, rfl⟩
      have hz : z ∈ spotsL t := by rw [hp]; simp
      have l3 := spotsL_str t ht3 z hz
      have A : ∀ y : Str, y.length ≤ 3 → addF (.val (.str z)) (.val (.str y)) = some (.val (.str (z ++ y))) := fun y hy => add_str (by unfold LIM; omega)
      have lp : pre.length ≤ 27 := by
        have := spotsL_len t ht3
        rw [hp, List.length_append] at this
        omega
      have B := add_to (l := sts (pre.flatMap more3)) (k := [.str (z ++ "."), .str (z ++ "c"), .str (z ++ "d")]) (by rw [sts_len, flat3 more3 fun _ => rfl]; show 3 * pre.length + 3 ≤ LIM; unfold LIM; omega)
      simp_arith [A "." (by decide), A "c" (by decide), A "d" (by decide), B]
      exact ⟨pre ++ [z], _, by rw [hp]; simp, by rw [List.flatMap_append, sts_append]; rfl⟩
theorem sp_law_spots : Sp_law_spots (funF 6 1 n__law_spots) := by
  intro n sg ps st h1 h3 hs
  obtain ⟨r, st', e, h⟩ := (wp_law_spots n sg ps st h3).eq
  rw [e, h.1, h.2]
theorem spotsL_ok (n : Nat) (h1 : 1 ≤ n) (h3 : n ≤ 3) : ∀ z ∈ spotsL n, z.length = n ∧ z.cps.toList.all isMark = true := by
  have hc : ([1, 2, 3].all fun n => (spotsL n).all fun z => decide (z.length = n) && z.cps.toList.all isMark) = true := by decide +kernel
  intro z hz
  have hn : n = 1 ∨ n = 2 ∨ n = 3 := by omega
  have h4 := List.all_eq_true.mp (List.all_eq_true.mp hc n (by simp [hn])) z hz
  obtain ⟨a, b⟩ := Bool.and_eq_true_iff.mp h4
  exact ⟨of_decide_eq_true a, b⟩
theorem spotsD_ok {n : Nat} {sg : Str} (h1 : 1 ≤ n) (h3 : n ≤ 3) : ∀ d ∈ spotsD n sg, isStand n sg d = true := by
  intro d hd
  unfold spotsD at hd
  rcases List.mem_append.mp hd with hd | hd
  · obtain ⟨z, hz, rfl⟩ := List.mem_map.mp hd
    obtain ⟨a, b⟩ := spotsL_ok n h1 h3 z hz
    rw [isStand_str, b, a]
    simp
  · by_cases e : sg = "none"
    · rw [if_pos e] at hd; cases hd
    · rw [if_neg e] at hd
      obtain ⟨z, hz, rfl⟩ := List.mem_map.mp hd
      obtain ⟨a, b⟩ := spotsL_ok n h1 h3 z hz
      rw [isStand_str, b, a, decide_eq_false e]
      simp
end Pn


/-! R4 -/
set_option Elab.async false
set_option linter.all false
set_option maxRecDepth 100000
namespace Pn
open PySem PySem.Spec PyProof.Rows L2 Dn
/-! values of each kind -/
def Dp_values (F : FT) : Prop := ∀ (n : Nat) (k : Int) (sg : Str) (ps : List D) st, SrcAt st n → isKit (.tup [.int k, .str sg, .tup ps]) = true → WpF (F [.ref n, .tup [.int k, .str sg, .tup ps]] st) fun r st' => ∃ vs, r = .own (.lst vs) ∧ okL 300 15 vs ∧ Dr n st st'
theorem sl_cd {k : Int} (h1 : 1 ≤ k) (h3 : k ≤ 3) : ∃ z, slF (.val (.str "cd.")) none (some k) = some (.val (.str z)) ∧ gdB 30 (.str z) = true := by
  have hk : k = 1 ∨ k = 2 ∨ k = 3 := by omega
  rcases hk with rfl | rfl | rfl
  · exact ⟨_, rfl, by decide +kernel⟩
  · exact ⟨_, rfl, by decide +kernel⟩
  · exact ⟨_, rfl, by decide +kernel⟩
theorem mulF_tup {l : List D} {n : Int} (h2 : 2 ≤ n) (hn : n ≤ 1000) (hl : l.length ≤ 1000) (h0 : 0 < l.length) : mulF (.val (.tup l)) (.val (.int n)) = some (.val (.tup (List.replicate n.toNat l).flatten)) := by
  show (if (decide (2 ≤ n) && decide (n ≤ 1000) && decide (l.length ≤ 1000) && !l.isEmpty) = true then some (R.val (.tup (List.replicate n.toNat l).flatten)) else none) = _
  rw [decide_eq_true h2, decide_eq_true hn, decide_eq_true hl]
  cases l with
  | nil => cases h0
  | cons a l => rfl
theorem dp_values {F1 F2 F3 : FT} (h1 : Dp_var 3 F1) (h2 : Dp_pick F2) (h3 : Dp_any 3 F3) : Dp_values (funF 5 2 (n__law_values F1 F2 F3)) := by
  intro n k sg ps st hS hK
  have hk := kit_okL hK
  obtain ⟨n', sg', ps', ek, k1, k2, k3, k4, k5, k6⟩ := kit_form hK
  cases ek
  obtain ⟨p, ps2, rfl⟩ : ∃ p ps2, ps = p :: ps2 := by
    cases ps with
    | nil => cases k4
    | cons p ps2 => exact ⟨p, ps2, rfl⟩
  have okp := hab_ok (k6 p (by simp))
  obtain ⟨pa, pb, pc, pd, pe, pf, rfl, hpa⟩ := habit_form (k6 p (by simp))
  have okP := ps_ok k6
  have okp6 := okp.tupL
  generalize hl6 : [D.str pa, .str pb, .str pc, .str pd, .str pe, .bl pf] = l6 at *
  refine wpF_fun rfl ?_
  unfold n__law_values
  have j2 : ixF (.val (.tup [.int k, .str sg, .tup (.tup l6 :: ps2)])) (.val (.int 2)) = some (.val (.tup (.tup l6 :: ps2))) := rfl
  have j0 : ixF (.val (.tup [.int k, .str sg, .tup (.tup l6 :: ps2)])) (.val (.int 0)) = some (.val (.int k)) := rfl
  have i0 : ixF (.val (.tup (.tup l6 :: ps2))) (.val (.int 0)) = some (.val (.tup l6)) := ix_tup (j := 0) rfl
  have s2 : slF (.val (.tup [.int k, .str sg, .tup (.tup l6 :: ps2)])) none (some 2) = some (.val (.tup [.int k, .str sg])) := rfl
  have mu := mulF_tup (l := .tup l6 :: ps2) (n := 2) (by decide) (by decide) (by omega) (by omega)
  have ad : ∀ x, addF (.val (.tup [.int k, .str sg])) (.val (.tup [x])) = some (.val (.tup [.int k, .str sg, x])) := fun x => rfl
  have a2 : ∀ l m : List D, l.length ≤ 1000 → m.length ≤ 1000 → addF (.tmp (.lst l)) (.own (.lst m)) = some (.own (.lst (l ++ m))) := fun l m hl hm => add_to (by unfold LIM; omega)
  simp_arith [j2, i0, fList_tup, s2, mu, ad]
  have okH : okV 30 3 (.tup [.int k, .str sg, .tup (.tup l6 :: ps2)]) := hk.tup (by show 3 ≤ 30; decide)
  have okR : okL 30 1 (List.replicate (2 : Int).toNat (.tup l6 :: ps2)).flatten := by
    show okL 30 1 ((D.tup l6 :: ps2) ++ ((D.tup l6 :: ps2) ++ []))
    exact okP.append (okP.append okL.nil)
  have okRt : okV 30 2 (.tup (List.replicate (2 : Int).toNat (.tup l6 :: ps2)).flatten) := okR.tup (by
    show ((D.tup l6 :: ps2) ++ ((D.tup l6 :: ps2) ++ [])).length ≤ 30
    rw [List.length_append, List.length_append, List.length_nil]; omega)
  have cons : ∀ {N m : Nat} {d : D} {l : List D}, okV N m d → okL N m l → okL N m (d :: l) := fun {N m d l} hd hl x hx => by
    rcases List.mem_cons.mp hx with rfl | hx
    · exact hd
    · exact hl x hx
  have hm1 : okL 30 3 ([.tup [.int k, .str sg, .tup (.tup l6 :: ps2)], .lst [.int k, .str sg, .tup (.tup l6 :: ps2)], .tup (.tup l6 :: ps2), .tup l6, .lst l6, .non, .tup [], .str "..", .tup [.str "..", .bl true]] ++ [.tup [.int k, .str sg, .tup (List.replicate (2 : Int).toNat (.tup l6 :: ps2)).flatten], .tup [.str "cd", .bl false], .lst [.str "..", .bl false], .tup [.str "...", .bl false], .tup [.str ".", .bl true]]) := by
    have z : okL 30 3 [.non, .tup [], .str "..", .tup [.str "..", .bl true], .tup [.str "cd", .bl false], .lst [.str "..", .bl false], .tup [.str "...", .bl false], .tup [.str ".", .bl true]] := okL.all (by decide +kernel)
    have y1 : okV 30 3 (.lst [.int k, .str sg, .tup (.tup l6 :: ps2)]) := hk.lst (by show 3 ≤ 30; decide)
    have y2 : okV 30 3 (.tup (.tup l6 :: ps2)) := (okP.tup (by omega)).mono (Nat.le_refl _) (by decide)
    have y3 : okV 30 3 (.tup l6) := okp.mono (Nat.le_refl _) (by decide)
    have y4 : okV 30 3 (.lst l6) := (okp6.1.lst okp6.2).mono (Nat.le_refl _) (by decide)
    have y5 : okV 30 3 (.tup [.int k, .str sg, .tup (List.replicate (2 : Int).toNat (.tup l6 :: ps2)).flatten]) := okL.tup (m := 2) (fun x hx => by
      simp only [List.mem_cons, List.not_mem_nil, or_false] at hx
      rcases hx with rfl | rfl | rfl
      · exact ⟨rfl, Nat.zero_le _⟩
      · exact (sgs_ok k3).mono (Nat.le_refl _) (Nat.zero_le _)
      · exact okRt) (by show 3 ≤ 30; decide)
    intro x hx
    simp only [List.mem_append, List.mem_cons, List.not_mem_nil, or_false] at hx
    rcases hx with (rfl | rfl | rfl | rfl | rfl | rfl | rfl | rfl | rfl) | rfl | rfl | rfl | rfl | rfl
    · exact okH
    · exact y1
    · exact y2
    · exact y3
    · exact y4
    · exact z _ (by simp)
    · exact z _ (by simp)
    · exact z _ (by simp)
    · exact z _ (by simp)
    · exact y5
    · exact z _ (by simp)
    · exact z _ (by simp)
    · exact z _ (by simp)
    · exact z _ (by simp)
  have a9 : ∀ a b c d e f g h i j k' l' m o : D, addF (.tmp (.lst [a, b, c, d, e, f, g, h, i])) (.own (.lst [j, k', l', m, o])) = some (.own (.lst ([a, b, c, d, e, f, g, h, i, j, k', l', m, o]))) := fun _ _ _ _ _ _ _ _ _ _ _ _ _ _ => add_to (show 9 + 5 ≤ LIM by decide)
  have r20 : fRange [.val (.int 20)] = some ((List.range 20).map fun i => D.int (i : Nat)) := fRange_one (j := 20) (by decide)
  simp_arith [a9, r20]
  simp only [List.cons_append, List.nil_append] at hm1
  generalize hv : ([.tup [.int k, .str sg, .tup (.tup l6 :: ps2)], .lst [.int k, .str sg, .tup (.tup l6 :: ps2)], .tup (.tup l6 :: ps2), .tup l6, .lst l6, .non, .tup [], .str "..", .tup [.str "..", .bl true], .tup [.int k, .str sg, .tup (List.replicate (2 : Int).toNat (.tup l6 :: ps2)).flatten], .tup [.str "cd", .bl false], .lst [.str "..", .bl false], .tup [.str "...", .bl false], .tup [.str ".", .bl true]] : List D) = vs0 at hm1 ⊢
  have hv0 : vs0.length = 14 := by rw [← hv]; rfl
  refine wp_loopOn (fun i : Nat => D.int i) (fun xs s => ∃ (vs : List D) (a b : Slot) (st' : List SO), s = ⟨[.val (.ref n), .val (.tup [.int k, .str sg, .tup (.tup l6 :: ps2)]), .own (.lst vs), a, b], st'⟩ ∧ Dr n st st' ∧ okL 300 15 vs ∧ vs.length + 2 * xs.length ≤ 60) ?_ ?_ (List.range 20) _ ⟨vs0, _, _, st, rfl, Dr.refl hS, hm1.mono (by decide) (by decide), by rw [hv0, List.length_range]; decide⟩
  · rintro _ ⟨vs, a, b, st1, rfl, hD1, hvs, hl⟩
    simp_arith []
    refine wp_call (h3 n 3 st1 hD1.1 (by decide)) ?_
    rintro r st2 ⟨d, hr, hd, hD2⟩
    have z : okV 300 15 (.tup [.str "c.d", .int 1]) := (okL.all (l := [.tup [.str "c.d", .int 1]]) (by decide +kernel)) _ (by simp)
    have e2 : okL 300 15 [d, .tup [.str "c.d", .int 1]] := cons (hd.mono (by decide) (by decide)) (cons z okL.nil)
    have e3 := a2 vs [d, .tup [.str "c.d", .int 1]] (by omega) (by show 2 ≤ 1000; decide)
    rcases hr with rfl | rfl <;> simp_arith [e3] <;> exact ⟨_, rfl, hvs.append e2, hD1.trans hD2⟩
  · rintro x xs _ ⟨vs, a, b, st1, rfl, hD1, hvs, hl⟩
    simp only [List.length_cons] at hl
    obtain ⟨z, hz, gz⟩ := sl_cd k1 k2
    have g3 : isiF Tk.tuple.ty (R.val (.str "cd.")) = some (.val (.bl false)) := isi_str
    have md : modF (.val (.int x)) (.val (.int 2)) = some (.val (.int ((x : Int) % 2))) := modF_pos (by decide)
    simp_arith []
    refine Wp.mono (Q := fun r s' => ∃ l, r = .val (.tup l) ∧ s' = ⟨[.val (.ref n), .val (.tup [.int k, .str sg, .tup (.tup l6 :: ps2)]), .own (.lst vs), .val (.int x), b], st1⟩ ∧ okL 30 2 l ∧ l.length ≤ 30) ?_ ?_
    · refine wp_ifM (fun _ => ?_) (fun _ => ?_)
      · simp_arith []
        exact ⟨_, rfl, trivial, hk, by show 3 ≤ 30; decide⟩
      · simp_arith [j0, hz, md]
        refine ⟨_, rfl, trivial, fun y hy => ?_, by show 2 ≤ 30; decide⟩
        simp only [List.mem_cons, List.not_mem_nil, or_false] at hy
        rcases hy with rfl | rfl
        · exact ⟨gz, Nat.zero_le _⟩
        · exact ⟨rfl, Nat.zero_le _⟩
    · intro r s' h
      obtain ⟨l, e, h⟩ := h
      obtain ⟨e2, okl, ll⟩ := h
      subst e e2
      simp_arith []
      refine wp_call (h1 n l 3 30 2 st1 hD1.1 (by decide) (by decide) (by decide) (by decide) okl ll) ?_
      intro r st2 h
      obtain ⟨d, hr, h⟩ := h
      obtain ⟨hd, hD2⟩ := h
      have hd15 : okV 300 15 d := hd.mono (by decide) (by decide)
      have ap : appF d vs = some (vs ++ [d]) := appF_ok (by unfold LIM; omega)
      have ok1 : okL 300 15 (vs ++ [d]) := hvs.snoc hd15
      have l1 : (vs ++ [d]).length = vs.length + 1 := by simp
      have hty := isiF_of .tuple (.val d) (ty_gd hd.1)
      have fin : ∀ (a3 a4 : Slot), ∃ (vs' : List D) (a b : Slot) (st' : List SO), (⟨[.val (.ref n), .val (.tup [.int k, .str sg, .tup (.tup l6 :: ps2)]), .own (.lst (vs ++ [d])), a3, a4], st2⟩ : S) = ⟨[.val (.ref n), .val (.tup [.int k, .str sg, .tup (.tup l6 :: ps2)]), .own (.lst vs'), a, b], st'⟩ ∧ Dr n st st' ∧ okL 300 15 vs' ∧ vs'.length + 2 * xs.length ≤ 60 := fun a3 a4 => ⟨_, _, _, _, rfl, hD1.trans hD2, ok1, by omega⟩
      rcases hr with rfl | rfl <;> simp_arith [sApp_ap, chkL_ap, chkLO_own, modL_ap, modO_own, ap, setL_some, hty]
      all_goals
        refine wp_ifM (fun ht => ?_) (fun _ => ?_)
        · simp_arith []
          refine wp_call (h2 n 3 st2 hD2.1 (by decide) (by decide)) ?_
          (intro r_ st3 h_; obtain ⟨j, e_, h_⟩ := h_; obtain ⟨j1, hD3⟩ := h_; subst e_)
          simp_arith []
          refine wp_ifM (fun _ => ?_) (fun _ => ?_)
          · cases d with
            | tup l2 =>
              obtain ⟨okl2, ll2⟩ := hd.tupL
              simp_arith [sApp_ap, chkL_ap, chkLO_own]
              refine wp_call (h1 n l2 3 90 6 st3 hD3.1 (by decide) (by decide) (by decide) (by decide) okl2 ll2) ?_
              intro r st4 h
              obtain ⟨d2, hr2, h⟩ := h
              obtain ⟨hd2, hD4⟩ := h
              have ap2 : appF d2 (vs ++ [.tup l2]) = some (vs ++ [.tup l2] ++ [d2]) := appF_ok (by unfold LIM; omega)
              rcases hr2 with rfl | rfl <;> simp_arith [modL_ap, modO_own, ap2, setL_some] <;>
                exact ⟨_, _, _, _, rfl, hD1.trans (hD2.trans (hD3.trans hD4)), ok1.snoc (hd2.mono (by decide) (by decide)), by simp only [List.length_append, List.length_cons, List.length_nil]; omega⟩
            | _ => cases ht
          · simp_arith []
            exact ⟨_, _, _, _, rfl, hD1.trans (hD2.trans hD3), ok1, by omega⟩
        · simp_arith []
          exact fin _ _
end Pn


/-! R5 -/
set_option Elab.async false
set_option linter.all false
set_option maxRecDepth 100000
namespace Pn
open PySem PySem.Spec PyProof.Rows L2 Dn
/-! the law -/
theorem iter_own {l : List D} {s : S} : iterD (.lst l) = some l := rfl
theorem kit2 {n : Int} {sg : Str} : isKit (.tup [.int n, .str sg]) = false := rfl
theorem dots_ok {n : Int} {sg : Str} (h1 : 1 ≤ n) (h3 : n ≤ 3) : ∃ z, mulF (.val (.str ".")) (.val (.int n)) = some (.val (.str z)) ∧ isStand n sg (.tup [.str z, .bl false]) = true ∧ gdB 30 (.tup [.str z, .bl false]) = true := by
  have hn : n = 1 ∨ n = 2 ∨ n = 3 := by omega
  have st : ∀ (n : Int) (z : Str), (decide ((z.length : Int) = n) && z.cps.toList.all isMark) = true → isStand n sg (.tup [.str z, .bl false]) = true := fun n z h => by
    rw [isStand_str, h]
    simp
  rcases hn with rfl | rfl | rfl
  · exact ⟨".", rfl, st _ _ (by decide +kernel), by decide +kernel⟩
  · exact ⟨"..", rfl, st _ _ (by decide +kernel), by decide +kernel⟩
  · exact ⟨"...", rfl, st _ _ (by decide +kernel), by decide +kernel⟩
def pD : D := .tup [.str "sign", .str "adds", .str "one", .str "each", .str "both", .bl false]
theorem sl_k2 {n : Int} {sg : Str} {p : D} : slF (.val (.tup [.int n, .str sg, p])) none (some 2) = some (.val (.tup [.int n, .str sg])) := rfl
/-- the law's end -/
def Pl (F : FT) : Prop := ∀ ns : List Int, ns.length ≤ 63 → WpF (F [.lst (ns.map D.int)] []) fun r _ => r = .val (.bl true)
theorem ne_str {x y : Str} (h : x = y) : neF (.val (.str x)) (.val (.str y)) = some (.val (.bl false)) := by
  show some (R.val (.bl (!decide (x = y)))) = _
  rw [decide_eq_true h]
  rfl
theorem sp_law_k01 {F1 F2 F3 F4 F5 F6 F7 F8 F9 F10 F11 F12 F13 F14 : FT} (h1 : Sp_law_source F1) (h2 : Dp_house F2) (h3 : Sp_law_spots F3) (h4 : Sp_law_is_bool F4) (h5 : Sp_is_stand F5) (h6 : Sp_law_outcome F6) (h7 : Sp_law_sure F7) (h8 : Dp_values F8) (h9 : Sp_is_habit F9)
    (h10 : Sp_law_good_habit F10) (h11 : Sp_law_good_house F11) (h12 : Sp_is_kitchen F12) (h13 : Sp_law_refused F13) (h14 : Sp_law_good_spot F14) : Pl (funF 12 1 (n_law F1 F2 F3 F4 F5 F6 F7 F8 F9 F10 F11 F12 F13 F14)) := by
  intro ns hns
  refine wpF_fun (np := 1) (by rfl) ?_
  unfold n_law
  have hL : (ns.map D.int).length = ns.length := List.length_map _
  generalize hlD : ns.map D.int = lD at hL
  have hlen : fLen [.val (.lst lD)] = some (.val (.int ns.length)) := by rw [← hL]; rfl
  have r5 : fRange [.val (.int (if (if (ns.length : Int) < 16 then (ns.length : Int) else 16) > 5 then (if (ns.length : Int) < 16 then (ns.length : Int) else 16) else 5))] = some ((List.range (Dn.cnt 5 16 ns.length)).map fun i => D.int (i : Nat)) := by
    have e := cnt_eq (a := 5) (b := 16) (L := ns.length)
    rw [show ((16 : Nat) : Int) = 16 from rfl, show ((5 : Nat) : Int) = 5 from rfl] at e
    rw [e, fRange_one (by unfold Dn.cnt; omega)]
  simp_arith [hL, fMin_int, fMax_int, r5]
  refine wp_each (fun i : Nat => D.int i) (P := fun k => k < 64) (fun s => ∃ (a1 a2 a3 a4 a5 a6 a7 a8 a9 a10 a11 : Slot) (st : List SO), s = ⟨[.val (.lst lD), a1, a2, a3, a4, a5, a6, a7, a8, a9, a10, a11], st⟩) ?_ ?_ (xs := List.range (Dn.cnt 5 16 ns.length)) (fun k hk => by
    have := List.mem_range.mp hk
    unfold Dn.cnt at this
    omega) ⟨_, _, _, _, _, _, _, _, _, _, _, _, rfl⟩
  · intro s h
    obtain ⟨a1, a2, a3, a4, a5, a6, a7, a8, a9, a10, a11, st, e⟩ := h
    subst e
    have kk : ∀ (v : D) (b : Bool), gdB 30 v = true → isKit v = b → F12 [v] st = .ok (.val (.bl b)) st := fun v b g e => by rw [← e]; exact h12 v 30 st (by decide) g
    have e1 := kk (.tup [.int 0, .str "own", .tup [pD]]) false (by decide +kernel) (by decide +kernel)
    have e2 := kk (.tup [.int 4, .str "own", .tup [pD]]) false (by decide +kernel) (by decide +kernel)
    have e3 := kk (.tup [.int 3, .str "own", .tup [pD, pD, pD]]) true (by decide +kernel) (by decide +kernel)
    have e4 := kk (.tup [.int 3, .str "own", .tup [pD, pD, pD, pD]]) false (by decide +kernel) (by decide +kernel)
    have e5 := kk (.tup [.int 1, .str "hands", .tup [pD]]) false (by decide +kernel) (by decide +kernel)
    have e6 := kk (.tup [.int 1, .str "own", .tup []]) false (by decide +kernel) (by decide +kernel)
    have m3 : mulF (.val (.tup [pD])) (.val (.int 3)) = some (.val (.tup [pD, pD, pD])) := rfl
    have m4 : mulF (.val (.tup [pD])) (.val (.int 4)) = some (.val (.tup [pD, pD, pD, pD])) := rfl
    have n2 : mulF (.own (.lst [.bl false])) (.val (.int 2)) = some (.own (.lst [.bl false, .bl false])) := rfl
    have n3 : mulF (.own (.lst [.bl false])) (.val (.int 3)) = some (.own (.lst [.bl false, .bl false, .bl false])) := rfl
    have ad : ∀ a b c d e f : D, addF (.tmp (.lst [a, b, c, d])) (.own (.lst [e, f])) = some (.own (.lst [a, b, c, d, e, f])) := fun a b c d e f => rfl
    have ad1 : ∀ a b c : D, addF (.own (.lst [a, b])) (.own (.lst [c])) = some (.own (.lst [a, b, c])) := fun a b c => rfl
    have ad2 : ∀ a b c d e f : D, addF (.own (.lst [a, b, c])) (.own (.lst [d, e, f])) = some (.own (.lst [a, b, c, d, e, f])) := fun a b c d e f => rfl
    have eq : eqF (.own (.lst [.bl false, .bl false, .bl true, .bl false, .bl false, .bl false])) (.own (.lst [.bl false, .bl false, .bl true, .bl false, .bl false, .bl false])) = some (.val (.bl true)) := by kernel_rfl
    simp_arith [show (D.tup [.str "sign", .str "adds", .str "one", .str "each", .str "both", .bl false]) = pD from rfl, m3, m4, ad, iter_lst, compM_cons, e1, e2, e3, e4, e5, e6, n2, n3, ad1, ad2, eq]
  · intro k s hk h
    obtain ⟨a1, a2, a3, a4, a5, a6, a7, a8, a9, a10, a11, st, e⟩ := h
    subst e
    obtain ⟨a, b, e1, hb0, hb1⟩ := h1 ns k st hk (by omega)
    rw [hlD] at e1
    simp_arith [e1]
    have hS : SrcAt (st ++ [.lst [.int a, .int b]]) st.length := ⟨a, b, by simp, hb0, hb1⟩
    generalize st ++ [.lst [.int a, .int b]] = st0 at hS ⊢
    generalize st.length = n at hS ⊢
    refine wp_call (h2 n 3 st0 hS (by decide) (by decide)) ?_
    intro r st1 h
    obtain ⟨q, sg, ps, e, h⟩ := h
    obtain ⟨hK, hD⟩ := h
    obtain ⟨_, hD1⟩ := hD
    subst e
    have hS1 := hD1.1
    obtain ⟨n', sg', ps', ek, k1, k2, k3, k4, k5, k6⟩ := kit_form hK
    cases ek
    have okH : gdB 30 (.tup [.int q, .str sg, .tup ps]) = true := ((kit_okL hK).tup (by show 3 ≤ 30; decide)).1
    obtain ⟨qn, rfl⟩ := Int.eq_ofNat_of_zero_le (show 0 ≤ q by omega)
    have e3 := h3 qn sg (.tup ps) st1 (by omega) (by omega) k3
    have j2 : ixF (.val (.tup [.int qn, .str sg, .tup ps])) (.val (.int 2)) = some (.val (.tup ps)) := rfl
    have j0 : ixF (.val (.tup [.int qn, .str sg, .tup ps])) (.val (.int 0)) = some (.val (.int qn)) := rfl
    simp_arith [e3, iter_lst]
    refine wp_eachD (P := fun d => isStand qn sg d = true) (fun s => ∃ (a2 a3 a6 a7 a8 a9 a10 a11 : Slot), s = ⟨[.val (.lst lD), .val (.int k), a2, a3, .val (.ref n), .val (.tup [.int qn, .str sg, .tup ps]), a6, a7, a8, a9, a10, a11], st1⟩) ?_ ?_ (spotsD_ok (by omega) (by omega)) ⟨_, _, _, _, _, _, _, _, rfl⟩
    · intro s h
      obtain ⟨a2, a3, a6, a7, a8, a9, a10, a11, e⟩ := h
      subst e
      simp_arith []
      refine wp_call (h8 n qn sg ps st1 hS1 hK) ?_
      intro r st2 h
      obtain ⟨vs, e, h⟩ := h
      obtain ⟨hv, hD2⟩ := h
      subst e
      simp_arith [iter_lst]
      refine wp_eachD (P := fun d => okV 300 15 d) (fun s => ∃ (a2 a3 a6 a7 a8 a9 a10 a11 : Slot), s = ⟨[.val (.lst lD), .val (.int k), a2, a3, .val (.ref n), .val (.tup [.int qn, .str sg, .tup ps]), a6, a7, a8, a9, a10, a11], st2⟩) ?_ ?_ hv ⟨_, _, _, _, _, _, _, _, rfl⟩
      · intro s h
        obtain ⟨a2, a3, a6, a7, a8, a9, a10, a11, e⟩ := h
        subst e
        have ng : negF (.val (.int 1)) = some (.val (.int (-1))) := rfl
        obtain ⟨z, hz, hst, gz⟩ := dots_ok (n := qn) (sg := sg) k1 k2
        simp_arith [j2, ng, iter_lst]
        refine wp_eachD (P := fun d => isWhole d 0 ((ps.length : Int) - 1) = false ∧ (tyD d).isSome = true) (fun s => ∃ (a2 a3 a6 a7 a8 a9 a10 a11 : Slot), s = ⟨[.val (.lst lD), .val (.int k), a2, a3, .val (.ref n), .val (.tup [.int qn, .str sg, .tup ps]), a6, a7, a8, a9, a10, a11], st2⟩) ?_ ?_ ?_ ⟨_, _, _, _, _, _, _, _, rfl⟩
        · intro s h
          obtain ⟨a2, a3, a6, a7, a8, a9, a10, a11, e⟩ := h
          subst e
          have e6 := h6.1 (.tup [.int qn, .str sg]) (.int 0) (.int 0) 30 st2 (by decide) (gd_mono (N := 30) (Nat.le_refl _) (by
            have := kit_okL hK
            exact (okL.tup (N := 30) (m := 2) (l := [.int qn, .str sg]) (fun x hx => this x (by simp only [List.mem_cons, List.not_mem_nil, or_false] at hx ⊢; rcases hx with h | h <;> simp [h])) (by show 2 ≤ 30; decide)).1)) kit2
          simp_arith [sl_k2, e6, ne_str rfl]
          exact ⟨_, _, _, _, _, _, _, _, _, _, _, _, rfl⟩
        · intro d s hd h
          obtain ⟨a2, a3, a6, a7, a8, a9, a10, a11, e⟩ := h
          subst e
          have e6 := (h6.2 qn sg ps (.tup [.str z, .bl false]) d 30 30 st2 (by decide) okH hK (by decide) (by decide) gz hd.2).2.1 hst hd.1
          simp_arith [j0, hz, e6, ne_str rfl]
          exact ⟨_, _, _, _, _, _, _, _, rfl⟩
        · intro d hd
          simp only [List.mem_cons, List.not_mem_nil, or_false] at hd
          have w : ∀ i : Int, isWhole (.int i) 0 ((ps.length : Int) - 1) = (decide (0 ≤ i) && decide (i ≤ (ps.length : Int) - 1)) := fun i => rfl
          rcases hd with rfl | rfl | rfl | rfl | rfl
          · exact ⟨rfl, rfl⟩
          · exact ⟨by rw [w, decide_eq_false (by decide)]; rfl, rfl⟩
          · exact ⟨by rw [w, decide_eq_false (show ¬ (ps.length : Int) ≤ (ps.length : Int) - 1 by omega), Bool.and_false], rfl⟩
          · exact ⟨rfl, rfl⟩
          · exact ⟨rfl, rfl⟩
      · intro d s hd h
        obtain ⟨a2, a3, a6, a7, a8, a9, a10, a11, e⟩ := h
        subst e
        obtain ⟨gd, dd⟩ := hd
        have lim : 300 ≤ LIM := by decide
        have f9 := h9 d 300 st2 lim gd
        have f10 := h10 d 300 st2 lim gd (by omega)
        have f11 := h11 d 300 st2 lim gd (by omega)
        have f12 := h12 d 300 st2 lim gd
        have f13 := h13 d 300 st2 lim gd
        have f14 := h14 qn sg [.tup ps] d 300 st2 (by decide) lim gd
        have f5 := h5.2 qn sg ps d 30 300 st2 (by decide) okH hK (by decide) lim gd
        have f4 := fun b => h4 b b st2
        have f6 := (h6.2 qn sg ps d .non 30 300 st2 (by decide) okH hK (by decide) lim gd rfl).1
        cases q1 : isKit d <;> cases q2 : isStand qn sg d
        · simp_arith [f9, f10, f11, f12, f13, f14, f5, f4, q1, q2, beq_self_eq_true, f6 q2, ne_str rfl]
          exact ⟨_, _, _, _, _, _, _, _, rfl⟩
        · simp_arith [f9, f10, f11, f12, f13, f14, f5, f4, q1, q2, beq_self_eq_true, ne_str rfl]
          exact ⟨_, _, _, _, _, _, _, _, rfl⟩
        · simp_arith [f9, f10, f11, f12, f13, f14, f5, f4, q1, q2, beq_self_eq_true, f6 q2, ne_str rfl]
          exact ⟨_, _, _, _, _, _, _, _, rfl⟩
        · simp_arith [f9, f10, f11, f12, f13, f14, f5, f4, q1, q2, beq_self_eq_true, ne_str rfl]
          exact ⟨_, _, _, _, _, _, _, _, rfl⟩
    · intro d s hd h
      obtain ⟨a2, a3, a6, a7, a8, a9, a10, a11, e⟩ := h
      subst e
      obtain ⟨z, b, rfl, z1, z2, z3⟩ := stand_form hd
      have gz : gdB 30 (.tup [.str z, .bl b]) = true := by
        have hz : okV 30 0 (.str z) := by
          have hm := mem_allSp z2 (by omega) (by omega)
          have : (allSp.all fun z => gdB 30 (.str z)) = true := by decide +kernel
          exact ⟨List.all_eq_true.mp this z hm, Nat.zero_le _⟩
        exact (okL.tup (m := 0) (l := [.str z, .bl b]) (fun x hx => by
          simp only [List.mem_cons, List.not_mem_nil, or_false] at hx
          rcases hx with rfl | rfl
          · exact hz
          · exact ⟨rfl, Nat.zero_le _⟩) (by show 2 ≤ 30; decide)).1
      have f5 := h5.2 qn sg ps (.tup [.str z, .bl b]) 30 30 st1 (by decide) okH hK (by decide) (by decide) gz
      rw [hd] at f5
      have f4 := fun b => h4 b b st1
      simp_arith [f5, f4, beq_self_eq_true, j2, fEnum_tup]
      refine wp_each (fun p : D × Nat => D.tup [.int (p.2 : Nat), p.1]) (P := fun p => ps[p.2]? = some p.1) (fun s => ∃ (a2 a3 a7 a8 a9 a10 a11 : Slot), s = ⟨[.val (.lst lD), .val (.int k), a2, a3, .val (.ref n), .val (.tup [.int qn, .str sg, .tup ps]), .val (.tup [.str z, .bl b]), a7, a8, a9, a10, a11], st1⟩) ?_ ?_ (xs := ps.zipIdx) (fun p hp => List.mem_zipIdx_iff_getElem?.mp hp) ⟨_, _, _, _, _, _, _, rfl⟩
      · intro s h
        obtain ⟨a2, a3, a7, a8, a9, a10, a11, e⟩ := h
        subst e
        simp_arith []
        exact ⟨_, _, _, _, _, _, _, _, rfl⟩
      · intro p s hp h
        obtain ⟨a2, a3, a7, a8, a9, a10, a11, e⟩ := h
        subst e
        obtain ⟨p1, i⟩ := p
        have hi : i < ps.length := (List.getElem?_eq_some_iff.mp hp).1
        obtain ⟨c1, c2, c3, c4, c5, c6, rfl, m1, _⟩ := habit_form (k6 p1 (List.mem_of_getElem? hp))
        have i0 : ixF (.val (.tup [.str c1, .str c2, .str c3, .str c4, .str c5, .bl c6])) (.val (.int 0)) = some (.val (.str c1)) := rfl
        have f7 := h7 c1 z b st1 m1 (mem_allSp z2 (by omega) (by omega))
        have hw : isWhole (.int (i : Nat)) 0 ((ps.length : Int) - 1) = true := by
          show (decide ((0 : Int) ≤ (i : Nat)) && decide (((i : Nat) : Int) ≤ (ps.length : Int) - 1)) = true
          rw [decide_eq_true (by omega), decide_eq_true (by omega)]
          rfl
        have hb : believeR qn sg ps (.tup [.str z, .bl b]) (.int (i : Nat)) st1 = .ok (.val (.bl (sure c1 z b))) st1 := by
          unfold believeR
          rw [hd, if_pos rfl, hw, if_pos rfl]
          show (match ps[(i : Int).toNat]? with
            | some (.tup [.str l, _, _, _, _, _]) => RF.ok (.val (.bl (sure l z b))) st1
            | _ => .stuck) = _
          rw [Int.toNat_natCast, hp]
        have f6 := (h6.2 qn sg ps (.tup [.str z, .bl b]) (.int (i : Nat)) 30 30 st1 (by decide) okH hK (by decide) (by decide) gz rfl).2.2 _ hb
        simp_arith [f6, i0, f7, f4, beq_self_eq_true]
        exact ⟨_, _, _, _, _, _, _, rfl⟩
end Pn


/-! Ev5 -/
set_option Elab.async false
set_option linter.all false
set_option maxRecDepth 100000
namespace Dn
open PySem PySem.Spec PyProof.Rows L2
/-! and, or of what only looks: both sides at once -/
def iteR {α : Type} (b : Bool) (x y : Res α) : Res α := if b = true then x else y
theorem iteR_t {x y : Res R} : iteR true x y = x := rfl
theorem iteR_f {x y : Res R} : iteR false x y = y := rfl
theorem iteT_t {x y : Res Bool} : iteR true x y = x := rfl
theorem iteT_f {x y : Res Bool} : iteR false x y = y := rfl
section
variable {b c : Bool} {s : S} {fa fb : M R} {ta tb : M Bool}
theorem iteR_and : iteR b (.ok (R.val (.bl c)) s) (.ok (R.val (.bl false)) s) = .ok (.val (.bl (b && c))) s := by cases b <;> rfl
theorem iteR_or : iteR b (.ok (R.val (.bl true)) s) (.ok (R.val (.bl c)) s) = .ok (.val (.bl (b || c))) s := by cases b <;> rfl
theorem iteT_and : iteR b (.ok c s) (.ok false s) = .ok (b && c) s := by cases b <;> rfl
theorem iteT_or : iteR b (.ok true s) (.ok c s) = .ok (b || c) s := by cases b <;> rfl
theorem eAndM_aq : eAndM fa fb s = (fa s).bd fun r s1 => (truF r s1).bd fun b s2 => iteR b (fb s2) (.ok (.val (.bl false)) s2) := by
  show (fa s).bd _ = _
  refine bd_congr (funext fun r => funext fun s1 => ?_)
  show (truF r s1).bd _ = _
  refine bd_congr (funext fun b => funext fun s2 => ?_)
  cases b <;> rfl
theorem eOrM_aq : eOrM fa fb s = (fa s).bd fun r s1 => (truF r s1).bd fun b s2 => iteR b (.ok (.val (.bl true)) s2) (fb s2) := by
  show (fa s).bd _ = _
  refine bd_congr (funext fun r => funext fun s1 => ?_)
  show (truF r s1).bd _ = _
  refine bd_congr (funext fun b => funext fun s2 => ?_)
  cases b <;> rfl
theorem tAndM_aq : tAndM ta tb s = (ta s).bd fun b s2 => iteR b (tb s2) (.ok false s2) := by
  show (ta s).bd _ = _
  refine bd_congr (funext fun b => funext fun s2 => ?_)
  cases b <;> rfl
theorem tOrM_aq : tOrM ta tb s = (ta s).bd fun b s2 => iteR b (.ok true s2) (tb s2) := by
  show (ta s).bd _ = _
  refine bd_congr (funext fun b => funext fun s2 => ?_)
  cases b <;> rfl
end
theorem WpF.eqv {rf : RF} {a : R} {st : List SO} (h : WpF rf fun r st' => r = a ∧ st' = st) : rf = .ok a st := by
  obtain ⟨r, st', e, h⟩ := h.eq
  rw [e, h.1, h.2]
end Dn

local macro_rules
  | `(tactic| simp_all_arith [$ls,*]) => `(tactic| simp -implicitDefEqProofs -dsimp only [Dn.bindM_ap, Dn.rb_ok, Dn.rb_exc, Dn.rb_stuck, Dn.retM_ap, Dn.eLit_ap, Dn.eBor_ap, Dn.eLoc_ap, Dn.eMov_ap, Dn.getV_val, Dn.getV_own, Dn.getL_val, Dn.getL_own, Dn.getM_val, Dn.getM_own, Dn.eBin_ap, Dn.tVal_ap, Dn.truF_bl, Dn.truF_tbl, Dn.ifM_true, Dn.ifM_false, Dn.tNotM_ap, Dn.eNotM_ap, Dn.tAndM_aq, Dn.tOrM_aq, Dn.eAndM_aq, Dn.eOrM_aq, Dn.iteR_t, Dn.iteR_f, Dn.iteR_and, Dn.iteR_or, Dn.iteT_t, Dn.iteT_f, Dn.iteT_and, Dn.iteT_or, Dn.eIfM_ap, Dn.eChain_ap, Dn.tChn_ap, Dn.argR_ap, Dn.argD_ap, Dn.escF_val, Dn.escF_own, Dn.okB_true, Dn.eTupM_ap, Dn.eLstM_ap, Dn.pureF_op, Dn.optM_some, Dn.eCall_ap, Dn.eIsi_ap, Dn.partF_ap, Dn.eSlc_ap, Dn.eRev_ap, Dn.eNeg_ap, Dn.eStrM_ap, Dn.eRepl_ap, Dn.eIter_ap, Dn.eRange_ap, Dn.eWalk_ap, Dn.eDisp_ap, Dn.eFn_apK, Dn.fnK_ok, Dn.fnK_exc, Dn.sSeq_ap, Dn.nxt_nx, Dn.nxt_ret, Dn.nxt_brk, Dn.nxt_cont, Dn.sDrop_ap, Dn.sRet_ap, Dn.sIf_ap, Dn.asgM_val, Dn.asgM_own, Dn.asgRef_own, Dn.asgRef_val, Dn.sAsg_ap, Dn.gsNil_ap, Dn.gsCons_ap, Dn.sPar_ap, Dn.parS_nil, Dn.parS_cons, Dn.sFor_ap, Dn.sRaise_ap, Dn.sTry_apK, Dn.trK_ok, Dn.trK_exc, Dn.eComp_ap, Dn.outP_val, Dn.outP_own, Dn.outP_nx, Dn.opD_add, Dn.opD_sub, Dn.opD_mul, Dn.opD_mod, Dn.opD_fdv, Dn.opD_pow, Dn.cmpD_eq, Dn.cmpD_ne, Dn.cmpD_lt, Dn.cmpD_le, Dn.cmpD_gt, Dn.cmpD_ge, Dn.cmpD_is, Dn.cmpD_isn, Dn.cmpD_in, Dn.cmpD_nin, Dn.ixM_lst, Dn.ixM_tlst, Dn.ixM_olst, Dn.ixM_tup, Dn.ixM_str, List.getElem?_cons_zero, List.getElem?_cons_succ, List.set_cons_zero, List.set_cons_succ, List.map_cons, List.map_nil, List.length_cons, List.length_nil, List.cons_append, List.nil_append, List.replicate, Dn.R.d, Nat.reduceAdd, Nat.reduceSub, Nat.reduceLeDiff, Nat.reduceLT, Nat.zero_add, Dn.LIM, decide_true, decide_false, Bool.not_true, Bool.not_false, List.zip_cons_cons, List.zip_nil_left, List.reverse_cons, List.reverse_nil, Dn.cmpK_ok, Dn.compM_nil, Dn.asInt_int, Dn.asStr_str, Option.map_some, Dn.wipeE_nil, Dn.wipeE_cons, Dn.mergeE_nil, Dn.mergeE_cons, Dn.sltO_some, Int.cast_ofNat_Int, Int.reduceEq, Int.reduceLE, Int.reduceLT, Dn.gTup_val, Dn.isi_non, Dn.isi_bl, Dn.isi_int, Dn.isi_str, Dn.isi_tup, Dn.isi_lst, Dn.isi_tlst, Dn.isi_olst, Dn.tk_int_non, Dn.tk_int_bl, Dn.tk_int_int, Dn.tk_int_str, Dn.tk_int_tup, Dn.tk_int_lst, Dn.tk_bool_non, Dn.tk_bool_bl, Dn.tk_bool_int, Dn.tk_bool_str, Dn.tk_bool_tup, Dn.tk_bool_lst, Dn.tk_str_non, Dn.tk_str_bl, Dn.tk_str_int, Dn.tk_str_str, Dn.tk_str_tup, Dn.tk_str_lst, Dn.tk_tuple_non, Dn.tk_tuple_bl, Dn.tk_tuple_int, Dn.tk_tuple_str, Dn.tk_tuple_tup, Dn.tk_tuple_lst, Dn.tk_list_non, Dn.tk_list_bl, Dn.tk_list_int, Dn.tk_list_str, Dn.tk_list_tup, Dn.tk_list_lst, Dn.fLen_tup, Dn.fLen_lst, Dn.fLen_tlst, Dn.fLen_olst, Dn.icF_int, Dn.eqF_int, Dn.neF_int, Dn.eqF_str, Dn.neF_str, Dn.addF_int, Dn.subF_int, Dn.wp_ok, Dn.wp_bind, Dn.lpP_nx, Dn.lpP_cont, Dn.lpP_brk, Dn.lpP_ret, Dn.cmP_true, Dn.cmP_false, Dn.loopM_nil, $ls,*])

/-! S1 -/
set_option Elab.async false
set_option linter.all false
set_option maxRecDepth 100000
namespace Pn
open PySem PySem.Spec PyProof.Rows L2 Dn
/-! ### what is meant: habits, kitchens, stands, deeds -/
structure Hab where
  looks : Str
  brings : Str
  takes : Str
  starts : Str
  turns : Str
  forgets : Bool
  deriving DecidableEq
abbrev Hab.d (h : Hab) : D := .tup [.str h.looks, .str h.brings, .str h.takes, .str h.starts, .str h.turns, .bl h.forgets]
structure HabOk (h : Hab) : Prop where
  looks : h.looks ∈ lks
  brings : h.brings ∈ (["adds", "empties", "waits"] : List Str)
  takes : h.takes ∈ (["all", "one"] : List Str)
  starts : h.starts ∈ (["each", "full", "never"] : List Str)
  turns : h.turns ∈ (["both", "never", "start"] : List Str)
structure Kit where
  n : Nat
  sg : Str
  ps : List Hab
  deriving DecidableEq
abbrev Kit.d (k : Kit) : D := .tup [.int k.n, .str k.sg, .tup (k.ps.map Hab.d)]
structure KitOk (k : Kit) : Prop where
  n1 : 1 ≤ k.n
  n3 : k.n ≤ 3
  sg : k.sg ∈ sgs
  p1 : 1 ≤ k.ps.length
  p3 : k.ps.length ≤ 3
  ps : ∀ p ∈ k.ps, HabOk p
structure Spot where
  z : Str
  b : Bool
  deriving DecidableEq
abbrev Spot.d (s : Spot) : D := .tup [.str s.z, .bl s.b]
structure SpotOk (k : Kit) (s : Spot) : Prop where
  len : s.z.length = k.n
  marks : s.z.cps.toList.all isMark = true
  none : k.sg = "none" → s.b = false
structure Deed where
  br : Bool
  num : Nat
  fg : Bool
  deriving DecidableEq
def brS (b : Bool) : Str := if b = true then "bring" else "want"
abbrev Deed.d (x : Deed) : D := .tup [.str (brS x.br), .int x.num, .bl x.fg]
theorem hab_model {p : D} (h : isHabit p = true) : ∃ x : Hab, p = x.d ∧ HabOk x := by
  obtain ⟨a, b, c, d, e, f, rfl, ha, hb, hc, hd, he⟩ := habit_form h
  exact ⟨⟨a, b, c, d, e, f⟩, rfl, ha, hb, hc, hd, he⟩
theorem habs_model : ∀ {l : List D}, (∀ p ∈ l, isHabit p = true) → ∃ xs : List Hab, l = xs.map Hab.d ∧ ∀ x ∈ xs, HabOk x
  | [], _ => ⟨[], rfl, fun _ h => by cases h⟩
  | p :: l, h => by
    obtain ⟨x, rfl, hx⟩ := hab_model (h p (by simp))
    obtain ⟨xs, rfl, hxs⟩ := habs_model (l := l) fun q hq => h q (by simp [hq])
    refine ⟨x :: xs, rfl, fun y hy => ?_⟩
    rcases List.mem_cons.mp hy with rfl | hy
    · exact hx
    · exact hxs y hy
theorem kit_model {d : D} (h : isKit d = true) : ∃ k : Kit, d = k.d ∧ KitOk k := by
  obtain ⟨n, sg, ps, rfl, h1, h2, h3, h4, h5, h6⟩ := kit_form h
  obtain ⟨xs, rfl, hx⟩ := habs_model h6
  obtain ⟨m, rfl⟩ := Int.eq_ofNat_of_zero_le (show 0 ≤ n by omega)
  rw [List.length_map] at h4 h5
  exact ⟨⟨m, sg, xs⟩, rfl, ⟨by show 1 ≤ m; omega, by show m ≤ 3; omega, h3, h4, h5, hx⟩⟩
theorem isWord_mem {z : Str} {ws : List Str} (h : z ∈ ws) : isWord (.str z) ws = true := List.contains_iff_mem.mpr h
theorem HabOk.is {h : Hab} (k : HabOk h) : isHabit h.d = true := by
  show (wordsOk [.str h.looks, .str h.brings, .str h.takes, .str h.starts, .str h.turns] chs && isTk .bool (.bl h.forgets)) = true
  simp only [wordsOk, chs]
  have hl : isWord (.str h.looks) ["dish", "full", "sign"] = true := isWord_mem k.looks
  rw [hl, isWord_mem k.brings, isWord_mem k.takes, isWord_mem k.starts, isWord_mem k.turns]
  rfl
theorem KitOk.is {k : Kit} (h : KitOk k) : isKit k.d = true := by
  have h1 := h.n1
  have h3 := h.n3
  refine kit_of (by omega) (by omega) h.sg (by rw [List.length_map]; exact h.p1) (by rw [List.length_map]; exact h.p3) fun p hp => ?_
  obtain ⟨x, hx, rfl⟩ := List.mem_map.mp hp
  exact (h.ps x hx).is
theorem KitOk.gd {k : Kit} (h : KitOk k) : okV 30 3 k.d := (kit_okL h.is).tup (by show 3 ≤ 30; decide)
theorem SpotOk.is {k : Kit} {s : Spot} (h : SpotOk k s) : isStand k.n k.sg s.d = true := by
  show isStand k.n k.sg (.tup [.str s.z, .bl s.b]) = true
  rw [isStand_str, h.marks, decide_eq_true (show ((s.z.length : Int) = k.n) by rw [h.len])]
  by_cases e : k.sg = "none"
  · rw [h.none e]; simp
  · rw [decide_eq_false e]; simp
theorem spot_model {k : Kit} {d : D} (h : isStand k.n k.sg d = true) : ∃ s : Spot, d = s.d ∧ SpotOk k s := by
  obtain ⟨z, b, rfl, h1, h2, h3⟩ := stand_form h
  exact ⟨⟨z, b⟩, rfl, by show z.length = k.n; omega, h2, h3⟩
theorem SpotOk.sp {k : Kit} {s : Spot} (h : SpotOk k s) (hk : KitOk k) : s.z ∈ allSp := mem_allSp h.marks (by rw [h.len]; exact hk.n1) (by rw [h.len]; exact hk.n3)
theorem sp_gd {z : Str} (h : z ∈ allSp) : okV 30 0 (.str z) := by
  have : (allSp.all fun z => gdB 30 (.str z)) = true := by decide +kernel
  exact ⟨List.all_eq_true.mp this z h, Nat.zero_le _⟩
theorem spot_gd {s : Spot} (h : s.z ∈ allSp) : okV 30 1 s.d := okL.tup (fun x hx => by
  simp only [List.mem_cons, List.not_mem_nil, or_false] at hx
  rcases hx with rfl | rfl
  · exact sp_gd h
  · exact ⟨rfl, Nat.zero_le _⟩) (by show 2 ≤ 30; decide)
theorem deed_gd (x : Deed) : okV 30 1 x.d := okL.tup (fun y hy => by
  simp only [List.mem_cons, List.not_mem_nil, or_false] at hy
  rcases hy with rfl | rfl | rfl
  · unfold brS
    split <;> exact ⟨by decide +kernel, Nat.zero_le _⟩
  · exact ⟨rfl, Nat.zero_le _⟩
  · exact ⟨rfl, Nat.zero_le _⟩) (by show 3 ≤ 30; decide)
/-! texts of marks -/
def mapT (f : List Nat → List Nat) (z : Str) : Str := ⟨(f z.cps.toList).toArray⟩
def wash : Str → Str := mapT fun l => l.map fun c => if c = 100 then 99 else c
def putL : List Nat → List Nat
  | [] => []
  | c :: l => if c = 46 then 100 :: l else c :: putL l
def put : Str → Str := mapT putL
def goneL : List Nat → List Nat
  | [] => []
  | c :: l => if c = 46 then c :: goneL l else 46 :: l
/-- one taken -/
def gone : Str → Str := mapT goneL
def noGap (z : Str) : Bool := !(z.cps.toList.contains 46)
def dots (n : Nat) : Str := ⟨(List.replicate n 46).toArray⟩
theorem tab {P : Str → Bool} (h : (allSp.all P) = true) {z : Str} (hz : z ∈ allSp) : P z = true := List.all_eq_true.mp h z hz
theorem wash_ok {z : Str} (h : z ∈ allSp) : wash z ∈ allSp ∧ (wash z).length = z.length := by
  have := tab (P := fun z => allSp.contains (wash z) && decide ((wash z).length = z.length)) (by decide +kernel) h
  obtain ⟨a, b⟩ := Bool.and_eq_true_iff.mp this
  exact ⟨List.contains_iff_mem.mp a, of_decide_eq_true b⟩
theorem put_ok {z : Str} (h : z ∈ allSp) : put z ∈ allSp ∧ (put z).length = z.length := by
  have := tab (P := fun z => allSp.contains (put z) && decide ((put z).length = z.length)) (by decide +kernel) h
  obtain ⟨a, b⟩ := Bool.and_eq_true_iff.mp this
  exact ⟨List.contains_iff_mem.mp a, of_decide_eq_true b⟩
theorem gone_ok {z : Str} (h : z ∈ allSp) : gone z ∈ allSp ∧ (gone z).length = z.length := by
  have := tab (P := fun z => allSp.contains (gone z) && decide ((gone z).length = z.length)) (by decide +kernel) h
  obtain ⟨a, b⟩ := Bool.and_eq_true_iff.mp this
  exact ⟨List.contains_iff_mem.mp a, of_decide_eq_true b⟩
theorem dots_sp {n : Nat} (h1 : 1 ≤ n) (h3 : n ≤ 3) : dots n ∈ allSp ∧ (dots n).length = n := by
  have hn : n = 1 ∨ n = 2 ∨ n = 3 := by omega
  rcases hn with rfl | rfl | rfl <;> exact ⟨List.contains_iff_mem.mp (by decide +kernel), by decide +kernel⟩
theorem sp_marks {z : Str} (h : z ∈ allSp) : z.cps.toList.all isMark = true := tab (P := fun z => z.cps.toList.all isMark) (by decide +kernel) h
theorem dots_mul {n : Nat} (h1 : 1 ≤ n) (h3 : n ≤ 3) : mulF (.val (.str ".")) (.val (.int n)) = some (.val (.str (dots n))) := by
  have hn : n = 1 ∨ n = 2 ∨ n = 3 := by omega
  rcases hn with rfl | rfl | rfl <;> rfl
theorem map_tab {α : Type} {f g : Str → α} (h : allSp.map f = allSp.map g) {z : Str} (hz : z ∈ allSp) : f z = g z := List.map_inj_left.mp h z hz
theorem repl_wash {z : Str} (h : z ∈ allSp) : replD "d" "c" none (.val (.str z)) = some (.val (.str (wash z))) := map_tab (f := fun z => replD "d" "c" none (.val (.str z))) (g := fun z => some (.val (.str (wash z)))) (by kernel_rfl) h
theorem repl_put {z : Str} (h : z ∈ allSp) : replD "." "d" (some 1) (.val (.str z)) = some (.val (.str (put z))) := map_tab (f := fun z => replD "." "d" (some 1) (.val (.str z))) (g := fun z => some (.val (.str (put z)))) (by kernel_rfl) h
theorem in_gap {z : Str} (h : z ∈ allSp) : inF true (.val (.str ".")) (.val (.str z)) = some (.val (.bl (noGap z))) := map_tab (f := fun z => inF true (.val (.str ".")) (.val (.str z))) (g := fun z => some (.val (.bl (noGap z)))) (by kernel_rfl) h
/-! deeds -/
def startedS (sg : Str) (h : Hab) (fg : Bool) (s : Spot) : Spot := ⟨wash s.z, s.b || ((decide (sg = "hand") && (!decide (h.turns = "never") && !fg)) || decide (sg = "own"))⟩
def emptiedS (n : Nat) (sg : Str) (h : Hab) (fg : Bool) (b : Bool) (z : Str) : Spot := ⟨z, b && !(decide (sg = "hand") && (decide (h.turns = "both") && (!fg && decide (z = dots n))))⟩
def broughtT (sg : Str) (h : Hab) (fg clean : Bool) (s1 : Spot) (ws : List Str) : Spot × List Str :=
  if noGap s1.z = true then (if (!clean && !decide (h.starts = "never")) = true then (startedS sg h fg s1, ws ++ (["starts", "leaves"] : List Str)) else (s1, ws ++ (["leaves"] : List Str))) else
    (if (decide (h.starts = "each") || (decide (h.starts = "full") && noGap (put s1.z))) = true then (startedS sg h fg ⟨put s1.z, s1.b && !decide (sg = "own")⟩, ws ++ (["puts", "starts"] : List Str)) else (⟨put s1.z, s1.b && !decide (sg = "own")⟩, ws ++ (["puts"] : List Str)))
def broughtS (n : Nat) (sg : Str) (h : Hab) (fg : Bool) (s : Spot) : Spot × List Str :=
  if (sure h.looks s.z s.b && decide (h.brings = "waits")) = true then (s, ["leaves"]) else
    if (sure h.looks s.z s.b && decide (h.brings = "empties")) = true then broughtT sg h fg (sure h.looks s.z s.b) (emptiedS n sg h fg s.b (dots n)) ["empties"] else broughtT sg h fg (sure h.looks s.z s.b) s []
def wantedS (n : Nat) (sg : Str) (h : Hab) (fg : Bool) (s : Spot) : Spot × List Str :=
  if sure h.looks s.z s.b = true then (emptiedS n sg h fg s.b (if h.takes = "one" then gone s.z else dots n), ["takes"]) else (s, ["leaves"])
def stepS (k : Kit) (s : Spot) (x : Deed) : Spot × List Str := match k.ps[x.num]? with
  | some h => if x.br = true then broughtS k.n k.sg h x.fg s else wantedS k.n k.sg h x.fg s
  | none => (s, [])
def deedsAt (k : Kit) (s : Spot) (br : Bool) (p : Hab × Nat) : List Deed :=
  ⟨br, p.2, false⟩ :: (if (p.1.forgets && !decide ((stepS k s ⟨br, p.2, false⟩).1 = (stepS k s ⟨br, p.2, true⟩).1)) = true then [⟨br, p.2, true⟩] else [])
def deedsS (k : Kit) (s : Spot) : List Deed := (k.ps.zipIdx.flatMap (deedsAt k s true)) ++ k.ps.zipIdx.flatMap (deedsAt k s false)
abbrev RS (p : Spot × List Str) : D := .tup [p.1.d, .tup (sts p.2)]
end Pn


/-! S2 -/
set_option Elab.async false
set_option linter.all false
set_option maxRecDepth 100000
namespace Pn
open PySem PySem.Spec PyProof.Rows L2 Dn
/-! ### the deeds, walked -/
section
variable {n : Nat} {sg : Str} {p : D} {h : Hab} {s : Spot}
theorem kx0 : ixF (.val (.tup [.int n, .str sg, p])) (.val (.int 0)) = some (.val (.int n)) := rfl
theorem kx1 : ixF (.val (.tup [.int n, .str sg, p])) (.val (.int 1)) = some (.val (.str sg)) := rfl
theorem kx2 : ixF (.val (.tup [.int n, .str sg, p])) (.val (.int 2)) = some (.val p) := rfl
theorem hx0 : ixF (.val h.d) (.val (.int 0)) = some (.val (.str h.looks)) := rfl
theorem hx1 : ixF (.val h.d) (.val (.int 1)) = some (.val (.str h.brings)) := rfl
theorem hx2 : ixF (.val h.d) (.val (.int 2)) = some (.val (.str h.takes)) := rfl
theorem hx3 : ixF (.val h.d) (.val (.int 3)) = some (.val (.str h.starts)) := rfl
theorem hx4 : ixF (.val h.d) (.val (.int 4)) = some (.val (.str h.turns)) := rfl
theorem hx5 : ixF (.val h.d) (.val (.int 5)) = some (.val (.bl h.forgets)) := rfl
theorem sx0 : ixF (.val s.d) (.val (.int 0)) = some (.val (.str s.z)) := rfl
theorem sx1 : ixF (.val s.d) (.val (.int 1)) = some (.val (.bl s.b)) := rfl
end
def begunS (n : Nat) : Spot := ⟨dots n, false⟩
def Sp_begun (F : FT) : Prop := ∀ (n : Nat) (sg : Str) (p : D) st, 1 ≤ n → n ≤ 3 → F [.tup [.int n, .str sg, p]] st = .ok (.val (begunS n).d) st
theorem sp_begun : Sp_begun (funF 1 1 n_begun) := by
  intro n sg p st h1 h3
  refine WpF.eqv (wpF_fun (np := 1) (by rfl) ?_)
  unfold n_begun
  simp_all_arith [kx0, dots_mul h1 h3]
  exact ⟨rfl, trivial⟩
def Sp_started (F : FT) : Prop := ∀ (n : Nat) (sg : Str) (p : D) (h : Hab) (fg : Bool) (s : Spot) st, s.z ∈ allSp → F [.tup [.int n, .str sg, p], h.d, .bl fg, s.d] st = .ok (.val (startedS sg h fg s).d) st
theorem sp_started : Sp_started (funF 7 4 n_started) := by
  intro n sg p h fg s st hz
  refine WpF.eqv (wpF_fun (np := 4) (by rfl) ?_)
  unfold n_started
  simp_all_arith [kx1, hx4, repl_wash hz]
  exact ⟨rfl, trivial⟩
def Sp_emptied (F : FT) : Prop := ∀ (n : Nat) (sg : Str) (p : D) (h : Hab) (fg : Bool) (s : Spot) (z : Str) st, 1 ≤ n → n ≤ 3 → F [.tup [.int n, .str sg, p], h.d, .bl fg, s.d, .str z] st = .ok (.val (emptiedS n sg h fg s.b z).d) st
theorem sp_emptied : Sp_emptied (funF 6 5 n_emptied) := by
  intro n sg p h fg s z st h1 h3
  refine WpF.eqv (wpF_fun (np := 5) (by rfl) ?_)
  unfold n_emptied
  simp_all_arith [kx0, kx1, hx4, sx1, dots_mul h1 h3]
  exact ⟨rfl, trivial⟩
def Sp_brought (F : FT) : Prop := ∀ (n : Nat) (sg : Str) (p : D) (h : Hab) (fg : Bool) (s : Spot) st, 1 ≤ n → n ≤ 3 → HabOk h → s.z ∈ allSp → F [.tup [.int n, .str sg, p], h.d, .bl fg, s.d] st = .ok (.val (RS (broughtS n sg h fg s))) st
theorem sp_brought {F1 F2 F3 : FT} (h1 : Sp_trusts F1) (h2 : Sp_emptied F2) (h3 : Sp_started F3) : Sp_brought (funF 6 4 (n_brought F1 F2 F3)) := by
  intro n sg p h fg s st n1 n3 ho hz
  refine WpF.eqv (wpF_fun (np := 4) (by rfl) ?_)
  unfold n_brought
  have e1 := h1 h.looks s.z (.str h.brings) (.str h.takes) (.str h.starts) (.str h.turns) (.bl h.forgets) s.b st ho.looks hz
  have e2 := fun z => h2 n sg p h fg s z st n1 n3
  have tl : ∀ (ws vs : List Str), ws.length ≤ 5 → vs.length ≤ 5 → addF (.val (.tup (sts ws))) (.val (.tup (sts vs))) = some (.val (.tup (sts (ws ++ vs)))) := fun ws vs hw hv => by
    rw [sts_append]
    exact add_tt (by rw [sts_len, sts_len]; unfold LIM; omega)
  simp_all_arith [e1, hx1]
  refine wp_ifM (fun c1 => ?_) (fun c1 => ?_)
  · simp_all_arith []
    refine ⟨?_, trivial⟩
    unfold broughtS
    rw [if_pos c1]
    rfl
  simp_all_arith [hx1]
  refine Wp.mono (Q := fun fl s' => ∃ (s1 : Spot) (ws : List Str), fl = .nx ∧ s' = ⟨[.val (.tup [.int n, .str sg, p]), .val h.d, .val (.bl fg), .val s1.d, .val (.bl (sure h.looks s.z s.b)), .val (.tup (sts ws))], st⟩ ∧ s1.z ∈ allSp ∧ ws.length ≤ 1 ∧ broughtS n sg h fg s = broughtT sg h fg (sure h.looks s.z s.b) s1 ws) ?_ ?_
  · refine wp_ifM (fun c2 => ?_) (fun c2 => ?_)
    · simp_all_arith [kx0, dots_mul n1 n3, e2]
      refine ⟨emptiedS n sg h fg s.b (dots n), ["empties"], trivial, rfl, (dots_sp n1 n3).1, by decide, ?_⟩
      unfold broughtS
      rw [if_neg (by rw [c1]; exact Bool.false_ne_true), if_pos c2]
    · simp_all_arith []
      refine ⟨s, [], trivial, rfl, hz, by decide, ?_⟩
      unfold broughtS
      rw [if_neg (by rw [c1]; exact Bool.false_ne_true), if_neg (by rw [c2]; exact Bool.false_ne_true)]
  · intro fl s' hh
    obtain ⟨s1, ws, e, hh⟩ := hh
    obtain ⟨e', hz1, hw, hB⟩ := hh
    subst e e'
    rw [hB]
    clear hB
    have t1 := tl ws ["starts", "leaves"] (by omega) (by decide)
    have t2 := tl ws ["leaves"] (by omega) (by decide)
    have t3 := tl ws ["puts", "starts"] (by omega) (by decide)
    have t4 := tl ws ["puts"] (by omega) (by decide)
    simp only [sts, List.map_cons, List.map_nil] at t1 t2 t3 t4
    unfold broughtT
    simp_all_arith [sx0, sx1, kx1, hx3, in_gap hz1, sts]
    refine wp_ifM (fun c2 => ?_) (fun c2 => ?_)
    · simp_all_arith [hx3]
      refine wp_ifM (fun c3 => ?_) (fun c3 => ?_)
      · simp_all_arith [h3 n sg p h fg s1 st hz1, t1]
        refine ⟨?_, trivial⟩
        rw [if_pos c2, if_pos c3]
        rfl
      · simp_all_arith [t2]
        refine ⟨?_, trivial⟩
        rw [if_pos c2, if_neg (by rw [c3]; exact Bool.false_ne_true)]
        rfl
    · have hz2 := (put_ok hz1).1
      have e3 := h3 n sg p h fg ⟨put s1.z, s1.b && !decide (sg = "own")⟩ st hz2
      have x0 : ixF (.val (.tup [.str (put s1.z), .bl (s1.b && !decide (sg = "own"))])) (.val (.int 0)) = some (.val (.str (put s1.z))) := rfl
      simp_all_arith [x0, in_gap hz2, repl_put hz1, hx3, sx0, sx1, kx1]
      refine wp_ifM (fun c3 => ?_) (fun c3 => ?_)
      · simp_all_arith [e3, t3]
        refine ⟨?_, trivial⟩
        rw [if_neg (by rw [c2]; exact Bool.false_ne_true), if_pos c3]
        rfl
      · simp_all_arith [t4]
        refine ⟨?_, trivial⟩
        rw [if_neg (by rw [c2]; exact Bool.false_ne_true), if_neg (by rw [c3]; exact Bool.false_ne_true)]
        rfl
end Pn


/-! S3 -/
set_option Elab.async false
set_option linter.all false
set_option maxRecDepth 100000
namespace Pn
open PySem PySem.Spec PyProof.Rows L2 Dn
/-! wanted, step -/
theorem fEnum_str {z : Str} : fEnum [.str z] = some (z.cps.toList.zipIdx.map fun p : Nat × Nat => .tup [.int (p.2 : Nat), .str ⟨#[p.1]⟩]) := by
  show some (enumL 0 (z.cps.toList.map fun c => .str ⟨#[c]⟩)) = _
  rw [enumL_map, List.zipIdx_map, List.map_map]
  rfl
def hasMark (z : Str) : Bool := !decide ((z.cps.toList.filter fun c => !decide (c = 46)) = [])
def allN : List Str := allSp.filter hasMark
theorem sure_mark {l z : Str} {b : Bool} (h : sure l z b = true) : hasMark z = true := by
  unfold sure at h
  unfold hasMark
  split at h
  · cases h
  · rename_i e
    rw [decide_eq_false e]
    rfl
theorem mem_allN {l z : Str} {b : Bool} (hz : z ∈ allSp) (h : sure l z b = true) : z ∈ allN := List.mem_filter.mpr ⟨hz, sure_mark h⟩
def nzI (z : Str) : Nat := z.cps.toList.findIdx fun c => !decide (c = 46)
def idxD (z : Str) : List D := (z.cps.toList.zipIdx.filter fun p : Nat × Nat => !decide ((⟨#[p.1]⟩ : Str) = ".")).map fun p => .int (p.2 : Nat)
theorem map_tabN {α : Type} {f g : Str → α} (h : allN.map f = allN.map g) {z : Str} (hz : z ∈ allN) : f z = g z := List.map_inj_left.mp h z hz
theorem idx_head {z : Str} (h : z ∈ allN) : ∃ r, idxD z = .int (nzI z) :: r := by
  have e : (idxD z).head? = some (.int (nzI z)) := map_tabN (f := fun z => (idxD z).head?) (g := fun z => some (.int (nzI z))) (by kernel_rfl) h
  cases q : idxD z with
  | nil => rw [q] at e; cases e
  | cons a r =>
    rw [q] at e
    cases e
    exact ⟨r, rfl⟩
theorem gone_tab {z : Str} (h : z ∈ allN) : (cutS z none (some (nzI z))).length ≤ 3 ∧ (cutS z (some ((nzI z : Int) + 1)) none).length ≤ 3 ∧ cutS z none (some (nzI z)) ++ "." ++ cutS z (some ((nzI z : Int) + 1)) none = gone z := by
  have := List.all_eq_true.mp (show (allN.all fun z => decide ((cutS z none (some (nzI z))).length ≤ 3) && decide ((cutS z (some ((nzI z : Int) + 1)) none).length ≤ 3) && decide (cutS z none (some (nzI z)) ++ "." ++ cutS z (some ((nzI z : Int) + 1)) none = gone z)) = true by decide +kernel) z h
  simp only [Bool.and_eq_true, decide_eq_true_eq] at this
  exact ⟨this.1.1, this.1.2, this.2⟩
theorem sl_str {z : Str} {a b : Option Int} (h : z.length ≤ LIM) : slF (.val (.str z)) a b = some (.val (.str (cutS z a b))) := by
  show (if z.length ≤ LIM then some (R.val (.str (cutS z a b))) else none) = _
  rw [if_pos h]
theorem sp_len {z : Str} (h : z ∈ allSp) : z.length ≤ 3 := of_decide_eq_true (tab (P := fun z => decide (z.length ≤ 3)) (by decide +kernel) h)
theorem str_app_len {a b : Str} : (a ++ b).length = a.length + b.length := by
  show (a.cps ++ b.cps).size = a.cps.size + b.cps.size
  rw [Array.size_append]
def Sp_wanted (F : FT) : Prop := ∀ (n : Nat) (sg : Str) (p : D) (h : Hab) (fg : Bool) (s : Spot) st, 1 ≤ n → n ≤ 3 → HabOk h → s.z ∈ allSp → F [.tup [.int n, .str sg, p], h.d, .bl fg, s.d] st = .ok (.val (RS (wantedS n sg h fg s))) st
theorem sp_wanted {F1 F2 : FT} (h1 : Sp_trusts F1) (h2 : Sp_emptied F2) : Sp_wanted (funF 8 4 (n_wanted F1 F2)) := by
  intro n sg p h fg s st n1 n3 ho hz
  refine WpF.eqv (wpF_fun (np := 4) (by rfl) ?_)
  unfold n_wanted
  have e1 := h1 h.looks s.z (.str h.brings) (.str h.takes) (.str h.starts) (.str h.turns) (.bl h.forgets) s.b st ho.looks hz
  have e2 := fun z => h2 n sg p h fg s z st n1 n3
  have hl : s.z.length ≤ LIM := Nat.le_trans (sp_len hz) (by decide)
  simp_all_arith [e1]
  refine wp_ifM (fun c1 => ?_) (fun c1 => ?_)
  · simp_all_arith []
    refine ⟨?_, trivial⟩
    unfold wantedS
    rw [if_neg (by simpa using c1)]
    rfl
  have c1 : sure h.looks s.z s.b = true := by simpa using c1
  have hN := mem_allN hz c1
  obtain ⟨r, hr⟩ := idx_head hN
  obtain ⟨g1, g2, g3⟩ := gone_tab hN
  simp_all_arith [kx0, dots_mul n1 n3, hx2]
  refine wp_ifM (fun c2 => ?_) (fun c2 => ?_)
  · simp_all_arith [sx0, fEnum_str]
    refine wp_compF (fun q : Nat × Nat => D.tup [.int (q.2 : Nat), .str ⟨#[q.1]⟩]) (fun q : Nat × Nat => !decide ((⟨#[q.1]⟩ : Str) = ".")) (fun q : Nat × Nat => D.int (q.2 : Nat)) (xs := s.z.cps.toList.zipIdx) (by rw [List.length_zipIdx, Array.length_toList]; exact hl) (fun q hq => ?_) ?_
    · cases e : decide ((⟨#[q.1]⟩ : Str) = ".") <;> simp_all_arith [e, cfP_true, cfP_false] <;> trivial
    · have hi : ((s.z.cps.toList.zipIdx.filter fun p : Nat × Nat => !decide ((⟨#[p.1]⟩ : Str) = ".")).map fun p => D.int (p.2 : Nat)) = .int (nzI s.z) :: r := hr
      rw [hi]
      have i0 : ixF (.tmp (.lst (.int (nzI s.z) :: r))) (.val (.int 0)) = some (.val (.int (nzI s.z))) := ix_tlst (j := 0) rfl
      have a1 : addF (.val (.str (cutS s.z none (some (nzI s.z))))) (.val (.str ".")) = some (.val (.str (cutS s.z none (some (nzI s.z)) ++ "."))) := Dn.add_str (show _ + 1 ≤ LIM by unfold LIM; omega)
      have a2 : addF (.val (.str (cutS s.z none (some (nzI s.z)) ++ "."))) (.val (.str (cutS s.z (some ((nzI s.z : Int) + 1)) none))) = some (.val (.str (gone s.z))) := by
        rw [Dn.add_str (by rw [str_app_len]; show _ + 1 + _ ≤ LIM; unfold LIM; omega), g3]
      simp_all_arith [sx0, i0, sl_str hl, a1, a2, e2]
      refine ⟨?_, trivial⟩
      unfold wantedS
      rw [if_pos c1, if_pos (of_decide_eq_true c2)]
      rfl
  · simp_all_arith [e2]
    refine ⟨?_, trivial⟩
    unfold wantedS
    rw [if_pos c1, if_neg (of_decide_eq_false c2)]
    rfl
def Sp_step (F : FT) : Prop := ∀ (k : Kit) (s : Spot) (x : Deed) st, KitOk k → SpotOk k s → x.num < k.ps.length → F [k.d, s.d, x.d] st = .ok (.val (RS (stepS k s x))) st
theorem brS_eq (b : Bool) : decide (brS b = "bring") = b := by cases b <;> decide +kernel
theorem px {ps : List Hab} {i : Nat} {h : Hab} (e : ps[i]? = some h) : ixF (.val (.tup (ps.map Hab.d))) (.val (.int i)) = some (.val h.d) := ix_tup (by rw [List.getElem?_map, e]; rfl)
theorem sp_step {F1 F2 : FT} (h1 : Sp_brought F1) (h2 : Sp_wanted F2) : Sp_step (funF 6 3 (n_step F1 F2)) := by
  intro k s x st hk hs hx
  refine WpF.eqv (wpF_fun (np := 3) (by rfl) ?_)
  unfold n_step
  have hp : k.ps[x.num]? = some k.ps[x.num] := List.getElem?_eq_getElem hx
  have hh := hk.ps _ (List.getElem_mem hx)
  have e : stepS k s x = if x.br = true then broughtS k.n k.sg k.ps[x.num] x.fg s else wantedS k.n k.sg k.ps[x.num] x.fg s := by
    unfold stepS
    rw [hp]
  generalize k.ps[x.num] = h at hp hh e
  have e1 := h1 k.n k.sg (.tup (k.ps.map Hab.d)) h x.fg s st hk.n1 hk.n3 hh (hs.sp hk)
  have e2 := h2 k.n k.sg (.tup (k.ps.map Hab.d)) h x.fg s st hk.n1 hk.n3 hh (hs.sp hk)
  rw [e]
  simp_all_arith [brS_eq, kx2, px hp]
  refine wp_ifM (fun c => ?_) (fun c => ?_)
  · simp_all_arith [kx2, px hp, e1]
    rw [if_pos c]
    trivial
  · simp_all_arith [kx2, px hp, e2]
    rw [if_neg (by rw [c]; exact Bool.false_ne_true)]
    trivial
end Pn


/-! S4 -/
set_option Elab.async false
set_option linter.all false
set_option maxRecDepth 100000
namespace Pn
open PySem PySem.Spec PyProof.Rows L2 Dn
/-! stands stay stands -/
theorem spotOk_of {k : Kit} {s t : Spot} (h : SpotOk k s) (h1 : t.z ∈ allSp) (h2 : t.z.length = s.z.length) (h3 : k.sg = "none" → s.b = false → t.b = false) : SpotOk k t :=
  ⟨h2.trans h.len, sp_marks h1, fun e => h3 e (h.none e)⟩
theorem none_hand : decide (("none" : Str) = "hand") = false := by decide +kernel
theorem none_own : decide (("none" : Str) = "own") = false := by decide +kernel
theorem started_ok {k : Kit} {s : Spot} {h : Hab} {fg : Bool} (hk : KitOk k) (hs : SpotOk k s) : SpotOk k (startedS k.sg h fg s) := by
  obtain ⟨a, b⟩ := wash_ok (hs.sp hk)
  refine spotOk_of hs a b fun e eb => ?_
  show (s.b || ((decide (k.sg = "hand") && (!decide (h.turns = "never") && !fg)) || decide (k.sg = "own"))) = false
  rw [eb, e, none_hand, none_own]
  rfl
theorem emptied_ok {k : Kit} {s : Spot} {h : Hab} {fg : Bool} {z : Str} (hs : SpotOk k s) (h1 : z ∈ allSp) (h2 : z.length = s.z.length) : SpotOk k (emptiedS k.n k.sg h fg s.b z) :=
  spotOk_of hs h1 h2 fun e eb => by
    show (s.b && _) = false
    rw [eb]
    rfl
theorem dots_spot {k : Kit} {s : Spot} (hk : KitOk k) (hs : SpotOk k s) : dots k.n ∈ allSp ∧ (dots k.n).length = s.z.length := by
  obtain ⟨a, b⟩ := dots_sp hk.n1 hk.n3
  exact ⟨a, b.trans hs.len.symm⟩
theorem broughtT_ok {k : Kit} {s : Spot} {h : Hab} {fg c : Bool} {ws : List Str} (hk : KitOk k) (hs : SpotOk k s) : SpotOk k (broughtT k.sg h fg c s ws).1 := by
  obtain ⟨a, b⟩ := put_ok (hs.sp hk)
  have h2 : SpotOk k ⟨put s.z, s.b && !decide (k.sg = "own")⟩ := spotOk_of hs a b fun e eb => by
    show (s.b && _) = false
    rw [eb]
    rfl
  unfold broughtT
  split
  · split
    · exact started_ok hk hs
    · exact hs
  · split
    · exact started_ok hk h2
    · exact h2
theorem stepS_ok {k : Kit} {s : Spot} {x : Deed} (hk : KitOk k) (hs : SpotOk k s) : SpotOk k (stepS k s x).1 := by
  obtain ⟨d1, d2⟩ := dots_spot hk hs
  unfold stepS
  split
  · rename_i h _
    split
    · unfold broughtS
      split
      · exact hs
      · split
        · exact broughtT_ok hk (emptied_ok hs d1 d2)
        · exact broughtT_ok hk hs
    · unfold wantedS
      split
      · obtain ⟨g1, g2⟩ := gone_ok (hs.sp hk)
        split
        · exact emptied_ok hs g1 g2
        · exact emptied_ok hs d1 d2
      · exact hs
  · exact hs
theorem begun_ok {k : Kit} (hk : KitOk k) : SpotOk k (begunS k.n) := by
  obtain ⟨a, b⟩ := dots_sp hk.n1 hk.n3
  exact ⟨b, sp_marks a, fun _ => rfl⟩
/-! == of what is meant -/
theorem eqv_str {a b : Str} : PyData.eqv (.str a) (.str b) = decide (a = b) := by
  show (a == b) = _
  by_cases h : a = b
  · simp [h]
  · rw [decide_eq_false h]; exact beq_eq_false_iff_ne.mpr h
theorem deq_spot (s t : Spot) : deq s.d t.d = decide (s = t) := by
  obtain ⟨a, b⟩ := s
  obtain ⟨c, d⟩ := t
  show (PyData.eqv (.str a) (.str c) && (PyData.eqv (.bool b) (.bool d) && true)) = _
  rw [eqv_str]
  by_cases h : a = c
  · subst h
    cases b <;> cases d <;> simp <;> rfl
  · simp [h]
theorem ne_spot {s t : Spot} (hs : s.z ∈ allSp) (ht : t.z ∈ allSp) : neF (.val s.d) (.val t.d) = some (.val (.bl (!decide (s = t)))) := by
  rw [← deq_spot]
  exact neF_of (eqE_gd (spot_gd hs).1 (spot_gd ht).1 (Nat.le_trans (spot_gd hs).2 (by decide)) (Nat.le_trans (spot_gd ht).2 (by decide)))
/-! all deeds -/
theorem rs0 {p : Spot × List Str} : ixF (.val (RS p)) (.val (.int 0)) = some (.val p.1.d) := rfl
theorem rs1 {p : Spot × List Str} : ixF (.val (RS p)) (.val (.int 1)) = some (.val (.tup (sts p.2))) := rfl
theorem deedsAt_len {k : Kit} {s : Spot} {br : Bool} {p : Hab × Nat} : (deedsAt k s br p).length ≤ 2 := by
  unfold deedsAt
  split
  · exact Nat.le_refl 2
  · exact Nat.le_succ 1
theorem flat_len {α β : Type} (f : α → List β) (h : ∀ a, (f a).length ≤ 2) : ∀ l : List α, (l.flatMap f).length ≤ 2 * l.length
  | [] => Nat.le_refl _
  | a :: l => by
    rw [List.flatMap_cons, List.length_append, List.length_cons]
    have := h a
    have := flat_len f h l
    omega
def Sp_deeds_of (F : FT) : Prop := ∀ (k : Kit) (s : Spot) st, KitOk k → SpotOk k s → F [k.d, s.d] st = .ok (.own (.lst ((deedsS k s).map Deed.d))) st
theorem fEnum_ps {ps : List Hab} : fEnum [.tup (ps.map Hab.d)] = some (ps.zipIdx.map fun p => .tup [.int (p.2 : Nat), p.1.d]) := by
  rw [fEnum_tup, List.zipIdx_map, List.map_map]
  rfl
theorem sp_deeds_of {F1 : FT} (h1 : Sp_step F1) : Sp_deeds_of (funF 6 2 (n_deeds_of F1)) := by
  intro k s st hk hs
  refine WpF.eqv (wpF_fun (np := 2) (by rfl) ?_)
  unfold n_deeds_of
  have inner : ∀ (br : Bool) (l : List Deed) (a4 a5 : Slot) (Q : Fl → S → Prop), l.length ≤ 6 →
      (∀ a4 a5, Q .nx ⟨[.val k.d, .val s.d, .own (.lst ((l ++ k.ps.zipIdx.flatMap (deedsAt k s br)).map Deed.d)), .val (.str (brS br)), a4, a5], st⟩) →
      Wp (loopM (gTupM 2 (gsCons (asgM 4) (gsCons (asgM 5) gsNil))) (sSeq (sApp 2 (eTupM (argD (eLoc 3) (argD (eLoc 4) (argD (eLit (.bl false)) (retM [])))))) (sSeq (sIf (tVal (eBin ixM (eBor 5) (eLit (.int 5)))) (sSeq (sIf (tVal (eBin (cmpD .NotEq) (eBin ixM (eFn F1 (argD (eLoc 0) (argD (eLoc 1) (argD (eTupM (argD (eLoc 3) (argD (eLoc 4) (argD (eLit (.bl false)) (retM []))))) (retM []))))) (eLit (.int 0))) (eBin ixM (eFn F1 (argD (eLoc 0) (argD (eLoc 1) (argD (eTupM (argD (eLoc 3) (argD (eLoc 4) (argD (eLit (.bl true)) (retM []))))) (retM []))))) (eLit (.int 0))))) (sSeq (sApp 2 (eTupM (argD (eLoc 3) (argD (eLoc 4) (argD (eLit (.bl true)) (retM [])))))) (retM .nx)) (retM .nx)) (retM .nx)) (retM .nx)) (retM .nx)))
        (k.ps.zipIdx.map fun p => .tup [.int (p.2 : Nat), p.1.d]) ⟨[.val k.d, .val s.d, .own (.lst (l.map Deed.d)), .val (.str (brS br)), a4, a5], st⟩) Q := by
    intro br l a4 a5 Q hl hq
    refine wp_loopOn (fun p : Hab × Nat => D.tup [.int (p.2 : Nat), p.1.d]) (fun xs st' => ∃ (pre : List (Hab × Nat)) (a4 a5 : Slot), k.ps.zipIdx = pre ++ xs ∧ st' = ⟨[.val k.d, .val s.d, .own (.lst ((l ++ pre.flatMap (deedsAt k s br)).map Deed.d)), .val (.str (brS br)), a4, a5], st⟩) ?_ ?_ k.ps.zipIdx _ ⟨[], a4, a5, rfl, by simp⟩
    · intro st' hh
      obtain ⟨pre, b4, b5, hp, e⟩ := hh
      subst e
      rw [List.append_nil] at hp
      rw [← hp]
      exact hq b4 b5
    · intro q xs st' hh
      obtain ⟨pre, b4, b5, hp, e⟩ := hh
      subst e
      have hm : q ∈ k.ps.zipIdx := by rw [hp]; simp
      have hq2 := List.mem_zipIdx_iff_getElem?.mp hm
      obtain ⟨h, i⟩ := q
      have hi : i < k.ps.length := (List.getElem?_eq_some_iff.mp hq2).1
      have e1 := h1 k s ⟨br, i, false⟩ st hk hs hi
      have e2 := h1 k s ⟨br, i, true⟩ st hk hs hi
      have o1 := (stepS_ok (x := ⟨br, i, false⟩) hk hs).sp hk
      have o2 := (stepS_ok (x := ⟨br, i, true⟩) hk hs).sp hk
      have len : ((l ++ pre.flatMap (deedsAt k s br)).map Deed.d).length ≤ 12 := by
        have := flat_len (deedsAt k s br) (fun a => deedsAt_len) pre
        have hz := congrArg List.length hp
        rw [List.length_zipIdx, List.length_append] at hz
        have := hk.p3
        simp only [List.length_map, List.length_append]
        omega
      have ap : ∀ (d : D) (m : List D), m.length ≤ 13 → appF d m = some (m ++ [d]) := fun d m hm => appF_ok (by unfold LIM; omega)
      have ap1 := fun d => ap d ((l ++ pre.flatMap (deedsAt k s br)).map Deed.d) (by omega)
      have ap2 := fun d x => ap d ((l ++ pre.flatMap (deedsAt k s br)).map Deed.d ++ [x]) (by rw [List.length_append]; show _ + 1 ≤ 13; omega)
      simp_all_arith [sApp_ap, chkL_ap, chkLO_own, modL_ap, modO_own, ap1, setL_some, hx5]
      refine wp_ifM (fun c1 => ?_) (fun c1 => ?_)
      · simp_all_arith [e1, e2, rs0, ne_spot o1 o2]
        refine wp_ifM (fun c2 => ?_) (fun c2 => ?_)
        · simp_all_arith [sApp_ap, chkL_ap, chkLO_own, modL_ap, modO_own, ap2, setL_some]
          refine ⟨pre ++ [(h, i)], .val (.int (i : Nat)), .val h.d, by rw [hp]; simp, ?_⟩
          have e3 : deedsAt k s br (h, i) = [⟨br, i, false⟩, ⟨br, i, true⟩] := by
            unfold deedsAt
            rw [if_pos (by rw [c1, c2]; rfl)]
          rw [List.flatMap_append, List.flatMap_cons, e3]
          simp
        · simp_all_arith []
          refine ⟨pre ++ [(h, i)], .val (.int (i : Nat)), .val h.d, by rw [hp]; simp, ?_⟩
          have e3 : deedsAt k s br (h, i) = [⟨br, i, false⟩] := by
            unfold deedsAt
            rw [if_neg (by rw [c1, c2]; simp)]
          rw [List.flatMap_append, List.flatMap_cons, e3]
          simp
      · simp_all_arith []
        refine ⟨pre ++ [(h, i)], .val (.int (i : Nat)), .val h.d, by rw [hp]; simp, ?_⟩
        have e3 : deedsAt k s br (h, i) = [⟨br, i, false⟩] := by
          unfold deedsAt
          rw [if_neg (by rw [c1]; simp)]
        rw [List.flatMap_append, List.flatMap_cons, e3]
        simp
  have l6 : (k.ps.zipIdx.flatMap (deedsAt k s true)).length ≤ 6 := by
    have := flat_len (deedsAt k s true) (fun a => deedsAt_len) k.ps.zipIdx
    rw [List.length_zipIdx] at this
    have := hk.p3
    omega
  simp_all_arith [iter_tup, loopM_cons, kx2, fEnum_ps]
  refine inner true [] _ _ _ (by decide) fun a4 a5 => ?_
  simp_all_arith [kx2, fEnum_ps, lpK_nx, loopM_cons]
  refine inner false _ _ _ _ l6 fun a4 a5 => ?_
  simp_all_arith [lpK_nx]
  exact ⟨rfl, trivial⟩
end Pn


/-! S5 -/
set_option Elab.async false
set_option linter.all false
set_option maxRecDepth 100000
namespace Pn
open PySem PySem.Spec PyProof.Rows L2 Dn
/-! which values are deeds that are possible -/
def asDeedB (x : Deed) : D → Bool
  | .tup [.str w, .int i, .bl f] => decide (brS x.br = w) && (decide ((x.num : Int) = i) && (x.fg == f))
  | _ => false
def possB (k : Kit) (s : Spot) (v : D) : Bool := (deedsS k s).any fun x => asDeedB x v
theorem eqv_int {a b : Int} : PyData.eqv (.int a) (.int b) = decide (a = b) := by
  show (a == b) = _
  exact Bool.eq_iff_iff.mpr (by simp)
theorem eqv_bl {a b : Bool} : PyData.eqv (.bool a) (.bool b) = (a == b) := by
  cases a <;> cases b <;> rfl
theorem deq_deed {x : Deed} {a b c : D} (hb : isTk .bool b = false) (hc : isTk .bool c = true) : deq x.d (.tup [a, b, c]) = asDeedB x (.tup [a, b, c]) := by
  cases c with
  | bl f =>
    show (PyData.eqv (.str (brS x.br)) (pyD a) && (PyData.eqv (.int x.num) (pyD b) && (PyData.eqv (.bool x.fg) (.bool f) && true))) = _
    rw [eqv_bl, Bool.and_true]
    cases a with
    | str w =>
      cases b with
      | int i =>
        show (PyData.eqv (.str (brS x.br)) (.str w) && (PyData.eqv (.int x.num) (.int i) && (x.fg == f))) = _
        rw [eqv_str, eqv_int]
        rfl
      | bl g => cases hb
      | _ => simp [pyD, PyData.eqv, asDeedB]
    | _ => simp [pyD, PyData.eqv, asDeedB]
  | _ => cases hc
theorem asDeed_d {x y : Deed} : asDeedB x y.d = decide (x = y) := by
  obtain ⟨a, b, c⟩ := x
  obtain ⟨a', b', c'⟩ := y
  show (decide (brS a = brS a') && (decide ((b : Int) = b') && (c == c'))) = _
  have h1 : decide (brS a = brS a') = decide (a = a') := by cases a <;> cases a' <;> decide +kernel
  have h2 : decide ((b : Int) = b') = decide (b = b') := by
    by_cases e : b = b'
    · simp [e]
    · rw [decide_eq_false e, decide_eq_false (by omega)]
  rw [h1, h2]
  by_cases e1 : a = a' <;> by_cases e2 : b = b' <;> by_cases e3 : c = c' <;> simp [e1, e2, e3]
theorem possB_d {k : Kit} {s : Spot} {x : Deed} : possB k s x.d = decide (x ∈ deedsS k s) := by
  unfold possB
  have e : (fun y : Deed => asDeedB y x.d) = fun y => decide (y = x) := funext fun y => asDeed_d
  rw [e, Bool.eq_iff_iff, List.any_eq_true, decide_eq_true_eq]
  exact ⟨fun ⟨y, hy, e⟩ => by rw [← of_decide_eq_true e]; exact hy, fun h => ⟨x, h, by simp⟩⟩
theorem possB_no {k : Kit} {s : Spot} {v : D} (h : ∀ x, asDeedB x v = false) : possB k s v = false := by
  unfold possB
  rw [List.any_eq_false]
  exact fun x _ => by rw [h x]; exact Bool.false_ne_true
theorem deeds_ok {k : Kit} {s : Spot} : okL 30 1 ((deedsS k s).map Deed.d) := fun d hd => by
  obtain ⟨x, _, rfl⟩ := List.mem_map.mp hd
  exact deed_gd x
theorem any_deed {k : Kit} {s : Spot} {a b c : D} (hb : isTk .bool b = false) (hc : isTk .bool c = true) : (((deedsS k s).map Deed.d).any fun z => deq z (.tup [a, b, c])) = possB k s (.tup [a, b, c]) := by
  unfold possB
  rw [List.any_map]
  congr 1
  funext x
  exact deq_deed hb hc
theorem asDeed_noc {x : Deed} {a b c : D} (h : isTk .bool c = false) : asDeedB x (.tup [a, b, c]) = false := by
  unfold asDeedB
  split
  · rename_i e
    cases e
    cases h
  · rfl
theorem asDeed_nob {x : Deed} {a b c : D} (h : isTk .bool b = true) : asDeedB x (.tup [a, b, c]) = false := by
  unfold asDeedB
  split
  · rename_i e
    cases e
    cases h
  · rfl
def Sp_is_possible (F : FT) : Prop := ∀ (k : Kit) (s : Spot) (v : D) N st, KitOk k → SpotOk k s → N ≤ LIM → gdB N v = true → dep v ≤ 60 → F [k.d, s.d, v] st = .ok (.val (.bl (possB k s v))) st
theorem sp_is_possible {F1 : FT} (h1 : Sp_deeds_of F1) : Sp_is_possible (funF 3 3 (n_is_possible F1)) := by
  intro k s v N st hk hs hN hv hd
  refine WpF.eqv (wpF_fun (np := 3) (by rfl) ?_)
  unfold n_is_possible
  cases v with
  | tup l =>
    by_cases hl : l.length = 3
    · obtain ⟨a, b, c, rfl⟩ : ∃ a b c, l = [a, b, c] := by
        match l, hl with
        | [a, b, c], _ => exact ⟨a, b, c, rfl⟩
      obtain ⟨ga, gb, gc⟩ := gd3 hv
      have i1 : ixF (.val (.tup [a, b, c])) (.val (.int 1)) = some (.val b) := rfl
      have i2 : ixF (.val (.tup [a, b, c])) (.val (.int 2)) = some (.val c) := rfl
      cases hc : isTk .bool c with
      | false =>
        simp_all_arith [Bool.false_or, Bool.true_or, Bool.or_false, Bool.or_true, Bool.true_and, Bool.false_and, Bool.and_true, Bool.and_false, i1, i2, isiF_of .bool (.val c) (ty_gd gc), hc]
        rw [possB_no fun x => asDeed_noc hc]
        trivial
      | true =>
        cases hb : isTk .bool b with
        | true =>
          simp_all_arith [Bool.false_or, Bool.true_or, Bool.or_false, Bool.or_true, Bool.true_and, Bool.false_and, Bool.and_true, Bool.and_false, i1, i2, isiF_of .bool (.val c) (ty_gd gc), hc, isiF_of .bool (.val b) (ty_gd gb), hb, h1 k s st hk hs]
          rw [possB_no fun x => asDeed_nob hb]
          trivial
        | false =>
          have e := inE_lst (x := .tup [a, b, c]) hv deeds_ok.gds (by omega) (Nat.lt_of_le_of_lt (deeds_ok (k := k) (s := s)).deps (by decide))
          rw [any_deed hb hc] at e
          simp_all_arith [Bool.false_or, Bool.true_or, Bool.or_false, Bool.or_true, Bool.true_and, Bool.false_and, Bool.and_true, Bool.and_false, i1, i2, isiF_of .bool (.val c) (ty_gd gc), hc, isiF_of .bool (.val b) (ty_gd gb), hb, h1 k s st hk hs, inF_f (x := .val (.tup [a, b, c])) (y := .own (.lst ((deedsS k s).map Deed.d))) e]
          trivial
    · have e3 : decide ((l.length : Int) = 3) = false := decide_eq_false (by omega)
      simp_all_arith [Bool.false_or, Bool.true_or, Bool.or_false, Bool.or_true, Bool.true_and, Bool.false_and, Bool.and_true, Bool.and_false, e3]
      rw [possB_no fun x => by
        unfold asDeedB
        split
        · rename_i e
          cases e
          exact absurd rfl hl
        · rfl]
      trivial
  | dct _ => cases hv
  | ref _ => cases hv
  | _ =>
    simp_all_arith [Bool.false_or, Bool.true_or, Bool.or_false, Bool.or_true, Bool.true_and, Bool.false_and, Bool.and_true, Bool.and_false]
    rw [possB_no fun x => rfl]
    trivial
/-! what is asked from outside -/
def Sp_first_stand (F : FT) : Prop := (∀ (d : D) N st, N ≤ LIM → gdB N d = true → isKit d = false → F [d] st = exR "InvalidKitchen" st) ∧ ∀ (k : Kit) st, KitOk k → F [k.d] st = .ok (.val (begunS k.n).d) st
theorem sp_first_stand {F1 F2 : FT} (h1 : Sp_need_kitchen F1) (h2 : Sp_begun F2) : Sp_first_stand (funF 1 1 (n_first_stand F1 F2)) := by
  constructor
  · intro d N st hN hd e
    refine (funF_ap (np := 1) (by rfl)).trans ?_
    unfold n_first_stand
    simp_arith! [h1 d N _ hN hd, e, needR, exR, Bool.false_eq_true, if_false]
  · intro k st hk
    refine (funF_ap (np := 1) (by rfl)).trans ?_
    unfold n_first_stand
    simp_arith! [h1 k.d 30 _ (by decide) hk.gd.1, hk.is, needR, if_true, h2 k.n k.sg (.tup (k.ps.map Hab.d)) st hk.n1 hk.n3]
def Sp_deeds_at (F : FT) : Prop := (∀ (d v : D) N st, N ≤ LIM → gdB N d = true → isKit d = false → F [d, v] st = exR "InvalidKitchen" st) ∧
  (∀ (k : Kit) (v : D) N st, KitOk k → 1 ≤ N → N ≤ LIM → gdB N v = true → isStand k.n k.sg v = false → F [k.d, v] st = exR "InvalidStand" st) ∧
  ∀ (k : Kit) (s : Spot) st, KitOk k → SpotOk k s → F [k.d, s.d] st = .ok (.own (.lst ((deedsS k s).map Deed.d))) st
theorem sp_deeds_at {F1 F2 F3 : FT} (h1 : Sp_need_kitchen F1) (h2 : Sp_need_stand F2) (h3 : Sp_deeds_of F3) : Sp_deeds_at (funF 2 2 (n_deeds_at F1 F2 F3)) := by
  refine ⟨?_, ?_, ?_⟩
  · intro d v N st hN hd e
    refine (funF_ap (np := 2) (by rfl)).trans ?_
    unfold n_deeds_at
    simp_arith! [h1 d N _ hN hd, e, needR, exR, Bool.false_eq_true, if_false]
  · intro k v N st hk h1N hN hv e
    refine (funF_ap (np := 2) (by rfl)).trans ?_
    unfold n_deeds_at
    simp_arith! [h1 k.d 30 _ (by decide) hk.gd.1, hk.is, needR, if_true, h2 k.n k.sg [.tup (k.ps.map Hab.d)] v N _ h1N hN hv, e, exR, Bool.false_eq_true, if_false]
  · intro k s st hk hs
    refine (funF_ap (np := 2) (by rfl)).trans ?_
    unfold n_deeds_at
    simp_arith! [h1 k.d 30 _ (by decide) hk.gd.1, hk.is, needR, if_true, h2 k.n k.sg [.tup (k.ps.map Hab.d)] s.d 30 _ (by decide) (by decide) (spot_gd (hs.sp hk)).1, hs.is, h3 k s st hk hs]
def Sp_after (F : FT) : Prop := (∀ (d v x : D) N st, N ≤ LIM → gdB N d = true → isKit d = false → F [d, v, x] st = exR "InvalidKitchen" st) ∧
  (∀ (k : Kit) (v x : D) N st, KitOk k → 1 ≤ N → N ≤ LIM → gdB N v = true → isStand k.n k.sg v = false → F [k.d, v, x] st = exR "InvalidStand" st) ∧
  (∀ (k : Kit) (s : Spot) (v : D) N st, KitOk k → SpotOk k s → N ≤ LIM → gdB N v = true → dep v ≤ 60 → possB k s v = false → F [k.d, s.d, v] st = exR "InvalidDeed" st) ∧
  ∀ (k : Kit) (s : Spot) (x : Deed) st, KitOk k → SpotOk k s → x ∈ deedsS k s → F [k.d, s.d, x.d] st = .ok (.val (RS (stepS k s x))) st
theorem mem_deeds {k : Kit} {s : Spot} {x : Deed} (h : x ∈ deedsS k s) : x.num < k.ps.length := by
  have go : ∀ br, x ∈ k.ps.zipIdx.flatMap (deedsAt k s br) → x.num < k.ps.length := fun br h => by
    obtain ⟨⟨p, i⟩, hp, hx⟩ := List.mem_flatMap.mp h
    have hi := (List.getElem?_eq_some_iff.mp (List.mem_zipIdx_iff_getElem?.mp hp)).1
    unfold deedsAt at hx
    rcases List.mem_cons.mp hx with rfl | hx
    · exact hi
    · split at hx
      · rw [List.mem_singleton.mp hx]
        exact hi
      · cases hx
  rcases List.mem_append.mp h with h | h
  · exact go true h
  · exact go false h
theorem sp_after {F1 F2 F3 F4 : FT} (h1 : Sp_need_kitchen F1) (h2 : Sp_need_stand F2) (h3 : Sp_is_possible F3) (h4 : Sp_step F4) : Sp_after (funF 3 3 (n_after F1 F2 F3 F4)) := by
  refine ⟨?_, ?_, ?_, ?_⟩
  · intro d v x N st hN hd e
    refine (funF_ap (np := 3) (by rfl)).trans ?_
    unfold n_after
    simp_arith! [h1 d N _ hN hd, e, needR, exR, Bool.false_eq_true, if_false]
  · intro k v x N st hk h1N hN hv e
    refine (funF_ap (np := 3) (by rfl)).trans ?_
    unfold n_after
    simp_arith! [h1 k.d 30 _ (by decide) hk.gd.1, hk.is, needR, if_true, h2 k.n k.sg [.tup (k.ps.map Hab.d)] v N _ h1N hN hv, e, exR, Bool.false_eq_true, if_false]
  · intro k s v N st hk hs hN hv hd e
    refine (funF_ap (np := 3) (by rfl)).trans ?_
    unfold n_after
    simp_arith! [h1 k.d 30 _ (by decide) hk.gd.1, hk.is, needR, if_true, h2 k.n k.sg [.tup (k.ps.map Hab.d)] s.d 30 _ (by decide) (by decide) (spot_gd (hs.sp hk)).1, hs.is, h3 k s v N st hk hs hN hv hd, e, exR]
  · intro k s x st hk hs hx
    have e : possB k s x.d = true := by rw [possB_d, decide_eq_true hx]
    refine (funF_ap (np := 3) (by rfl)).trans ?_
    unfold n_after
    simp_arith! [h1 k.d 30 _ (by decide) hk.gd.1, hk.is, needR, if_true, h2 k.n k.sg [.tup (k.ps.map Hab.d)] s.d 30 _ (by decide) (by decide) (spot_gd (hs.sp hk)).1, hs.is, h3 k s x.d 30 st hk hs (by decide) (deed_gd x).1 (Nat.le_trans (deed_gd x).2 (by decide)), e, h4 k s x st hk hs (mem_deeds hx)]
end Pn


/-! S6 -/
set_option Elab.async false
set_option linter.all false
set_option maxRecDepth 100000
namespace Pn
open PySem PySem.Spec PyProof.Rows L2 Dn
/-! ### the law's own way: the same -/
theorem eSetEq_ap {fs ft : M (List R)} {s : S} : eSetEq fs ft s = ((fs s).bd txM).bd fun ks s1 => ((ft s1).bd txM).bd fun ls s2 => .ok (.val (.bl (sameTx ks ls))) s2 := rfl
theorem txM_str {z : Str} {s : S} (h : z.length < 4000) : txM [.val (.str z)] s = .ok (chrs z) s := by
  show (if z.length < 4000 then retM (chrs z) else stuckM) s = _
  rw [if_pos h]
  rfl
def washD (c : Nat) : D := if (⟨#[c]⟩ : Str) = "d" then .str "c" else .str ⟨#[c]⟩
theorem join_wash {z : Str} (h : z ∈ allSp) : Sm.join.h "" [.own (.lst (z.cps.toList.map washD))] = some (.val (.str (wash z))) :=
  map_tab (f := fun z => Sm.join.h "" [.own (.lst (z.cps.toList.map washD))]) (g := fun z => some (.val (.str (wash z)))) (by kernel_rfl) h
theorem iter_str {z : Str} : iterD (.str z) = some (z.cps.toList.map fun c => .str ⟨#[c]⟩) := rfl
def Sp_law_run (F : FT) : Prop := ∀ (n : Nat) (sg : Str) (p : D) (h : Hab) (fg : Bool) (z : Str) (b : Bool) st, z ∈ allSp → F [.tup [.int n, .str sg, p], h.d, .bl fg, .str z, .bl b] st = .ok (.val (startedS sg h fg ⟨z, b⟩).d) st
theorem sp_law_run : Sp_law_run (funF 7 5 n__law_run) := by
  intro n sg p h fg z b st hz
  refine WpF.eqv (wpF_fun (np := 5) (by rfl) ?_)
  unfold n__law_run
  simp_all_arith [iter_str]
  refine wp_compP (fun c : Nat => D.str ⟨#[c]⟩) washD (xs := z.cps.toList) (by rw [Array.length_toList]; exact Nat.le_trans (sp_len hz) (by decide)) (fun c hc => ?_) ?_
  · simp_all_arith []
    refine wp_ifM (fun e => ?_) (fun e => ?_)
    · simp_all_arith []
      refine ⟨?_, trivial, trivial⟩
      unfold washD
      rw [if_pos (of_decide_eq_true e)]
    · simp_all_arith []
      refine ⟨?_, trivial, trivial⟩
      unfold washD
      rw [if_neg (of_decide_eq_false e)]
  · simp_all_arith [join_wash hz, kx1, hx4]
    exact ⟨rfl, trivial⟩
theorem same_dots {z : Str} (h : z ∈ allSp) : sameTx (chrs z) (chrs ".") = decide (z = dots z.length) := by
  have := tab (P := fun z => sameTx (chrs z) (chrs ".") == decide (z = dots z.length)) (by decide +kernel) h
  exact eq_of_beq this
def Sp_law_cleared (F : FT) : Prop := ∀ (n : Nat) (sg : Str) (p : D) (h : Hab) (fg : Bool) (z : Str) (b : Bool) st, z ∈ allSp → z.length = n → F [.tup [.int n, .str sg, p], h.d, .bl fg, .str z, .bl b] st = .ok (.val (emptiedS n sg h fg b z).d) st
theorem sp_law_cleared : Sp_law_cleared (funF 6 5 n__law_cleared) := by
  intro n sg p h fg z b st hz hl
  refine WpF.eqv (wpF_fun (np := 5) (by rfl) ?_)
  unfold n__law_cleared
  have hz4 : z.length < 4000 := Nat.lt_of_le_of_lt (sp_len hz) (by decide)
  simp_all_arith [kx1, hx4, eSetEq_ap, txM_str hz4, txM_str (z := ".") (by decide), same_dots hz]
  refine ⟨?_, trivial⟩
  rw [hl]
  show R.val (.tup [.str z, .bl _]) = R.val (.tup [.str z, .bl _])
  simp only [Bool.and_assoc]
  rfl
/-! gaps -/
def gapD (z : Str) : List D := (z.cps.toList.zipIdx.filter fun p : Nat × Nat => decide ((⟨#[p.1]⟩ : Str) = ".")).map fun p => .int (p.2 : Nat)
def gI (z : Str) : Nat := z.cps.toList.findIdx fun c => decide (c = 46)
theorem gap_none {z : Str} (h : z ∈ allSp) : (gapD z).isEmpty = noGap z := by
  have := tab (P := fun z => (gapD z).isEmpty == noGap z) (by decide +kernel) h
  exact eq_of_beq this
def allG : List Str := allSp.filter fun z => !noGap z
theorem mem_allG {z : Str} (h : z ∈ allSp) (hg : noGap z = false) : z ∈ allG := List.mem_filter.mpr ⟨h, by rw [hg]; rfl⟩
theorem map_tabG {α : Type} {f g : Str → α} (h : allG.map f = allG.map g) {z : Str} (hz : z ∈ allG) : f z = g z := List.map_inj_left.mp h z hz
theorem gap_head {z : Str} (h : z ∈ allG) : ∃ r, gapD z = .int (gI z) :: r ∧ decide (((gapD z).length : Int) = 1) = noGap (put z) := by
  have e : (gapD z).head? = some (.int (gI z)) := map_tabG (f := fun z => (gapD z).head?) (g := fun z => some (.int (gI z))) (by kernel_rfl) h
  have e2 : decide (((gapD z).length : Int) = 1) = noGap (put z) := map_tabG (f := fun z => decide (((gapD z).length : Int) = 1)) (g := fun z => noGap (put z)) (by decide +kernel) h
  cases q : gapD z with
  | nil => rw [q] at e; cases e
  | cons a r =>
    rw [q] at e e2
    cases e
    exact ⟨r, rfl, e2⟩
theorem put_tab {z : Str} (h : z ∈ allG) : (cutS z none (some (gI z))).length ≤ 3 ∧ (cutS z (some ((gI z : Int) + 1)) none).length ≤ 3 ∧ cutS z none (some (gI z)) ++ "d" ++ cutS z (some ((gI z : Int) + 1)) none = put z := by
  have := List.all_eq_true.mp (show (allG.all fun z => decide ((cutS z none (some (gI z))).length ≤ 3) && decide ((cutS z (some ((gI z : Int) + 1)) none).length ≤ 3) && decide (cutS z none (some (gI z)) ++ "d" ++ cutS z (some ((gI z : Int) + 1)) none = put z)) = true by decide +kernel) z h
  simp only [Bool.and_eq_true, decide_eq_true_eq] at this
  exact ⟨this.1.1, this.1.2, this.2⟩
theorem gap_gd (z : Str) : gdsB 30 (gapD z) = true ∧ deps (gapD z) < 64 := by
  have h : okL 30 0 (gapD z) := fun d hd => by
    obtain ⟨p, _, rfl⟩ := List.mem_map.mp hd
    exact ⟨rfl, Nat.zero_le _⟩
  exact ⟨h.gds, Nat.lt_of_le_of_lt h.deps (by decide)⟩
theorem fInt_bl {b : Bool} : Bk.int.h [.val (.bl b)] = some (.val (.int (if b then 1 else 0))) := rfl
def Sp_law_bring (F : FT) : Prop := ∀ (n : Nat) (sg : Str) (p : D) (h : Hab) (fg : Bool) (s : Spot) st, 1 ≤ n → n ≤ 3 → HabOk h → s.z ∈ allSp → s.z.length = n → F [.tup [.int n, .str sg, p], h.d, .bl fg, s.d] st = .ok (.val (RS (broughtS n sg h fg s))) st
theorem sp_law_bring {F1 F2 F3 : FT} (h1 : Sp_law_sure F1) (h2 : Sp_law_cleared F2) (h3 : Sp_law_run F3) : Sp_law_bring (funF 12 4 (n__law_bring F1 F2 F3)) := by
  intro n sg p h fg s st n1 n3 ho hz hl
  refine WpF.eqv (wpF_fun (np := 4) (by rfl) ?_)
  unfold n__law_bring
  have e1 := h1 h.looks s.z s.b st ho.looks hz
  have LM : ∀ {z : Str}, z ∈ allSp → z.length ≤ LIM := fun hz => Nat.le_trans (sp_len hz) (by decide)
  have e2 := h2 n sg p h fg (dots n) s.b st (dots_sp n1 n3).1 (dots_sp n1 n3).2
  have dm : mulF (.val (.str ".")) (.val (.int s.z.length)) = some (.val (.str (dots n))) := by rw [hl]; exact dots_mul n1 n3
  simp_all_arith [hx0, e1, hx1]
  refine wp_ifM (fun c1 => ?_) (fun c1 => ?_)
  · simp_all_arith []
    refine ⟨?_, trivial⟩
    unfold broughtS
    rw [if_pos c1]
    rfl
  simp_all_arith [hx1]
  refine Wp.mono (Q := fun fl s' => ∃ (s1 : Spot) (ws : List Str), fl = .nx ∧ s' = ⟨[.val (.tup [.int n, .str sg, p]), .val h.d, .val (.bl fg), .val s.d, .un, .own (.lst (sts ws)), .val (.bl (sure h.looks s.z s.b)), .val (.str s1.z), .val (.bl s1.b), .un, .un, .un], st⟩ ∧ s1.z ∈ allSp ∧ ws.length ≤ 1 ∧ broughtS n sg h fg s = broughtT sg h fg (sure h.looks s.z s.b) s1 ws) ?_ ?_
  · refine wp_ifM (fun c2 => ?_) (fun c2 => ?_)
    · simp_all_arith [fLen_str (LM hz), dm, e2]
      refine ⟨emptiedS n sg h fg s.b (dots n), ["empties"], trivial, rfl, (dots_sp n1 n3).1, by decide, ?_⟩
      unfold broughtS
      rw [if_neg (by rw [c1]; exact Bool.false_ne_true), if_pos c2]
    · simp_all_arith []
      refine ⟨s, [], trivial, rfl, hz, by decide, ?_⟩
      unfold broughtS
      rw [if_neg (by rw [c1]; exact Bool.false_ne_true), if_neg (by rw [c2]; exact Bool.false_ne_true)]
  · intro fl s' hh
    obtain ⟨s1, ws, e, hh⟩ := hh
    obtain ⟨e', hz1, hw, hB⟩ := hh
    subst e e'
    rw [hB]
    clear hB
    simp_all_arith [fEnum_str]
    refine wp_compF (fun q : Nat × Nat => D.tup [.int (q.2 : Nat), .str ⟨#[q.1]⟩]) (fun q : Nat × Nat => decide ((⟨#[q.1]⟩ : Str) = ".")) (fun q : Nat × Nat => D.int (q.2 : Nat)) (xs := s1.z.cps.toList.zipIdx) (by rw [List.length_zipIdx, Array.length_toList]; exact LM hz1) (fun q hq => ?_) ?_
    · cases e : decide ((⟨#[q.1]⟩ : Str) = ".") <;> simp_all_arith [e, cfP_true, cfP_false] <;> trivial
    have hg : ((s1.z.cps.toList.zipIdx.filter fun p : Nat × Nat => decide ((⟨#[p.1]⟩ : Str) = ".")).map fun p => D.int (p.2 : Nat)) = gapD s1.z := rfl
    rw [hg]
    obtain ⟨gg, gd⟩ := gap_gd s1.z
    have ne : neF (.tmp (.lst (gapD s1.z))) (.own (.lst [])) = some (.val (.bl (!noGap s1.z))) := by
      rw [← gap_none hz1]
      exact neF_of (eqE_nil gg gd)
    have eq : eqF (.tmp (.lst (gapD s1.z))) (.own (.lst [])) = some (.val (.bl (noGap s1.z))) := by
      rw [← gap_none hz1]
      exact eqF_of (eqE_nil gg gd)
    simp_all_arith [ne]
    refine Wp.mono (Q := fun fl s' => ∃ (s2 : Spot) (ws2 : List Str) (runs : Bool), fl = .nx ∧ s' = ⟨[.val (.tup [.int n, .str sg, p]), .val h.d, .val (.bl fg), .val s.d, .own (.lst (gapD s1.z)), .own (.lst (sts ws2)), .val (.bl (sure h.looks s.z s.b)), .val (.str s2.z), .val (.bl s2.b), .val (.bl runs), .un, .un], st⟩ ∧ s2.z ∈ allSp ∧ ws2.length ≤ 2 ∧
        broughtT sg h fg (sure h.looks s.z s.b) s1 ws = (if runs = true then startedS sg h fg s2 else s2, ws2 ++ (if runs = true then ["starts"] else [] : List Str) ++ (if noGap s1.z = true then ["leaves"] else [] : List Str))) ?_ ?_
    · refine wp_ifM (fun c2 => ?_) (fun c2 => ?_)
      · have c2 : noGap s1.z = false := by simpa using c2
        have hG := mem_allG hz1 c2
        obtain ⟨r, hr, hlen⟩ := gap_head hG
        obtain ⟨g1, g2, g3⟩ := put_tab hG
        rw [hr] at hlen ⊢
        have i0 : ixF (.tmp (.lst (.int (gI s1.z) :: r))) (.val (.int 0)) = some (.val (.int (gI s1.z))) := ix_tlst (j := 0) rfl
        have a1 : addF (.val (.str (cutS s1.z none (some (gI s1.z))))) (.val (.str "d")) = some (.val (.str (cutS s1.z none (some (gI s1.z)) ++ "d"))) := Dn.add_str (show _ + 1 ≤ LIM by unfold LIM; omega)
        have a2 : addF (.val (.str (cutS s1.z none (some (gI s1.z)) ++ "d"))) (.val (.str (cutS s1.z (some ((gI s1.z : Int) + 1)) none))) = some (.val (.str (put s1.z))) := by
          rw [Dn.add_str (by rw [str_app_len]; show _ + 1 + _ ≤ LIM; unfold LIM; omega), g3]
        have t1 : addF (.tmp (.lst (sts ws))) (.own (.lst [.str "puts"])) = some (.own (.lst (sts (ws ++ (["puts"] : List Str))))) := by
          rw [sts_append]
          exact add_to (by rw [sts_len]; show _ + 1 ≤ LIM; unfold LIM; omega)
        have hlen' : decide (((r.length + 1 : Nat) : Int) = 1) = noGap (put s1.z) := hlen
        simp_all_arith [i0, sl_str (LM hz1), a1, a2, t1, kx1, hx3, hlen']
        refine ⟨⟨put s1.z, s1.b && !decide (sg = "own")⟩, ws ++ (["puts"] : List Str), decide (h.starts = "each") || (decide (h.starts = "full") && noGap (put s1.z)), trivial, rfl, (put_ok hz1).1, by rw [List.length_append]; show _ + 1 ≤ 2; omega, ?_⟩
        unfold broughtT
        rw [if_neg (by rw [c2]; exact Bool.false_ne_true), c2]
        cases c3 : decide (h.starts = "each") || (decide (h.starts = "full") && noGap (put s1.z)) <;> simp
      · have c2 : noGap s1.z = true := by simpa using c2
        simp_all_arith [hx3]
        refine ⟨s1, ws, !sure h.looks s.z s.b && !decide (h.starts = "never"), trivial, rfl, hz1, by omega, ?_⟩
        unfold broughtT
        rw [if_pos c2, if_pos c2]
        cases c3 : !sure h.looks s.z s.b && !decide (h.starts = "never") <;> simp
    · intro fl s' hh
      obtain ⟨s2, ws2, runs, e, hh⟩ := hh
      obtain ⟨e', hz2, hw2, hB⟩ := hh
      subst e e'
      rw [hB]
      clear hB
      have e3 := h3 n sg p h fg s2.z s2.b st hz2
      have m : ∀ w : Str, mulF (.own (.lst [.str w])) (.val (.int (if runs = true then 1 else 0))) = some (.own (.lst (sts (if runs = true then [w] else [])))) := fun w => by cases runs <;> rfl
      have m2 : ∀ w : Str, mulF (.own (.lst [.str w])) (.val (.int (if noGap s1.z = true then 1 else 0))) = some (.own (.lst (sts (if noGap s1.z = true then [w] else [])))) := fun w => by cases noGap s1.z <;> rfl
      have la : ∀ w : Str, (if runs = true then [w] else [] : List Str).length ≤ 1 := fun w => by cases runs <;> simp
      have lb : ∀ w : Str, (if noGap s1.z = true then [w] else [] : List Str).length ≤ 1 := fun w => by cases noGap s1.z <;> simp
      have t1 : ∀ w, addF (.tmp (.lst (sts ws2))) (.own (.lst (sts (if runs = true then [w] else [])))) = some (.own (.lst (sts (ws2 ++ if runs = true then [w] else [])))) := fun w => by
        rw [sts_append]
        exact add_to (by rw [sts_len, sts_len]; have := la w; unfold LIM; omega)
      have t2 : ∀ w v, addF (.own (.lst (sts (ws2 ++ if runs = true then [w] else [])))) (.own (.lst (sts (if noGap s1.z = true then [v] else [])))) = some (.own (.lst (sts (ws2 ++ (if runs = true then [w] else []) ++ if noGap s1.z = true then [v] else [])))) := fun w v => by
        rw [sts_append (a := ws2 ++ _)]
        exact add_oo (by rw [sts_len, sts_len, List.length_append]; have := la w; have := lb v; unfold LIM; omega)
      simp_all_arith []
      refine Wp.mono (Q := fun fl s' => ∃ x : Spot, x = (if runs = true then startedS sg h fg s2 else s2) ∧ fl = .nx ∧ s' = ⟨[.val (.tup [.int n, .str sg, p]), .val h.d, .val (.bl fg), .val s.d, .own (.lst (gapD s1.z)), .own (.lst (sts ws2)), .val (.bl (sure h.looks s.z s.b)), .val (.str x.z), .val (.bl x.b), .val (.bl runs), .un, .un], st⟩) ?_ ?_
      · refine wp_ifM (fun c => ?_) (fun c => ?_)
        · simp_all_arith [e3]
          exact ⟨_, by rw [if_pos c], trivial, rfl⟩
        · simp_all_arith []
          exact ⟨_, by rw [if_neg (by rw [c]; exact Bool.false_ne_true)], trivial, rfl⟩
      · intro fl s' hh
        obtain ⟨x, hx, hh⟩ := hh
        obtain ⟨e, e'⟩ := hh
        subst e e'
        simp_all_arith [fInt_bl, m, m2, eq, t1, t2, fTuple_tmp]
        refine ⟨?_, trivial⟩
        rw [← hx]
end Pn


/-! S7 -/
set_option Elab.async false
set_option linter.all false
set_option maxRecDepth 100000
namespace Pn
open PySem PySem.Spec PyProof.Rows L2 Dn
/-! the law's wanting -/
theorem idx_self {z : Str} (h : z ∈ allSp) : Sm.index.h z [.val (.str z)] = some (.val (.int 0)) := map_tab (f := fun z => Sm.index.h z [.val (.str z)]) (g := fun _ => some (.val (.int 0))) (by kernel_rfl) h
theorem all_cut {z : Str} (h : z ∈ allSp) : (cutS z none (some 0)).length = 0 ∧ (cutS z (some (0 + (z.length : Int))) none).length = 0 ∧ cutS z none (some 0) ++ dots z.length ++ cutS z (some (0 + (z.length : Int))) none = dots z.length := by
  have := tab (P := fun z => decide ((cutS z none (some 0)).length = 0) && decide ((cutS z (some (0 + (z.length : Int))) none).length = 0) && decide (cutS z none (some 0) ++ dots z.length ++ cutS z (some (0 + (z.length : Int))) none = dots z.length)) (by decide +kernel) h
  simp only [Bool.and_eq_true, decide_eq_true_eq] at this
  exact ⟨this.1.1, this.1.2, this.2⟩
def ndots (z : Str) : Str := ⟨(z.cps.toList.filter fun c => !decide (c = 46)).toArray⟩
theorem repl_nd {z : Str} (h : z ∈ allSp) : replD "." "" none (.val (.str z)) = some (.val (.str (ndots z))) := map_tab (f := fun z => replD "." "" none (.val (.str z))) (g := fun z => some (.val (.str (ndots z)))) (by kernel_rfl) h
def firstC (z : Str) : Str := ⟨((z.cps.toList.filter fun c => !decide (c = 46)).take 1).toArray⟩
theorem nd_0 {z : Str} (h : z ∈ allN) : ixF (.val (.str (ndots z))) (.val (.int 0)) = some (.val (.str (firstC z))) := map_tabN (f := fun z => ixF (.val (.str (ndots z))) (.val (.int 0))) (g := fun z => some (.val (.str (firstC z)))) (by kernel_rfl) h
theorem first_ix {z : Str} (h : z ∈ allN) : Sm.index.h z [.val (.str (firstC z))] = some (.val (.int (nzI z))) := map_tabN (f := fun z => Sm.index.h z [.val (.str (firstC z))]) (g := fun z => some (.val (.int (nzI z)))) (by kernel_rfl) h
theorem first_len {z : Str} (h : z ∈ allN) : (firstC z).length = 1 := of_decide_eq_true (List.all_eq_true.mp (show (allN.all fun z => decide ((firstC z).length = 1)) = true by decide +kernel) z h)
def Sp_law_want (F : FT) : Prop := ∀ (n : Nat) (sg : Str) (p : D) (h : Hab) (fg : Bool) (s : Spot) st, 1 ≤ n → n ≤ 3 → HabOk h → s.z ∈ allSp → s.z.length = n → F [.tup [.int n, .str sg, p], h.d, .bl fg, s.d] st = .ok (.val (RS (wantedS n sg h fg s))) st
theorem one_all : decide (("one" : Str) = "all") = false := by decide +kernel
theorem all_one : ("all" : Str) ≠ "one" := by decide +kernel
theorem sp_law_want {F1 F2 : FT} (h1 : Sp_law_sure F1) (h2 : Sp_law_cleared F2) : Sp_law_want (funF 7 4 (n__law_want F1 F2)) := by
  intro n sg p h fg s st n1 n3 ho hz hl
  refine WpF.eqv (wpF_fun (np := 4) (by rfl) ?_)
  unfold n__law_want
  have e1 := h1 h.looks s.z s.b st ho.looks hz
  have LM : ∀ {z : Str}, z ∈ allSp → z.length ≤ LIM := fun hz => Nat.le_trans (sp_len hz) (by decide)
  simp_all_arith [hx0, e1]
  refine wp_ifM (fun c1 => ?_) (fun c1 => ?_)
  · simp_all_arith []
    refine ⟨?_, trivial⟩
    unfold wantedS
    rw [if_neg (by simpa using c1)]
    rfl
  have c1 : sure h.looks s.z s.b = true := by simpa using c1
  have hN := mem_allN hz c1
  obtain ⟨g1, g2, g3⟩ := gone_tab hN
  obtain ⟨k1, k2, k3⟩ := all_cut hz
  have ht : h.takes = "all" ∨ h.takes = "one" := by
    have := ho.takes
    simp only [List.mem_cons, List.not_mem_nil, or_false] at this
    exact this
  rcases ht with ht | ht
  · have dm : mulF (.val (.str ".")) (.val (.int s.z.length)) = some (.val (.str (dots s.z.length))) := dots_mul (by omega) (by omega)
    have a1 : addF (.val (.str (cutS s.z none (some 0)))) (.val (.str (dots s.z.length))) = some (.val (.str (cutS s.z none (some 0) ++ dots s.z.length))) := Dn.add_str (by rw [k1, (dots_sp (n := s.z.length) (by omega) (by omega)).2]; unfold LIM; omega)
    have a2 : addF (.val (.str (cutS s.z none (some 0) ++ dots s.z.length))) (.val (.str (cutS s.z (some (0 + (s.z.length : Int))) none))) = some (.val (.str (dots s.z.length))) := by
      rw [Dn.add_str (by rw [str_app_len, k1, k2, (dots_sp (n := s.z.length) (by omega) (by omega)).2]; unfold LIM; omega), k3]
    have d2 := dots_sp (n := s.z.length) (by omega) (by omega)
    have e2 := h2 n sg p h fg (dots s.z.length) s.b st d2.1 (d2.2.trans hl)
    simp_all_arith [hx2, decide_eq_true ht, sx0, sx1, idx_self hz, sl_str (LM hz), fLen_str (LM hz), dm, a1, a2, e2]
    refine ⟨?_, trivial⟩
    unfold wantedS
    rw [if_pos c1, if_neg (by rw [ht]; exact all_one), hl]
    rfl
  · have lf := first_len hN
    have fl : fLen [.val (.str (firstC s.z))] = some (.val (.int 1)) := by
      have := fLen_str (z := firstC s.z) (by rw [lf]; decide)
      rw [lf] at this
      exact this
    have dm : mulF (.val (.str ".")) (.val (.int 1)) = some (.val (.str ".")) := rfl
    have a1 : addF (.val (.str (cutS s.z none (some (nzI s.z))))) (.val (.str ".")) = some (.val (.str (cutS s.z none (some (nzI s.z)) ++ "."))) := Dn.add_str (show _ + 1 ≤ LIM by unfold LIM; omega)
    have a2 : addF (.val (.str (cutS s.z none (some (nzI s.z)) ++ "."))) (.val (.str (cutS s.z (some ((nzI s.z : Int) + 1)) none))) = some (.val (.str (gone s.z))) := by
      rw [Dn.add_str (by rw [str_app_len]; show _ + 1 + _ ≤ LIM; unfold LIM; omega), g3]
    obtain ⟨o1, o2⟩ := gone_ok hz
    have e2 := h2 n sg p h fg (gone s.z) s.b st o1 (o2.trans hl)
    have fl' : Bk.len.h [.val (.str (firstC s.z))] = some (.val (.int 1)) := fl
    have hta : decide (h.takes = "all") = false := by rw [ht]; exact one_all
    simp_all_arith [hx2, hta, sx0, sx1, repl_nd hz, nd_0 hN, first_ix hN, sl_str (LM hz), fl', dm, a1, a2, e2]
    refine ⟨?_, trivial⟩
    unfold wantedS
    rw [if_pos c1, if_pos ht]
    rfl
/-! what is next -/
def Sp_law_next (F : FT) : Prop := ∀ (k : Kit) (s : Spot) (x : Deed) st, KitOk k → SpotOk k s → x.num < k.ps.length → F [k.d, s.d, x.d] st = .ok (.val (RS (stepS k s x))) st
theorem dx0 {x : Deed} : ixF (.val x.d) (.val (.int 0)) = some (.val (.str (brS x.br))) := rfl
theorem dx1 {x : Deed} : ixF (.val x.d) (.val (.int 1)) = some (.val (.int x.num)) := rfl
theorem dx2 {x : Deed} : ixF (.val x.d) (.val (.int 2)) = some (.val (.bl x.fg)) := rfl
theorem sp_law_next {F1 F2 : FT} (h1 : Sp_law_bring F1) (h2 : Sp_law_want F2) : Sp_law_next (funF 4 3 (n__law_next F1 F2)) := by
  intro k s x st hk hs hx
  refine WpF.eqv (wpF_fun (np := 3) (by rfl) ?_)
  unfold n__law_next
  have hp : k.ps[x.num]? = some k.ps[x.num] := List.getElem?_eq_getElem hx
  have hh := hk.ps _ (List.getElem_mem hx)
  have e : stepS k s x = if x.br = true then broughtS k.n k.sg k.ps[x.num] x.fg s else wantedS k.n k.sg k.ps[x.num] x.fg s := by
    unfold stepS
    rw [hp]
  generalize k.ps[x.num] = h at hp hh e
  have e1 := h1 k.n k.sg (.tup (k.ps.map Hab.d)) h x.fg s st hk.n1 hk.n3 hh (hs.sp hk) hs.len
  have e2 := h2 k.n k.sg (.tup (k.ps.map Hab.d)) h x.fg s st hk.n1 hk.n3 hh (hs.sp hk) hs.len
  rw [e]
  simp_all_arith [dx0, dx1, brS_eq, kx2, px hp]
  refine wp_ifM (fun c => ?_) (fun c => ?_)
  · simp_all_arith [dx2, e1]
    rw [if_pos c]
    trivial
  · simp_all_arith [dx2, e2]
    rw [if_neg (by rw [c]; exact Bool.false_ne_true)]
    trivial
def Sp_law_first (F : FT) : Prop := ∀ (n : Nat) (sg : Str) (p : D) st, 1 ≤ n → n ≤ 3 → F [.tup [.int n, .str sg, p]] st = .ok (.val (begunS n).d) st
theorem sp_law_first : Sp_law_first (funF 1 1 n__law_first) := by
  intro n sg p st h1 h3
  refine WpF.eqv (wpF_fun (np := 1) (by rfl) ?_)
  unfold n__law_first
  simp_all_arith [kx0, dots_mul h1 h3]
  exact ⟨rfl, trivial⟩
/-! all deeds -/
def Sp_law_all_deeds (F : FT) : Prop := ∀ (k : Kit) (s : Spot) st, KitOk k → SpotOk k s → F [k.d, s.d] st = .ok (.own (.lst ((deedsS k s).map Deed.d))) st
theorem fRange_ps {α : Type} {ps : List α} (h : ps.length < 1000000) : fRange [.val (.int ps.length)] = some (ps.zipIdx.map fun p => .int (p.2 : Nat)) := by
  rw [fRange_one h, List.range_eq_range', ← List.zipIdx_map_snd 0 ps, List.map_map]
  rfl
theorem sp_law_all_deeds {F1 : FT} (h1 : Sp_law_next F1) : Sp_law_all_deeds (funF 9 2 (n__law_all_deeds F1)) := by
  intro k s st hk hs
  refine WpF.eqv (wpF_fun (np := 2) (by rfl) ?_)
  unfold n__law_all_deeds
  have hl3 := hk.p3
  have rg := fRange_ps (ps := k.ps) (by omega)
  have ln : Bk.len.h [.val (.tup (k.ps.map Hab.d))] = some (.val (.int k.ps.length)) := by
    rw [fLen_tup, List.length_map]
  have inner : ∀ (br : Bool) (l : List Deed) (a4 a5 a6 a7 a8 : Slot) (Q : Fl → S → Prop), l.length ≤ 6 →
      (∀ a4 a5 a6 a7 a8, Q .nx ⟨[.val k.d, .val s.d, .own (.lst ((l ++ k.ps.zipIdx.flatMap (deedsAt k s br)).map Deed.d)), .val (.str (brS br)), a4, a5, a6, a7, a8], st⟩) →
      Wp (loopM (asgM 4) (sSeq (sPar [5, 6] (argR (eTupM (argD (eLoc 3) (argD (eLoc 4) (argD (eLit (.bl false)) (retM []))))) (argR (eTupM (argD (eLoc 3) (argD (eLoc 4) (argD (eLit (.bl true)) (retM []))))) (retM [])))) (sSeq (sApp 2 (eLoc 5)) (sSeq (sPar [7, 8] (argR (eFn F1 (argD (eLoc 0) (argD (eLoc 1) (argD (eLoc 5) (retM []))))) (argR (eFn F1 (argD (eLoc 0) (argD (eLoc 1) (argD (eLoc 6) (retM []))))) (retM [])))) (sSeq (sIf (tAndM (tVal (eBin ixM (eBin ixM (eBin ixM (eBor 0) (eLit (.int 2))) (eBor 4)) (eLit (.int 5)))) (tVal (eBin (cmpD .NotEq) (eBin ixM (eBor 7) (eLit (.int 0))) (eBin ixM (eBor 8) (eLit (.int 0)))))) (sSeq (sApp 2 (eLoc 6)) (retM .nx)) (retM .nx)) (retM .nx)))))
        (k.ps.zipIdx.map fun p => .int (p.2 : Nat)) ⟨[.val k.d, .val s.d, .own (.lst (l.map Deed.d)), .val (.str (brS br)), a4, a5, a6, a7, a8], st⟩) Q := by
    intro br l a4 a5 a6 a7 a8 Q hl hq
    refine wp_loopOn (fun p : Hab × Nat => D.int (p.2 : Nat)) (fun xs st' => ∃ (pre : List (Hab × Nat)) (a4 a5 a6 a7 a8 : Slot), k.ps.zipIdx = pre ++ xs ∧ st' = ⟨[.val k.d, .val s.d, .own (.lst ((l ++ pre.flatMap (deedsAt k s br)).map Deed.d)), .val (.str (brS br)), a4, a5, a6, a7, a8], st⟩) ?_ ?_ k.ps.zipIdx _ ⟨[], a4, a5, a6, a7, a8, rfl, by simp⟩
    · intro st' hh
      obtain ⟨pre, b4, b5, b6, b7, b8, hp, e⟩ := hh
      subst e
      rw [List.append_nil] at hp
      rw [← hp]
      exact hq b4 b5 b6 b7 b8
    · intro q xs st' hh
      obtain ⟨pre, b4, b5, b6, b7, b8, hp, e⟩ := hh
      subst e
      have hm : q ∈ k.ps.zipIdx := by rw [hp]; simp
      have hq2 := List.mem_zipIdx_iff_getElem?.mp hm
      obtain ⟨h, i⟩ := q
      have hi : i < k.ps.length := (List.getElem?_eq_some_iff.mp hq2).1
      have e1 := h1 k s ⟨br, i, false⟩ st hk hs hi
      have e2 := h1 k s ⟨br, i, true⟩ st hk hs hi
      have o1 := (stepS_ok (x := ⟨br, i, false⟩) hk hs).sp hk
      have o2 := (stepS_ok (x := ⟨br, i, true⟩) hk hs).sp hk
      have len : ((l ++ pre.flatMap (deedsAt k s br)).map Deed.d).length ≤ 12 := by
        have := flat_len (deedsAt k s br) (fun a => deedsAt_len) pre
        have hz := congrArg List.length hp
        rw [List.length_zipIdx, List.length_append] at hz
        simp only [List.length_map, List.length_append]
        omega
      have ap : ∀ (d : D) (m : List D), m.length ≤ 13 → appF d m = some (m ++ [d]) := fun d m hm => appF_ok (by unfold LIM; omega)
      have ap1 := fun d => ap d ((l ++ pre.flatMap (deedsAt k s br)).map Deed.d) (by omega)
      have ap2 := fun d x => ap d ((l ++ pre.flatMap (deedsAt k s br)).map Deed.d ++ [x]) (by rw [List.length_append]; show _ + 1 ≤ 13; omega)
      simp_all_arith [sApp_ap, chkL_ap, chkLO_own, modL_ap, modO_own, ap1, setL_some, e1, e2, kx2, px hq2, hx5, rs0, ne_spot o1 o2]
      refine wp_ifM (fun c1 => ?_) (fun c1 => ?_)
      · simp_all_arith [sApp_ap, chkL_ap, chkLO_own, modL_ap, modO_own, ap2, setL_some]
        refine ⟨pre ++ [(h, i)], .val (.int (i : Nat)), .val (Deed.d ⟨br, i, false⟩), .val (Deed.d ⟨br, i, true⟩), .val (RS (stepS k s ⟨br, i, false⟩)), .val (RS (stepS k s ⟨br, i, true⟩)), by rw [hp]; simp, ?_⟩
        have e3 : deedsAt k s br (h, i) = [⟨br, i, false⟩, ⟨br, i, true⟩] := by
          unfold deedsAt
          rw [if_pos c1]
        rw [List.flatMap_append, List.flatMap_cons, e3]
        simp
      · simp_all_arith []
        refine ⟨pre ++ [(h, i)], .val (.int (i : Nat)), .val (Deed.d ⟨br, i, false⟩), .val (Deed.d ⟨br, i, true⟩), .val (RS (stepS k s ⟨br, i, false⟩)), .val (RS (stepS k s ⟨br, i, true⟩)), by rw [hp]; simp, ?_⟩
        have e3 : deedsAt k s br (h, i) = [⟨br, i, false⟩] := by
          unfold deedsAt
          rw [if_neg (by rw [c1]; simp)]
        rw [List.flatMap_append, List.flatMap_cons, e3]
        simp
  have l6 : (k.ps.zipIdx.flatMap (deedsAt k s true)).length ≤ 6 := by
    have := flat_len (deedsAt k s true) (fun a => deedsAt_len) k.ps.zipIdx
    rw [List.length_zipIdx] at this
    omega
  simp_all_arith [iter_lst, loopM_cons, kx2, ln, rg]
  refine inner true [] _ _ _ _ _ _ (by decide) fun a4 a5 a6 a7 a8 => ?_
  simp_all_arith [kx2, ln, rg, lpK_nx, loopM_cons]
  refine inner false _ _ _ _ _ _ _ l6 fun a4 a5 a6 a7 a8 => ?_
  simp_all_arith [lpK_nx]
  exact ⟨rfl, trivial⟩
end Pn


/-! S8 -/
set_option Elab.async false
set_option linter.all false
set_option maxRecDepth 100000
namespace Pn
open PySem PySem.Spec PyProof.Rows L2 Dn
/-! a thing is == itself -/
mutual
theorem deq_refl {N : Nat} : ∀ {d : D}, gdB N d = true → deq d d = true
  | .non, _ => rfl
  | .bl b, _ => by cases b <;> rfl
  | .int i, _ => by
    show PyData.eqv (.int i) (.int i) = true
    rw [eqv_int, decide_eq_true rfl]
  | .str z, _ => by
    show PyData.eqv (.str z) (.str z) = true
    rw [eqv_str, decide_eq_true rfl]
  | .tup l, h => deqs_refl (gd_tup h).2
  | .lst l, h => deqs_refl (gd_tup (l := l) h).2
  | .dct _, h => by cases h
  | .ref _, h => by cases h
theorem deqs_refl {N : Nat} : ∀ {l : List D}, gdsB N l = true → deq (.tup l) (.tup l) = true
  | [], _ => rfl
  | d :: l, h => by
    obtain ⟨h1, h2⟩ := Bool.and_eq_true_iff.mp h
    have e1 := deq_refl h1
    have e2 := deqs_refl h2
    show (deq d d && deq (.tup l) (.tup l)) = true
    rw [e1, e2]
    rfl
end
theorem same_ne {N : Nat} {x y : R} {d : D} (hx : x.d = d) (hy : y.d = d) (h : gdB N d = true) (hd : dep d ≤ 64) : neF x y = some (.val (.bl false)) := by
  have e := eqE_gd h h hd hd
  rw [deq_refl h] at e
  exact neF_of (x := x) (y := y) (b := true) (by rw [hx, hy]; exact e)
theorem same_eq {N : Nat} {x y : R} {d : D} (hx : x.d = d) (hy : y.d = d) (h : gdB N d = true) (hd : dep d ≤ 64) : eqF x y = some (.val (.bl true)) := by
  have e := eqE_gd h h hd hd
  rw [deq_refl h] at e
  exact eqF_of (x := x) (y := y) (b := true) (by rw [hx, hy]; exact e)
/-! words -/
def allW : List Str := ["leaves", "empties", "puts", "starts", "takes"]
def okW (ws : List Str) : Bool := decide (ws.length ≤ 3) && ws.all allW.contains
theorem words_ok {k : Kit} {s : Spot} {x : Deed} : okW (stepS k s x).2 = true := by
  have w1 : okW ["leaves"] = true := by decide +kernel
  have w2 : okW ["takes"] = true := by decide +kernel
  have w3 : okW [] = true := by decide +kernel
  have t : ∀ (sg : Str) (h : Hab) (fg c : Bool) (s1 : Spot) (ws : List Str), okW (ws ++ (["starts", "leaves"] : List Str)) = true → okW (ws ++ (["leaves"] : List Str)) = true → okW (ws ++ (["puts", "starts"] : List Str)) = true → okW (ws ++ (["puts"] : List Str)) = true →
      okW (broughtT sg h fg c s1 ws).2 = true := fun sg h fg c s1 ws h1 h2 h3 h4 => by
    unfold broughtT
    split
    · split
      · exact h1
      · exact h2
    · split
      · exact h3
      · exact h4
  unfold stepS
  split
  · split
    · unfold broughtS
      split
      · exact w1
      · split
        · exact t _ _ _ _ _ _ (by decide +kernel) (by decide +kernel) (by decide +kernel) (by decide +kernel)
        · exact t _ _ _ _ _ _ (by decide +kernel) (by decide +kernel) (by decide +kernel) (by decide +kernel)
    · unfold wantedS
      split
      · exact w2
      · exact w1
  · exact w3
theorem okW_gd {ws : List Str} (h : okW ws = true) : okV 30 1 (.tup (sts ws)) := by
  obtain ⟨h1, h2⟩ := Bool.and_eq_true_iff.mp h
  refine okL.tup (fun d hd => ?_) (by rw [sts_len]; exact Nat.le_trans (of_decide_eq_true h1) (by decide))
  obtain ⟨w, hw, rfl⟩ := List.mem_map.mp hd
  have hm : w ∈ allW := List.contains_iff_mem.mp (List.all_eq_true.mp h2 w hw)
  have : (allW.all fun w => gdB 30 (.str w)) = true := by decide +kernel
  exact ⟨List.all_eq_true.mp this w hm, Nat.zero_le _⟩
theorem rs_gd {k : Kit} {s : Spot} {x : Deed} (hk : KitOk k) (hs : SpotOk k s) : okV 30 2 (RS (stepS k s x)) := okL.tup (fun d hd => by
  simp only [List.mem_cons, List.not_mem_nil, or_false] at hd
  rcases hd with rfl | rfl
  · exact spot_gd ((stepS_ok hk hs).sp hk)
  · exact okW_gd words_ok) (by show 2 ≤ 30; decide)
theorem any_deq {k : Kit} {s : Spot} {x : Deed} : (((deedsS k s).map Deed.d).any fun z => deq z x.d) = decide (x ∈ deedsS k s) := by
  rw [← possB_d]
  exact any_deed rfl rfl
theorem in_deeds {k : Kit} {s : Spot} {x : Deed} {r : R} (hr : r.d = .lst ((deedsS k s).map Deed.d)) : inF false (.val x.d) r = some (.val (.bl (decide (x ∈ deedsS k s)))) := by
  have e := inE_lst (x := x.d) (deed_gd x).1 deeds_ok.gds (Nat.le_trans (deed_gd x).2 (by decide)) (Nat.lt_of_le_of_lt (deeds_ok (k := k) (s := s)).deps (by decide))
  rw [any_deq] at e
  exact inF_f (x := .val x.d) (y := r) (by rw [hr]; exact e)
theorem deeds_len {k : Kit} {s : Spot} (hk : KitOk k) : (deedsS k s).length ≤ 12 := by
  unfold deedsS
  rw [List.length_append]
  have h1 := flat_len (deedsAt k s true) (fun a => deedsAt_len) k.ps.zipIdx
  have h2 := flat_len (deedsAt k s false) (fun a => deedsAt_len) k.ps.zipIdx
  rw [List.length_zipIdx] at h1 h2
  have := hk.p3
  omega
theorem deeds_gd {k : Kit} {s : Spot} (hk : KitOk k) : okV 30 2 (.lst ((deedsS k s).map Deed.d)) := (deeds_ok (k := k) (s := s)).lst (by rw [List.length_map]; exact Nat.le_trans (deeds_len hk) (by decide))
/-! k11: what it is told with -/
structure SbOk_k11 (sb : Str → Str → Option Bool) : Prop where
  kk : sb "InvalidKitchen" "InvalidKitchen" = some true
  sk : sb "InvalidStand" "InvalidKitchen" = some false
  ss : sb "InvalidStand" "InvalidStand" = some true
  dk : sb "InvalidDeed" "InvalidKitchen" = some false
  ds : sb "InvalidDeed" "InvalidStand" = some false
  dd : sb "InvalidDeed" "InvalidDeed" = some true
def Sp_law_outcome_k11 (F : FT) : Prop := (∀ (c : Nat) (d v x : D) N st, c ≤ 1 → N ≤ LIM → gdB N d = true → isKit d = false → F [.int c, d, v, x] st = .ok (.val (.str "kitchen!")) st) ∧
  (∀ (c : Nat) (k : Kit) (v x : D) N st, c ≤ 1 → KitOk k → 1 ≤ N → N ≤ LIM → gdB N v = true → isStand k.n k.sg v = false → F [.int c, k.d, v, x] st = .ok (.val (.str "stand!")) st) ∧
  (∀ (k : Kit) (s : Spot) (x : D) st, KitOk k → SpotOk k s → F [.int 0, k.d, s.d, x] st = .ok (.own (.lst ((deedsS k s).map Deed.d))) st) ∧
  (∀ (k : Kit) (s : Spot) (v : D) N st, KitOk k → SpotOk k s → N ≤ LIM → gdB N v = true → dep v ≤ 60 → possB k s v = false → F [.int 1, k.d, s.d, v] st = .ok (.val (.str "deed!")) st) ∧
  ∀ (k : Kit) (s : Spot) (x : Deed) st, KitOk k → SpotOk k s → x ∈ deedsS k s → F [.int 1, k.d, s.d, x.d] st = .ok (.val (RS (stepS k s x))) st
theorem sp_law_outcome_k11 {sb : Str → Str → Option Bool} {F1 F2 : FT} (hs : SbOk_k11 sb) (h1 : Sp_deeds_at F1) (h2 : Sp_after F2) : Sp_law_outcome_k11 (funF 4 4 (n__law_outcome_k11 sb F1 F2)) := by
  have c01 : ∀ c : Nat, c ≤ 1 → c = 0 ∨ c = 1 := fun c h => by omega
  have z0 : decide (((0 : Nat) : Int) = 0) = true := rfl
  have z1 : decide (((1 : Nat) : Int) = 0) = false := rfl
  refine ⟨?_, ?_, ?_, ?_, ?_⟩
  · intro c d v x N st hc hN hd e
    refine (funF_ap (np := 4) (by rfl)).trans ?_
    unfold n__law_outcome_k11
    rcases c01 c hc with rfl | rfl
    · simp_arith! [z0, h1.1 d v N st hN hd e, exR, findH, hs.kk]
    · simp_arith! [z1, h2.1 d v x N st hN hd e, exR, findH, hs.kk]
  · intro c k v x N st hc hk hN1 hN hv e
    refine (funF_ap (np := 4) (by rfl)).trans ?_
    unfold n__law_outcome_k11
    rcases c01 c hc with rfl | rfl
    · simp_arith! [z0, h1.2.1 k v N st hk hN1 hN hv e, exR, findH, hs.sk, hs.ss]
    · simp_arith! [z1, h2.2.1 k v x N st hk hN1 hN hv e, exR, findH, hs.sk, hs.ss]
  · intro k s x st hk hsp
    refine (funF_ap (np := 4) (by rfl)).trans ?_
    unfold n__law_outcome_k11
    simp_arith! [h1.2.2 k s st hk hsp]
  · intro k s v N st hk hsp hN hv hd e
    refine (funF_ap (np := 4) (by rfl)).trans ?_
    unfold n__law_outcome_k11
    simp_arith! [h2.2.2.1 k s v N st hk hsp hN hv hd e, exR, findH, hs.dk, hs.ds, hs.dd]
  · intro k s x st hk hsp hx
    refine (funF_ap (np := 4) (by rfl)).trans ?_
    unfold n__law_outcome_k11
    simp_arith! [h2.2.2.2 k s x st hk hsp hx]
end Pn


/-! S9 -/
set_option Elab.async false
set_option linter.all false
set_option maxRecDepth 100000
namespace Pn
open PySem PySem.Spec PyProof.Rows L2 Dn
/-! ### the law k11 -/
def everyL : List Deed := [⟨true, 0, false⟩, ⟨true, 0, true⟩, ⟨false, 0, false⟩, ⟨false, 0, true⟩, ⟨true, 1, false⟩, ⟨true, 1, true⟩, ⟨false, 1, false⟩, ⟨false, 1, true⟩, ⟨true, 2, false⟩, ⟨true, 2, true⟩, ⟨false, 2, false⟩, ⟨false, 2, true⟩]
theorem xs_mul {n : Nat} {sg : Str} (h1 : 1 ≤ n) (h3 : n ≤ 3) : ∃ y, mulF (.val (.str "x")) (.val (.int n)) = some (.val (.str y)) ∧ gdB 30 (.str y) = true ∧ y.cps.toList.all isMark = false := by
  have hn : n = 1 ∨ n = 2 ∨ n = 3 := by omega
  rcases hn with rfl | rfl | rfl
  · exact ⟨_, rfl, by decide +kernel, by decide +kernel⟩
  · exact ⟨_, rfl, by decide +kernel, by decide +kernel⟩
  · exact ⟨_, rfl, by decide +kernel, by decide +kernel⟩
theorem dot_gd {z : Str} (h : z ∈ allSp) : gdB 30 (.str (z ++ ".")) = true := tab (P := fun z => gdB 30 (.str (z ++ "."))) (by decide +kernel) h
theorem brS_use (b : Bool) : decide (brS b = "use") = false := by cases b <;> decide +kernel
theorem range_law {a b L : Nat} (hb : b < 1000000) (ha : a < 1000000) : fRange [.val (.int (if (if (L : Int) < (b : Int) then (L : Int) else (b : Int)) > (a : Int) then (if (L : Int) < (b : Int) then (L : Int) else (b : Int)) else (a : Int)))] = some ((List.range (Dn.cnt a b L)).map fun i => D.int (i : Nat)) := by
  rw [cnt_eq, fRange_one (by unfold Dn.cnt; omega)]
def habX : Hab := ⟨"sign", "empties", "all", "full", "both", true⟩
def kitX : Kit := ⟨2, "hand", [habX]⟩
theorem habX_ok : HabOk habX := ⟨List.contains_iff_mem.mp (by decide +kernel), List.contains_iff_mem.mp (by decide +kernel), List.contains_iff_mem.mp (by decide +kernel), List.contains_iff_mem.mp (by decide +kernel), List.contains_iff_mem.mp (by decide +kernel)⟩
theorem kitX_ok : KitOk kitX := ⟨by decide, by decide, List.contains_iff_mem.mp (by decide +kernel), by decide, by decide, fun p hp => by rw [List.mem_singleton.mp hp]; exact habX_ok⟩
theorem sp_law_k11 {F1 F2 F3 F4 F5 F6 F7 F8 F9 : FT} (h1 : Sp_law_source F1) (h2 : Dp_house F2) (h3 : Sp_first_stand F3) (h4 : Sp_law_first F4) (h5 : Sp_law_spots F5) (h6 : Sp_law_all_deeds F6) (h7 : Sp_law_outcome_k11 F7) (h8 : Sp_law_next F8) (h9 : Sp_after F9) : Pl (funF 14 1 (n_law_k11 F1 F2 F3 F4 F5 F6 F7 F8 F9)) := by
  intro ns hns
  refine wpF_fun (np := 1) (by rfl) ?_
  unfold n_law_k11
  have hL : (ns.map D.int).length = ns.length := List.length_map _
  generalize hlD : ns.map D.int = lD at hL
  have r5 : fRange [.val (.int (if (if (ns.length : Int) < 16 then (ns.length : Int) else 16) > 5 then (if (ns.length : Int) < 16 then (ns.length : Int) else 16) else 5))] = some ((List.range (Dn.cnt 5 16 ns.length)).map fun i => D.int (i : Nat)) := range_law (a := 5) (b := 16) (by decide) (by decide)
  simp_arith [hL, fMin_int, fMax_int, r5]
  refine wp_each (fun i : Nat => D.int i) (P := fun k => k < 64) (fun s => ∃ (a1 a2 a3 a4 a5 a6 a7 a8 a9 a10 a11 a12 a13 : Slot) (st : List SO), s = ⟨[.val (.lst lD), a1, a2, a3, a4, a5, a6, a7, a8, a9, a10, a11, a12, a13], st⟩) ?_ ?_ (xs := List.range (Dn.cnt 5 16 ns.length)) (fun k hk => by
    have := List.mem_range.mp hk
    unfold Dn.cnt at this
    omega) ⟨_, _, _, _, _, _, _, _, _, _, _, _, _, _, rfl⟩
  · intro s h
    obtain ⟨a1, a2, a3, a4, a5, a6, a7, a8, a9, a10, a11, a12, a13, st, e⟩ := h
    subst e
    have s1 : SpotOk kitX ⟨"d.", false⟩ := ⟨by decide +kernel, by decide +kernel, fun _ => rfl⟩
    have s2 : SpotOk kitX ⟨"cc", true⟩ := ⟨by decide +kernel, by decide +kernel, fun e => absurd e (by decide +kernel)⟩
    have e1 := h9.2.2.2 kitX ⟨"d.", false⟩ ⟨true, 0, true⟩ st kitX_ok s1 (by decide +kernel)
    have e2 := h9.2.2.2 kitX ⟨"cc", true⟩ ⟨true, 0, false⟩ st kitX_ok s2 (by decide +kernel)
    rw [show stepS kitX ⟨"d.", false⟩ ⟨true, 0, true⟩ = ((⟨"cc", false⟩ : Spot), (["puts", "starts"] : List Str)) by decide +kernel] at e1
    rw [show stepS kitX ⟨"cc", true⟩ ⟨true, 0, false⟩ = ((⟨"d.", false⟩ : Spot), (["empties", "puts"] : List Str)) by decide +kernel] at e2
    have e1' : F9 [.tup [.int 2, .str "hand", .tup [.tup [.str "sign", .str "empties", .str "all", .str "full", .str "both", .bl true]]], .tup [.str "d.", .bl false], .tup [.str "bring", .int 0, .bl true]] st = .ok (.val (.tup [.tup [.str "cc", .bl false], .tup [.str "puts", .str "starts"]])) st := e1
    have e2' : F9 [.tup [.int 2, .str "hand", .tup [.tup [.str "sign", .str "empties", .str "all", .str "full", .str "both", .bl true]]], .tup [.str "cc", .bl true], .tup [.str "bring", .int 0, .bl false]] st = .ok (.val (.tup [.tup [.str "d.", .bl false], .tup [.str "empties", .str "puts"]])) st := e2
    have q1 : neF (.val (.tup [.tup [.str "cc", .bl false], .tup [.str "puts", .str "starts"]])) (.val (.tup [.tup [.str "cc", .bl false], .tup [.str "puts", .str "starts"]])) = some (.val (.bl false)) := same_ne (N := 30) rfl rfl (by decide +kernel) (by decide +kernel)
    have q2 : eqF (.val (.tup [.tup [.str "d.", .bl false], .tup [.str "empties", .str "puts"]])) (.val (.tup [.tup [.str "d.", .bl false], .tup [.str "empties", .str "puts"]])) = some (.val (.bl true)) := same_eq (N := 30) rfl rfl (by decide +kernel) (by decide +kernel)
    simp_arith [e1', e2', q1, q2]
  · intro kk s hk h
    obtain ⟨a1, a2, a3, a4, a5, a6, a7, a8, a9, a10, a11, a12, a13, st, e⟩ := h
    subst e
    obtain ⟨a, b, e1, hb0, hb1⟩ := h1 ns kk st hk (by omega)
    rw [hlD] at e1
    simp_arith [e1]
    have hS : SrcAt (st ++ [.lst [.int a, .int b]]) st.length := ⟨a, b, by simp, hb0, hb1⟩
    generalize st ++ [.lst [.int a, .int b]] = st0 at hS ⊢
    generalize st.length = n at hS ⊢
    refine wp_call (h2 n 3 st0 hS (by decide) (by decide)) ?_
    intro r st1 h
    obtain ⟨q, sg, ps, e, h⟩ := h
    obtain ⟨hK, hD⟩ := h
    subst e
    clear hD hS
    obtain ⟨k, ek, hk2⟩ := kit_model hK
    rw [ek]
    clear ek hK
    have f3 := h3.2 k st1 hk2
    have f4 := h4 k.n k.sg (.tup (k.ps.map Hab.d)) st1 hk2.n1 hk2.n3
    have bo := begun_ok hk2
    have q1 : neF (.val (begunS k.n).d) (.val (begunS k.n).d) = some (.val (.bl false)) := same_ne (N := 30) rfl rfl (spot_gd (bo.sp hk2)).1 (Nat.le_trans (spot_gd (bo.sp hk2)).2 (by decide))
    have r3 : fRange [.val (.int 3)] = some [.int 0, .int 1, .int 2] := rfl
    simp_arith [f3, f4, q1, r3]
    refine Wp.mono (Q := fun fl s' => ∃ a6, fl = .nx ∧ s' = ⟨[.val (.lst lD), .val (.int kk), a2, .val k.d, .val (.ref n), .own (.lst (everyL.map Deed.d)), a6, a7, a8, a9, a10, a11, a12, a13], st1⟩) ?_ ?_
    · have d0 : ∀ a b c : D, addF (.tmp (.lst [])) (.own (.lst [a, b, c])) = some (.own (.lst [a, b, c])) := fun _ _ _ => rfl
      have d4 : ∀ x y z w a b c : D, addF (.tmp (.lst [x, y, z, w])) (.own (.lst [a, b, c])) = some (.own (.lst [x, y, z, w, a, b, c])) := fun _ _ _ _ _ _ _ => rfl
      have d8 : ∀ x y z w x' y' z' w' a b c : D, addF (.tmp (.lst [x, y, z, w, x', y', z', w'])) (.own (.lst [a, b, c])) = some (.own (.lst [x, y, z, w, x', y', z', w', a, b, c])) := fun _ _ _ _ _ _ _ _ _ _ _ => rfl
      have p3 : ∀ a b c d : D, appF d [a, b, c] = some [a, b, c, d] := fun _ _ _ _ => rfl
      have p7 : ∀ x y z w a b c d : D, appF d [x, y, z, w, a, b, c] = some [x, y, z, w, a, b, c, d] := fun _ _ _ _ _ _ _ _ => rfl
      have p11 : ∀ x y z w x' y' z' w' a b c d : D, appF d [x, y, z, w, x', y', z', w', a, b, c] = some [x, y, z, w, x', y', z', w', a, b, c, d] := fun _ _ _ _ _ _ _ _ _ _ _ _ => rfl
      simp_arith [loopM_cons, lpK_nx, d0, d4, d8, p3, p7, p11, sApp_ap, chkL_ap, chkLO_own, modL_ap, modO_own, setL_some]
      exact ⟨_, trivial, rfl⟩
    intro fl s' hh
    obtain ⟨b6, e, e'⟩ := hh
    subst e e'
    have f5 := h5 k.n k.sg (.tup (k.ps.map Hab.d)) st1 hk2.n1 hk2.n3 hk2.sg
    simp_arith [f5, iter_lst]
    have sne : spotsD k.n k.sg ≠ [] := by
      have : ([1, 2, 3].all fun n => !(spotsL n).isEmpty) = true := by decide +kernel
      have hn : k.n = 1 ∨ k.n = 2 ∨ k.n = 3 := by have := hk2.n1; have := hk2.n3; omega
      have h4 := List.all_eq_true.mp this k.n (by simp [hn])
      unfold spotsD
      intro z
      have z1 := List.map_eq_nil_iff.mp (List.append_eq_nil_iff.mp z).1
      rw [z1] at h4
      cases h4
    refine wp_loop (fun ds s => (∀ d ∈ ds, isStand k.n k.sg d = true) ∧ ∃ (a5 a6 a7 a8 a9 a10 a11 a12 a13 : Slot), s = ⟨[.val (.lst lD), .val (.int kk), a2, .val k.d, .val (.ref n), a5, a6, a7, a8, a9, a10, a11, a12, a13], st1⟩ ∧ (a5 = .own (.lst (everyL.map Deed.d)) ∨ a5 = .val (.lst (everyL.map Deed.d))) ∧ (ds ≠ [] ∨ ∃ sp : Spot, a7 = .val sp.d ∧ SpotOk k sp)) ?_ ?_ (spotsD k.n k.sg) _ ⟨spotsD_ok hk2.n1 hk2.n3, _, _, _, _, _, _, _, _, _, rfl, .inl rfl, .inl sne⟩
    · intro s hh
      obtain ⟨_, c5, c6, c7, c8, c9, c10, c11, c12, c13, e, hh⟩ := hh
      obtain ⟨_, hh⟩ := hh
      subst e
      rcases hh with hh | ⟨sp, e, hsp⟩
      · exact absurd rfl hh
      subst e
      have hz := hsp.sp hk2
      simp_arith [iter_lst]
      refine wp_eachD (P := fun v => gdB 30 v = true ∧ dep v ≤ 60 ∧ possB k sp v = false) (fun s => ∃ (a5 a6 a8 a9 a10 a11 a12 a13 : Slot), s = ⟨[.val (.lst lD), .val (.int kk), a2, .val k.d, .val (.ref n), a5, a6, .val sp.d, a8, a9, a10, a11, a12, a13], st1⟩) ?_ ?_ ?_ ⟨_, _, _, _, _, _, _, _, rfl⟩
      · intro s hh
        obtain ⟨d5, d6, d8, d9, d10, d11, d12, d13, e⟩ := hh
        subst e
        obtain ⟨y, hy, gy, my⟩ := xs_mul (n := k.n) (sg := k.sg) hk2.n1 hk2.n3
        have sl1 : slF (.val sp.d) none (some 1) = some (.val (.tup [.str sp.z])) := rfl
        have a1 : addF (.val (.str sp.z)) (.val (.str ".")) = some (.val (.str (sp.z ++ "."))) := Dn.add_str (show sp.z.length + 1 ≤ LIM by have := sp_len hz; unfold LIM; omega)
        have fl : Bk.list.h [.val sp.d] = some (.own (.lst [.str sp.z, .bl sp.b])) := rfl
        simp_arith [iter_lst, fl, sl1, sx0, a1, kx0, hy]
        refine wp_eachD (P := fun v => gdB 30 v = true ∧ isStand k.n k.sg v = false) (fun s => ∃ (a5 a6 a8 a9 a10 a11 a12 a13 : Slot), s = ⟨[.val (.lst lD), .val (.int kk), a2, .val k.d, .val (.ref n), a5, a6, .val sp.d, a8, a9, a10, a11, a12, a13], st1⟩) ?_ ?_ ?_ ⟨_, _, _, _, _, _, _, _, rfl⟩
        · intro s hh
          obtain ⟨d5, d6, d8, d9, d10, d11, d12, d13, e⟩ := hh
          subst e
          have okk := kit_okL hk2.is
          have g2 : gdB 30 (.tup [.int k.n, .str k.sg]) = true := (okL.tup (m := 2) (fun x hx => okk x (by simp only [List.mem_cons, List.not_mem_nil, or_false] at hx ⊢; rcases hx with h | h <;> simp [h])) (by show 2 ≤ 30; decide)).1
          have g3 : gdB 30 (.lst [.int k.n, .str k.sg, .tup (k.ps.map Hab.d)]) = true := (okk.lst (by show 3 ≤ 30; decide)).1
          have e0 : F7 [.int 0, .tup [.int k.n, .str k.sg], .int 0, .int 0] st1 = .ok (.val (.str "kitchen!")) st1 := h7.1 0 _ _ _ 30 st1 (by decide) (by decide) g2 rfl
          have e1 : F7 [.int 1, .lst [.int k.n, .str k.sg, .tup (k.ps.map Hab.d)], .int 0, .int 0] st1 = .ok (.val (.str "kitchen!")) st1 := h7.1 1 _ _ _ 30 st1 (by decide) (by decide) g3 rfl
          have fl2 : Bk.list.h [.val k.d] = some (.own (.lst [.int k.n, .str k.sg, .tup (k.ps.map Hab.d)])) := rfl
          have sl2 : slF (.val k.d) none (some 2) = some (.val (.tup [.int k.n, .str k.sg])) := rfl
          simp_arith [sl2, fl2, e0, e1, ne_str rfl]
          exact ⟨_, _, _, _, _, _, _, _, _, _, _, _, _, _, rfl⟩
        · intro v s hv hh
          obtain ⟨d5, d6, d8, d9, d10, d11, d12, d13, e⟩ := hh
          subst e
          have e0 : F7 [.int 0, k.d, v, .non] st1 = .ok (.val (.str "stand!")) st1 := h7.2.1 0 k v .non 30 st1 (by decide) hk2 (by decide) (by decide) hv.1 hv.2
          have e1 : F7 [.int 1, k.d, v, .non] st1 = .ok (.val (.str "stand!")) st1 := h7.2.1 1 k v .non 30 st1 (by decide) hk2 (by decide) (by decide) hv.1 hv.2
          simp_arith [e0, e1, ne_str rfl]
          exact ⟨_, _, _, _, _, _, _, _, rfl⟩
        · intro v hv
          simp only [List.mem_cons, List.not_mem_nil, or_false] at hv
          have gz := (sp_gd hz).1
          have gT : ∀ {a b : D}, gdB 30 a = true → gdB 30 b = true → gdB 30 (.tup [a, b]) = true := fun ha hb => by
            show (decide (2 ≤ 30) && (gdB 30 _ && (gdB 30 _ && true))) = true
            rw [ha, hb]
            rfl
          rcases hv with rfl | rfl | rfl | rfl | rfl | rfl
          · exact ⟨rfl, rfl⟩
          · refine ⟨?_, rfl⟩
            show (decide (2 ≤ 30) && (gdB 30 (.str sp.z) && (true && true))) = true
            rw [gz]
            rfl
          · refine ⟨?_, rfl⟩
            show (decide (1 ≤ 30) && (gdB 30 (.str sp.z) && true)) = true
            rw [gz]
            rfl
          · refine ⟨gT (dot_gd hz) rfl, ?_⟩
            rw [isStand_str, decide_eq_false (by rw [str_app_len]; have := hsp.len; show ¬ ((sp.z.length + 1 : Nat) : Int) = (k.n : Int); omega), Bool.false_and, Bool.false_and]
          · refine ⟨gT gy rfl, ?_⟩
            rw [isStand_str, my, Bool.and_false, Bool.false_and]
          · exact ⟨gT gz rfl, rfl⟩
      · intro v s hv hh
        obtain ⟨d5, d6, d8, d9, d10, d11, d12, d13, e⟩ := hh
        subst e
        have e1 := h7.2.2.2.1 k sp v 30 st1 hk2 hsp (by decide) hv.1 hv.2.1 hv.2.2
        simp_arith [e1, ne_str rfl]
        exact ⟨_, _, _, _, _, _, _, _, rfl⟩
      · intro v hv
        simp only [List.mem_cons, List.not_mem_nil, or_false] at hv
        rcases hv with rfl | rfl | rfl | rfl | rfl | rfl
        · exact ⟨by decide +kernel, by decide +kernel, possB_no fun x => rfl⟩
        · exact ⟨by decide +kernel, by decide +kernel, possB_no fun x => rfl⟩
        · exact ⟨by decide +kernel, by decide +kernel, possB_no fun x => rfl⟩
        · exact ⟨by decide +kernel, by decide +kernel, possB_no fun x => rfl⟩
        · exact ⟨by decide +kernel, by decide +kernel, possB_no fun x => rfl⟩
        · refine ⟨by decide +kernel, by decide +kernel, possB_no fun x => ?_⟩
          show (decide (brS x.br = "use") && _) = false
          rw [brS_use]
          rfl
    · intro d ds s hh
      obtain ⟨hds, c5, c6, c7, c8, c9, c10, c11, c12, c13, e, hh⟩ := hh
      obtain ⟨h5', _⟩ := hh
      subst e
      obtain ⟨sp, ed, hsp⟩ := spot_model (hds d (by simp))
      subst ed
      have hds' : ∀ d ∈ ds, isStand k.n k.sg d = true := fun d hd => hds d (by simp [hd])
      have f6 := h6 k sp st1 hk2 hsp
      have f7 := h7.2.2.1 k sp .non st1 hk2 hsp
      have r2 : fRange [.val (.int 2)] = some [.int 0, .int 1] := rfl
      obtain ⟨g1, g2⟩ := deeds_gd (s := sp) hk2
      have q2 : neF (.tmp (.lst ((deedsS k sp).map Deed.d))) (.tmp (.lst ((deedsS k sp).map Deed.d))) = some (.val (.bl false)) := same_ne rfl rfl g1 (Nat.le_trans g2 (by decide))
      have ap : appF (.str "odd") ((deedsS k sp).map Deed.d) = some ((deedsS k sp).map Deed.d ++ [.str "odd"]) := appF_ok (by rw [List.length_map]; have := deeds_len (s := sp) hk2; unfold LIM; omega)
      simp_arith [f6, r2, loopM_cons, lpK_nx, f7, q2, sApp_ap, chkL_ap, chkLO_own, modL_ap, modO_own, ap, setL_some]
      refine Wp.mono (Q := fun r s' => r = R.val (.lst (everyL.map Deed.d)) ∧ s' = ⟨[.val (.lst lD), .val (.int kk), a2, .val k.d, .val (.ref n), .val (.lst (everyL.map Deed.d)), c6, .val sp.d, c8, .own (.lst ((deedsS k sp).map Deed.d)), .val (.int 1), c11, .own (.lst ((deedsS k sp).map Deed.d ++ [.str "odd"])), c13], st1⟩) ?_ ?_
      · rcases h5' with e | e <;> subst e <;> simp_arith [iter_lst] <;> trivial
      intro r s' hh
      obtain ⟨e, e'⟩ := hh
      subst e e'
      simp_arith [iter_lst]
      refine wp_each Deed.d (P := fun _ => True) (fun s => ∃ (a11 a13 : Slot), s = ⟨[.val (.lst lD), .val (.int kk), a2, .val k.d, .val (.ref n), .val (.lst (everyL.map Deed.d)), c6, .val sp.d, c8, .own (.lst ((deedsS k sp).map Deed.d)), .val (.int 1), a11, .own (.lst ((deedsS k sp).map Deed.d ++ [.str "odd"])), a13], st1⟩) ?_ ?_ (xs := everyL) (fun _ _ => trivial) ⟨_, _, rfl⟩
      · intro s hh
        obtain ⟨d11, d13, e⟩ := hh
        subst e
        simp_arith []
        exact ⟨hds', _, _, _, _, _, _, _, _, _, rfl, .inr rfl, .inr ⟨sp, rfl, hsp⟩⟩
      · intro x s _ hh
        obtain ⟨d11, d13, e⟩ := hh
        subst e
        by_cases hx : x ∈ deedsS k sp
        · have f8 := h8 k sp x st1 hk2 hsp (mem_deeds hx)
          have f9 := h7.2.2.2.2 k sp x st1 hk2 hsp hx
          obtain ⟨g1, g2⟩ := rs_gd (x := x) hk2 hsp
          have q3 : neF (.val (RS (stepS k sp x))) (.val (RS (stepS k sp x))) = some (.val (.bl false)) := same_ne rfl rfl g1 (Nat.le_trans g2 (by decide))
          simp_arith [in_deeds (k := k) (s := sp) (x := x) (r := .tmp (.lst ((deedsS k sp).map Deed.d))) rfl, decide_eq_true hx, f8, f9, q3]
          exact ⟨_, _, rfl⟩
        · have f9 := h7.2.2.2.1 k sp x.d 30 st1 hk2 hsp (by decide) (deed_gd x).1 (Nat.le_trans (deed_gd x).2 (by decide)) (by rw [possB_d, decide_eq_false hx])
          simp_arith [in_deeds (k := k) (s := sp) (x := x) (r := .tmp (.lst ((deedsS k sp).map Deed.d))) rfl, decide_eq_false hx, f9, ne_str rfl]
          exact ⟨_, _, rfl⟩
end Pn


/-! T_k11 -/
set_option Elab.async false
set_option linter.all false
set_option maxRecDepth 100000
namespace K11
open PySem PySem.Spec PyProof.Rows L2 Dn
abbrev prB : List PySem.Stmt := PySem.Challenge.pw_cleanordirty_k11_what_deeds_do.main.body
def stOf (i : Nat) : PySem.Stmt := (prB[i]?).getD (.Pass ⟨0, 0, 0, 0⟩)
def d_is_whole : DefI := ⟨"is_whole", ["value", "low", "high"], ["value", "low", "high"], C8.fnArgs (stOf 11), C8.fnScope (stOf 11), C8.fnBody (stOf 11)⟩
def d_is_word : DefI := ⟨"is_word", ["value", "words"], ["value", "words"], C8.fnArgs (stOf 12), C8.fnScope (stOf 12), C8.fnBody (stOf 12)⟩
def d_is_right_habit : DefI := ⟨"is_right_habit", ["value"], ["value", "word", "some"], C8.fnArgs (stOf 13), C8.fnScope (stOf 13), C8.fnBody (stOf 13)⟩
def d_is_right_kitchen : DefI := ⟨"is_right_kitchen", ["value"], ["value", "habit"], C8.fnArgs (stOf 14), C8.fnScope (stOf 14), C8.fnBody (stOf 14)⟩
def d_is_right_stand : DefI := ⟨"is_right_stand", ["kitchen", "value"], ["kitchen", "value", "sign"], C8.fnArgs (stOf 15), C8.fnScope (stOf 15), C8.fnBody (stOf 15)⟩
def d_trusts : DefI := ⟨"trusts", ["habit", "stand"], ["habit", "stand", "lying", "dishes", "shown"], C8.fnArgs (stOf 16), C8.fnScope (stOf 16), C8.fnBody (stOf 16)⟩
def d_need_kitchen : DefI := ⟨"need_kitchen", ["value"], ["value"], C8.fnArgs (stOf 17), C8.fnScope (stOf 17), C8.fnBody (stOf 17)⟩
def d_need_stand : DefI := ⟨"need_stand", ["kitchen", "value"], ["kitchen", "value"], C8.fnArgs (stOf 18), C8.fnScope (stOf 18), C8.fnBody (stOf 18)⟩
def d_begun : DefI := ⟨"begun", ["kitchen"], ["kitchen"], C8.fnArgs (stOf 20), C8.fnScope (stOf 20), C8.fnBody (stOf 20)⟩
def d_started : DefI := ⟨"started", ["kitchen", "habit", "forgot", "stand"], ["kitchen", "habit", "forgot", "stand", "turned", "dishes", "shown"], C8.fnArgs (stOf 21), C8.fnScope (stOf 21), C8.fnBody (stOf 21)⟩
def d_emptied : DefI := ⟨"emptied", ["kitchen", "habit", "forgot", "stand", "dishes"], ["kitchen", "habit", "forgot", "stand", "dishes", "turned"], C8.fnArgs (stOf 22), C8.fnScope (stOf 22), C8.fnBody (stOf 22)⟩
def d_brought : DefI := ⟨"brought", ["kitchen", "habit", "forgot", "stand"], ["kitchen", "habit", "forgot", "stand", "clean", "words"], C8.fnArgs (stOf 23), C8.fnScope (stOf 23), C8.fnBody (stOf 23)⟩
def d_wanted : DefI := ⟨"wanted", ["kitchen", "habit", "forgot", "stand"], ["kitchen", "habit", "forgot", "stand", "dishes", "lying", "at", "sign"], C8.fnArgs (stOf 24), C8.fnScope (stOf 24), C8.fnBody (stOf 24)⟩
def d_step : DefI := ⟨"step", ["kitchen", "stand", "deed"], ["kitchen", "stand", "deed", "word", "number", "forgot"], C8.fnArgs (stOf 25), C8.fnScope (stOf 25), C8.fnBody (stOf 25)⟩
def d_deeds_of : DefI := ⟨"deeds_of", ["kitchen", "stand"], ["kitchen", "stand", "found", "word", "number", "habit"], C8.fnArgs (stOf 26), C8.fnScope (stOf 26), C8.fnBody (stOf 26)⟩
def d_is_possible : DefI := ⟨"is_possible", ["kitchen", "stand", "value"], ["kitchen", "stand", "value"], C8.fnArgs (stOf 27), C8.fnScope (stOf 27), C8.fnBody (stOf 27)⟩
def d_first_stand : DefI := ⟨"first_stand", ["kitchen"], ["kitchen"], C8.fnArgs (stOf 28), C8.fnScope (stOf 28), C8.fnBody (stOf 28)⟩
def d_deeds_at : DefI := ⟨"deeds_at", ["kitchen", "stand"], ["kitchen", "stand"], C8.fnArgs (stOf 29), C8.fnScope (stOf 29), C8.fnBody (stOf 29)⟩
def d_after : DefI := ⟨"after", ["kitchen", "stand", "deed"], ["kitchen", "stand", "deed"], C8.fnArgs (stOf 30), C8.fnScope (stOf 30), C8.fnBody (stOf 30)⟩
def d__law_source : DefI := ⟨"_law_source", ["script", "k"], ["script", "k", "number", "start"], C8.fnArgs (stOf 32), C8.fnScope (stOf 32), C8.fnBody (stOf 32)⟩
def d__law_pick : DefI := ⟨"_law_pick", ["source", "many"], ["source", "many", "found"], C8.fnArgs (stOf 33), C8.fnScope (stOf 33), C8.fnBody (stOf 33)⟩
def d__law_chosen : DefI := ⟨"_law_chosen", ["source", "things"], ["source", "things"], C8.fnArgs (stOf 34), C8.fnScope (stOf 34), C8.fnBody (stOf 34)⟩
def d__law_table : DefI := ⟨"_law_table", [], ["first"], C8.fnArgs (stOf 35), C8.fnScope (stOf 35), C8.fnBody (stOf 35)⟩
def d__law_somebody : DefI := ⟨"_law_somebody", ["source"], ["source", "first", "some"], C8.fnArgs (stOf 36), C8.fnScope (stOf 36), C8.fnBody (stOf 36)⟩
def d__law_house : DefI := ⟨"_law_house", ["source", "most"], ["source", "most", "people", "turn"], C8.fnArgs (stOf 37), C8.fnScope (stOf 37), C8.fnBody (stOf 37)⟩
def d__law_spots : DefI := ⟨"_law_spots", ["house"], ["house", "found", "turn", "some", "more", "lying"], C8.fnArgs (stOf 38), C8.fnScope (stOf 38), C8.fnBody (stOf 38)⟩
def d__law_sure : DefI := ⟨"_law_sure", ["looks", "spot"], ["looks", "spot", "there", "mark"], C8.fnArgs (stOf 39), C8.fnScope (stOf 39), C8.fnBody (stOf 39)⟩
def d__law_run : DefI := ⟨"_law_run", ["house", "person", "forgot", "lying", "shown"], ["house", "person", "forgot", "lying", "shown", "turns", "mark"], C8.fnArgs (stOf 40), C8.fnScope (stOf 40), C8.fnBody (stOf 40)⟩
def d__law_cleared : DefI := ⟨"_law_cleared", ["house", "person", "forgot", "lying", "shown"], ["house", "person", "forgot", "lying", "shown", "turns"], C8.fnArgs (stOf 41), C8.fnScope (stOf 41), C8.fnBody (stOf 41)⟩
def d__law_bring : DefI := ⟨"_law_bring", ["house", "person", "forgot", "spot"], ["house", "person", "forgot", "spot", "gaps", "told", "sure", "lying", "shown", "runs", "at", "mark"], C8.fnArgs (stOf 42), C8.fnScope (stOf 42), C8.fnBody (stOf 42)⟩
def d__law_want : DefI := ⟨"_law_want", ["house", "person", "forgot", "spot"], ["house", "person", "forgot", "spot", "gone", "at", "lying"], C8.fnArgs (stOf 43), C8.fnScope (stOf 43), C8.fnBody (stOf 43)⟩
def d__law_next : DefI := ⟨"_law_next", ["house", "spot", "deed"], ["house", "spot", "deed", "person"], C8.fnArgs (stOf 44), C8.fnScope (stOf 44), C8.fnBody (stOf 44)⟩
def d__law_all_deeds : DefI := ⟨"_law_all_deeds", ["house", "spot"], ["house", "spot", "found", "word", "number", "calm", "other", "one", "two"], C8.fnArgs (stOf 45), C8.fnScope (stOf 45), C8.fnBody (stOf 45)⟩
def d__law_first : DefI := ⟨"_law_first", ["house"], ["house"], C8.fnArgs (stOf 46), C8.fnScope (stOf 46), C8.fnBody (stOf 46)⟩
def d__law_outcome : DefI := ⟨"_law_outcome", ["call", "house", "spot", "deed"], ["call", "house", "spot", "deed"], C8.fnArgs (stOf 47), C8.fnScope (stOf 47), C8.fnBody (stOf 47)⟩
def d_law : DefI := ⟨"law", ["script"], ["script", "k", "person", "house", "source", "every", "number", "spot", "odd", "due", "again", "deed", "found", "there"], C8.fnArgs (stOf 48), C8.fnScope (stOf 48), C8.fnBody (stOf 48)⟩
def tbl : Tb where
  defs := [d_is_whole, d_is_word, d_is_right_habit, d_is_right_kitchen, d_is_right_stand, d_trusts, d_need_kitchen, d_need_stand, d_begun, d_started, d_emptied, d_brought, d_wanted, d_step, d_deeds_of] ++ [d_is_possible, d_first_stand, d_deeds_at, d_after, d__law_source, d__law_pick, d__law_chosen, d__law_table, d__law_somebody, d__law_house, d__law_spots, d__law_sure, d__law_run, d__law_cleared, d__law_bring] ++ [d__law_want, d__law_next, d__law_all_deeds, d__law_first, d__law_outcome, d_law]
  cst := [("SIGNS", .tup [.str "hand", .str "none", .str "own"]), ("LOOKS", .tup [.str "dish", .str "full", .str "sign"]), ("CHOICES", .tup [.tup [.str "dish", .str "full", .str "sign"], .tup [.str "adds", .str "empties", .str "waits"], .tup [.str "all", .str "one"], .tup [.str "each", .str "full", .str "never"], .tup [.str "both", .str "never", .str "start"]]), ("MOST_PLACES", .int 3), ("MOST_HABITS", .int 3)]
  exs := ["KitchenError", "InvalidKitchen", "InvalidStand", "InvalidDeed"]
  mods := [Str.ofString "ValueError", Str.ofString "all", Str.ofString "bool", Str.ofString "enumerate", Str.ofString "int", Str.ofString "isinstance", Str.ofString "len", Str.ofString "list", Str.ofString "max", Str.ofString "min", Str.ofString "range", Str.ofString "set", Str.ofString "str", Str.ofString "tuple", Str.ofString "zip"]
  subs := [("KitchenError", ["KitchenError", "ValueError"]), ("InvalidKitchen", ["InvalidKitchen", "KitchenError", "ValueError"]), ("InvalidStand", ["InvalidStand", "KitchenError", "ValueError"]), ("InvalidDeed", ["InvalidDeed", "KitchenError", "ValueError"])]
  hcls := ["KitchenError", "InvalidKitchen", "InvalidStand", "InvalidDeed"]
  refs := ["source"]
  W := 1000000
  n := 60
theorem b_is_whole : BindD d_is_whole := fun _ _ _ _ _ _ us hl => match us, hl with | [_, _, _], _ => rfl
theorem b_is_word : BindD d_is_word := fun _ _ _ _ _ _ us hl => match us, hl with | [_, _], _ => rfl
theorem b_is_right_habit : BindD d_is_right_habit := fun _ _ _ _ _ _ us hl => match us, hl with | [_], _ => rfl
theorem b_is_right_kitchen : BindD d_is_right_kitchen := fun _ _ _ _ _ _ us hl => match us, hl with | [_], _ => rfl
theorem b_is_right_stand : BindD d_is_right_stand := fun _ _ _ _ _ _ us hl => match us, hl with | [_, _], _ => rfl
theorem b_trusts : BindD d_trusts := fun _ _ _ _ _ _ us hl => match us, hl with | [_, _], _ => rfl
theorem b_need_kitchen : BindD d_need_kitchen := fun _ _ _ _ _ _ us hl => match us, hl with | [_], _ => rfl
theorem b_need_stand : BindD d_need_stand := fun _ _ _ _ _ _ us hl => match us, hl with | [_, _], _ => rfl
theorem b_begun : BindD d_begun := fun _ _ _ _ _ _ us hl => match us, hl with | [_], _ => rfl
theorem b_started : BindD d_started := fun _ _ _ _ _ _ us hl => match us, hl with | [_, _, _, _], _ => rfl
theorem b_emptied : BindD d_emptied := fun _ _ _ _ _ _ us hl => match us, hl with | [_, _, _, _, _], _ => rfl
theorem b_brought : BindD d_brought := fun _ _ _ _ _ _ us hl => match us, hl with | [_, _, _, _], _ => rfl
theorem b_wanted : BindD d_wanted := fun _ _ _ _ _ _ us hl => match us, hl with | [_, _, _, _], _ => rfl
theorem b_step : BindD d_step := fun _ _ _ _ _ _ us hl => match us, hl with | [_, _, _], _ => rfl
theorem b_deeds_of : BindD d_deeds_of := fun _ _ _ _ _ _ us hl => match us, hl with | [_, _], _ => rfl
theorem b_is_possible : BindD d_is_possible := fun _ _ _ _ _ _ us hl => match us, hl with | [_, _, _], _ => rfl
theorem b_first_stand : BindD d_first_stand := fun _ _ _ _ _ _ us hl => match us, hl with | [_], _ => rfl
theorem b_deeds_at : BindD d_deeds_at := fun _ _ _ _ _ _ us hl => match us, hl with | [_, _], _ => rfl
theorem b_after : BindD d_after := fun _ _ _ _ _ _ us hl => match us, hl with | [_, _, _], _ => rfl
theorem b__law_source : BindD d__law_source := fun _ _ _ _ _ _ us hl => match us, hl with | [_, _], _ => rfl
theorem b__law_pick : BindD d__law_pick := fun _ _ _ _ _ _ us hl => match us, hl with | [_, _], _ => rfl
theorem b__law_chosen : BindD d__law_chosen := fun _ _ _ _ _ _ us hl => match us, hl with | [_, _], _ => rfl
theorem b__law_table : BindD d__law_table := fun _ _ _ _ _ _ us hl => match us, hl with | [], _ => rfl
theorem b__law_somebody : BindD d__law_somebody := fun _ _ _ _ _ _ us hl => match us, hl with | [_], _ => rfl
theorem b__law_house : BindD d__law_house := fun _ _ _ _ _ _ us hl => match us, hl with | [_, _], _ => rfl
theorem b__law_spots : BindD d__law_spots := fun _ _ _ _ _ _ us hl => match us, hl with | [_], _ => rfl
theorem b__law_sure : BindD d__law_sure := fun _ _ _ _ _ _ us hl => match us, hl with | [_, _], _ => rfl
theorem b__law_run : BindD d__law_run := fun _ _ _ _ _ _ us hl => match us, hl with | [_, _, _, _, _], _ => rfl
theorem b__law_cleared : BindD d__law_cleared := fun _ _ _ _ _ _ us hl => match us, hl with | [_, _, _, _, _], _ => rfl
theorem b__law_bring : BindD d__law_bring := fun _ _ _ _ _ _ us hl => match us, hl with | [_, _, _, _], _ => rfl
theorem b__law_want : BindD d__law_want := fun _ _ _ _ _ _ us hl => match us, hl with | [_, _, _, _], _ => rfl
theorem b__law_next : BindD d__law_next := fun _ _ _ _ _ _ us hl => match us, hl with | [_, _, _], _ => rfl
theorem b__law_all_deeds : BindD d__law_all_deeds := fun _ _ _ _ _ _ us hl => match us, hl with | [_, _], _ => rfl
theorem b__law_first : BindD d__law_first := fun _ _ _ _ _ _ us hl => match us, hl with | [_], _ => rfl
theorem b__law_outcome : BindD d__law_outcome := fun _ _ _ _ _ _ us hl => match us, hl with | [_, _, _, _], _ => rfl
theorem b_law : BindD d_law := fun _ _ _ _ _ _ us hl => match us, hl with | [_], _ => rfl
theorem binds : AllD BindD tbl.defs := ⟨b_is_whole, b_is_word, b_is_right_habit, b_is_right_kitchen, b_is_right_stand, b_trusts, b_need_kitchen, b_need_stand, b_begun, b_started, b_emptied, b_brought, b_wanted, b_step, b_deeds_of, b_is_possible, b_first_stand, b_deeds_at, b_after, b__law_source, b__law_pick, b__law_chosen, b__law_table, b__law_somebody, b__law_house, b__law_spots, b__law_sure, b__law_run, b__law_cleared, b__law_bring, b__law_want, b__law_next, b__law_all_deeds, b__law_first, b__law_outcome, b_law, trivial⟩
theorem scs : tbl.defs.all scB = true := by kernel_rfl
end K11


/-! V_k11 -/
set_option Elab.async false
set_option linter.all false
set_option maxRecDepth 100000
namespace K11
open PySem PySem.Spec PyProof.Rows L2 Dn Pn
def F_is_whole (k : Nat) : FT := funF 3 3 (denSs tbl.n (cnOf tbl (callF tbl k) d_is_whole) d_is_whole.body)
def F_is_word (k : Nat) : FT := funF 2 2 (denSs tbl.n (cnOf tbl (callF tbl k) d_is_word) d_is_word.body)
def F_is_right_habit (k : Nat) : FT := funF 3 1 (denSs tbl.n (cnOf tbl (callF tbl k) d_is_right_habit) d_is_right_habit.body)
def F_is_right_kitchen (k : Nat) : FT := funF 2 1 (denSs tbl.n (cnOf tbl (callF tbl k) d_is_right_kitchen) d_is_right_kitchen.body)
def F_is_right_stand (k : Nat) : FT := funF 3 2 (denSs tbl.n (cnOf tbl (callF tbl k) d_is_right_stand) d_is_right_stand.body)
def F_trusts (k : Nat) : FT := funF 5 2 (denSs tbl.n (cnOf tbl (callF tbl k) d_trusts) d_trusts.body)
def F_need_kitchen (k : Nat) : FT := funF 1 1 (denSs tbl.n (cnOf tbl (callF tbl k) d_need_kitchen) d_need_kitchen.body)
def F_need_stand (k : Nat) : FT := funF 2 2 (denSs tbl.n (cnOf tbl (callF tbl k) d_need_stand) d_need_stand.body)
def F_begun (k : Nat) : FT := funF 1 1 (denSs tbl.n (cnOf tbl (callF tbl k) d_begun) d_begun.body)
def F_started (k : Nat) : FT := funF 7 4 (denSs tbl.n (cnOf tbl (callF tbl k) d_started) d_started.body)
def F_emptied (k : Nat) : FT := funF 6 5 (denSs tbl.n (cnOf tbl (callF tbl k) d_emptied) d_emptied.body)
def F_brought (k : Nat) : FT := funF 6 4 (denSs tbl.n (cnOf tbl (callF tbl k) d_brought) d_brought.body)
def F_wanted (k : Nat) : FT := funF 8 4 (denSs tbl.n (cnOf tbl (callF tbl k) d_wanted) d_wanted.body)
def F_step (k : Nat) : FT := funF 6 3 (denSs tbl.n (cnOf tbl (callF tbl k) d_step) d_step.body)
def F_deeds_of (k : Nat) : FT := funF 6 2 (denSs tbl.n (cnOf tbl (callF tbl k) d_deeds_of) d_deeds_of.body)
def F_is_possible (k : Nat) : FT := funF 3 3 (denSs tbl.n (cnOf tbl (callF tbl k) d_is_possible) d_is_possible.body)
def F_first_stand (k : Nat) : FT := funF 1 1 (denSs tbl.n (cnOf tbl (callF tbl k) d_first_stand) d_first_stand.body)
def F_deeds_at (k : Nat) : FT := funF 2 2 (denSs tbl.n (cnOf tbl (callF tbl k) d_deeds_at) d_deeds_at.body)
def F_after (k : Nat) : FT := funF 3 3 (denSs tbl.n (cnOf tbl (callF tbl k) d_after) d_after.body)
def F__law_source (k : Nat) : FT := funF 4 2 (denSs tbl.n (cnOf tbl (callF tbl k) d__law_source) d__law_source.body)
def F__law_pick (k : Nat) : FT := funF 3 2 (denSs tbl.n (cnOf tbl (callF tbl k) d__law_pick) d__law_pick.body)
def F__law_chosen (k : Nat) : FT := funF 2 2 (denSs tbl.n (cnOf tbl (callF tbl k) d__law_chosen) d__law_chosen.body)
def F__law_table (k : Nat) : FT := funF 1 0 (denSs tbl.n (cnOf tbl (callF tbl k) d__law_table) d__law_table.body)
def F__law_somebody (k : Nat) : FT := funF 3 1 (denSs tbl.n (cnOf tbl (callF tbl k) d__law_somebody) d__law_somebody.body)
def F__law_house (k : Nat) : FT := funF 4 2 (denSs tbl.n (cnOf tbl (callF tbl k) d__law_house) d__law_house.body)
def F__law_spots (k : Nat) : FT := funF 6 1 (denSs tbl.n (cnOf tbl (callF tbl k) d__law_spots) d__law_spots.body)
def F__law_sure (k : Nat) : FT := funF 4 2 (denSs tbl.n (cnOf tbl (callF tbl k) d__law_sure) d__law_sure.body)
def F__law_run (k : Nat) : FT := funF 7 5 (denSs tbl.n (cnOf tbl (callF tbl k) d__law_run) d__law_run.body)
def F__law_cleared (k : Nat) : FT := funF 6 5 (denSs tbl.n (cnOf tbl (callF tbl k) d__law_cleared) d__law_cleared.body)
def F__law_bring (k : Nat) : FT := funF 12 4 (denSs tbl.n (cnOf tbl (callF tbl k) d__law_bring) d__law_bring.body)
def F__law_want (k : Nat) : FT := funF 7 4 (denSs tbl.n (cnOf tbl (callF tbl k) d__law_want) d__law_want.body)
def F__law_next (k : Nat) : FT := funF 4 3 (denSs tbl.n (cnOf tbl (callF tbl k) d__law_next) d__law_next.body)
def F__law_all_deeds (k : Nat) : FT := funF 9 2 (denSs tbl.n (cnOf tbl (callF tbl k) d__law_all_deeds) d__law_all_deeds.body)
def F__law_first (k : Nat) : FT := funF 1 1 (denSs tbl.n (cnOf tbl (callF tbl k) d__law_first) d__law_first.body)
def F__law_outcome (k : Nat) : FT := funF 4 4 (denSs tbl.n (cnOf tbl (callF tbl k) d__law_outcome) d__law_outcome.body)
def F_law (k : Nat) : FT := funF 14 1 (denSs tbl.n (cnOf tbl (callF tbl k) d_law) d_law.body)

theorem v_is_whole (k : Nat) : F_is_whole (k + 1) = funF 3 3 (n_is_whole) := by kernel_rfl
theorem v_is_word (k : Nat) : F_is_word (k + 1) = funF 2 2 (n_is_word) := by kernel_rfl
theorem v_is_right_habit (k : Nat) : F_is_right_habit (k + 1) = funF 3 1 (n_is_right_habit (F_is_word k)) := by kernel_rfl
theorem v_is_right_kitchen (k : Nat) : F_is_right_kitchen (k + 1) = funF 2 1 (n_is_right_kitchen (F_is_whole k) (F_is_word k) (F_is_right_habit k)) := by kernel_rfl
theorem v_is_right_stand (k : Nat) : F_is_right_stand (k + 1) = funF 3 2 (n_is_right_stand) := by kernel_rfl
theorem v_trusts (k : Nat) : F_trusts (k + 1) = funF 5 2 (n_trusts) := by kernel_rfl
theorem v_need_kitchen (k : Nat) : F_need_kitchen (k + 1) = funF 1 1 (n_need_kitchen (F_is_right_kitchen k)) := by kernel_rfl
theorem v_need_stand (k : Nat) : F_need_stand (k + 1) = funF 2 2 (n_need_stand (F_is_right_stand k)) := by kernel_rfl
theorem v_begun (k : Nat) : F_begun (k + 1) = funF 1 1 (n_begun) := by kernel_rfl
theorem v_started (k : Nat) : F_started (k + 1) = funF 7 4 (n_started) := by kernel_rfl
theorem v_emptied (k : Nat) : F_emptied (k + 1) = funF 6 5 (n_emptied) := by kernel_rfl
theorem v_brought (k : Nat) : F_brought (k + 1) = funF 6 4 (n_brought (F_trusts k) (F_emptied k) (F_started k)) := by kernel_rfl
theorem v_wanted (k : Nat) : F_wanted (k + 1) = funF 8 4 (n_wanted (F_trusts k) (F_emptied k)) := by kernel_rfl
theorem v_step (k : Nat) : F_step (k + 1) = funF 6 3 (n_step (F_brought k) (F_wanted k)) := by kernel_rfl
theorem v_deeds_of (k : Nat) : F_deeds_of (k + 1) = funF 6 2 (n_deeds_of (F_step k)) := by kernel_rfl
theorem v_is_possible (k : Nat) : F_is_possible (k + 1) = funF 3 3 (n_is_possible (F_deeds_of k)) := by kernel_rfl
theorem v_first_stand (k : Nat) : F_first_stand (k + 1) = funF 1 1 (n_first_stand (F_need_kitchen k) (F_begun k)) := by kernel_rfl
theorem v_deeds_at (k : Nat) : F_deeds_at (k + 1) = funF 2 2 (n_deeds_at (F_need_kitchen k) (F_need_stand k) (F_deeds_of k)) := by kernel_rfl
theorem v_after (k : Nat) : F_after (k + 1) = funF 3 3 (n_after (F_need_kitchen k) (F_need_stand k) (F_is_possible k) (F_step k)) := by kernel_rfl
theorem v__law_source (k : Nat) : F__law_source (k + 1) = funF 4 2 (n__law_source) := by kernel_rfl
theorem v__law_pick (k : Nat) : F__law_pick (k + 1) = funF 3 2 (n__law_pick) := by kernel_rfl
theorem v__law_chosen (k : Nat) : F__law_chosen (k + 1) = funF 2 2 (n__law_chosen (F__law_pick k)) := by kernel_rfl
theorem v__law_table (k : Nat) : F__law_table (k + 1) = funF 1 0 (n__law_table) := by kernel_rfl
theorem v__law_somebody (k : Nat) : F__law_somebody (k + 1) = funF 3 1 (n__law_somebody (F__law_table k) (F__law_chosen k) (F__law_pick k)) := by kernel_rfl
theorem v__law_house (k : Nat) : F__law_house (k + 1) = funF 4 2 (n__law_house (F__law_pick k) (F__law_somebody k) (F__law_chosen k)) := by kernel_rfl
theorem v__law_spots (k : Nat) : F__law_spots (k + 1) = funF 6 1 (n__law_spots) := by kernel_rfl
theorem v__law_sure (k : Nat) : F__law_sure (k + 1) = funF 4 2 (n__law_sure) := by kernel_rfl
theorem v__law_run (k : Nat) : F__law_run (k + 1) = funF 7 5 (n__law_run) := by kernel_rfl
theorem v__law_cleared (k : Nat) : F__law_cleared (k + 1) = funF 6 5 (n__law_cleared) := by kernel_rfl
theorem v__law_bring (k : Nat) : F__law_bring (k + 1) = funF 12 4 (n__law_bring (F__law_sure k) (F__law_cleared k) (F__law_run k)) := by kernel_rfl
theorem v__law_want (k : Nat) : F__law_want (k + 1) = funF 7 4 (n__law_want (F__law_sure k) (F__law_cleared k)) := by kernel_rfl
theorem v__law_next (k : Nat) : F__law_next (k + 1) = funF 4 3 (n__law_next (F__law_bring k) (F__law_want k)) := by kernel_rfl
theorem v__law_all_deeds (k : Nat) : F__law_all_deeds (k + 1) = funF 9 2 (n__law_all_deeds (F__law_next k)) := by kernel_rfl
theorem v__law_first (k : Nat) : F__law_first (k + 1) = funF 1 1 (n__law_first) := by kernel_rfl
theorem v__law_outcome (k : Nat) : F__law_outcome (k + 1) = funF 4 4 (n__law_outcome_k11 tbl.sub (F_deeds_at k) (F_after k)) := by kernel_rfl
theorem v_law (k : Nat) : F_law (k + 1) = funF 14 1 (n_law_k11 (F__law_source k) (F__law_house k) (F_first_stand k) (F__law_first k) (F__law_spots k) (F__law_all_deeds k) (F__law_outcome k) (F__law_next k) (F_after k)) := by kernel_rfl
end K11


/-! H_k11 -/
set_option Elab.async false
set_option linter.all false
set_option maxRecDepth 100000
set_option maxHeartbeats 0
namespace K11
open PySem PySem.W PySem.Calls PyProof.Rows
abbrev R : OpenRow := OpenLaw.row PySem.Challenge.rw_cleanordirty_k11_what_deeds_do
abbrev qv : Program := view R.prog [48]
def names : List PySem.Str := ([(PySem.Str.ofString "KitchenError"), (PySem.Str.ofString "InvalidKitchen"), (PySem.Str.ofString "InvalidStand"), (PySem.Str.ofString "InvalidDeed"), (PySem.Str.ofString "SIGNS"), (PySem.Str.ofString "LOOKS"), (PySem.Str.ofString "CHOICES"), (PySem.Str.ofString "MOST_PLACES"), (PySem.Str.ofString "MOST_HABITS"), (PySem.Str.ofString "is_whole"), (PySem.Str.ofString "is_word"), (PySem.Str.ofString "is_right_habit"), (PySem.Str.ofString "is_right_kitchen"), (PySem.Str.ofString "is_right_stand"), (PySem.Str.ofString "trusts")] : List PySem.Str) ++ ([(PySem.Str.ofString "need_kitchen"), (PySem.Str.ofString "need_stand"), (PySem.Str.ofString "begun"), (PySem.Str.ofString "started"), (PySem.Str.ofString "emptied"), (PySem.Str.ofString "brought"), (PySem.Str.ofString "wanted"), (PySem.Str.ofString "step"), (PySem.Str.ofString "deeds_of"), (PySem.Str.ofString "is_possible"), (PySem.Str.ofString "first_stand"), (PySem.Str.ofString "deeds_at"), (PySem.Str.ofString "after"), (PySem.Str.ofString "_law_source"), (PySem.Str.ofString "_law_pick")] : List PySem.Str) ++ ([(PySem.Str.ofString "_law_chosen"), (PySem.Str.ofString "_law_table"), (PySem.Str.ofString "_law_somebody"), (PySem.Str.ofString "_law_house"), (PySem.Str.ofString "_law_spots"), (PySem.Str.ofString "_law_sure"), (PySem.Str.ofString "_law_run"), (PySem.Str.ofString "_law_cleared"), (PySem.Str.ofString "_law_bring"), (PySem.Str.ofString "_law_want"), (PySem.Str.ofString "_law_next"), (PySem.Str.ofString "_law_all_deeds"), (PySem.Str.ofString "_law_first"), (PySem.Str.ofString "_law_outcome")] : List PySem.Str)
theorem run (w : World) : HandSHeadRun.RunEq R qv (Dn.hookC 4 tbl) (Dn.obC 4 tbl) 20000 names w := by
  intro os
  kernel_rfl

/-- the law, as read -/
def lawF : Dn.FT := Dn.funF d_law.N.length d_law.ps.length (Dn.denSs tbl.n (Dn.cnOf tbl (Dn.callF tbl 30) d_law) d_law.body)
def Plain : Prop := ∀ ns : List Int, ns.length ≤ 63 → ∃ st, lawF [.lst (ns.map Dn.D.int)] [] = .ok (.val (.bl true)) st
theorem law_mem : d_law ∈ tbl.defs := List.mem_append_right _ (by simp)
theorem nocell : ∀ y ∈ d_law.sc.names, y.2 ≠ .cell := by
  have h : d_law.sc.names.all (fun y => !decide (y.2 = .cell)) = true := by kernel_rfl
  intro y hy
  have := List.all_eq_true.mp h y hy
  simpa using this
theorem holds (hP : Plain) : PySem.Challenge.rw_cleanordirty_k11_what_deeds_do.Holds := by
  w_on; o_law
  refine HandSHeadRun.head_any (r := R) (q := qv) (H := Dn.hookC 4 tbl) (ob := Dn.obC 4 tbl) (M := 20000) (loose := names) (d := HandSHeadRun.topDef R.prog 48) (kwd := []) Dn.obC_eq
    (by kernel_rfl) (fun s => by kernel_rfl) run (by kernel_rfl) (by kernel_rfl) (by kernel_rfl) (by rfl) (by first | assumption | decide +kernel) (by decide +kernel) ⟨rfl, rfl, rfl, rfl, rfl, by decide +kernel⟩ ?hw ?hc
  case hw => w_witness2
  case hc =>
    refine L2.walk_ofE (l := PySem.Challenge.rw_cleanordirty_k11_what_deeds_do) (n := 63) (k := 31) (x := "script") (CX := C8.CX0) rfl (by decide) (by kernel_rfl) ⟨rfl, by decide, by decide⟩ ?F (fun _ _ _ _ z => z)
    intro w mg fa h Y G hmg0
    obtain ⟨K, KX, c⟩ := Y
    have hmg : mg ("law" : PySem.Str) = some (.ref fa) := by
      have e : (HandSHeadRun.topDef R.prog 48).name = ("law" : PySem.Str) := by kernel_rfl
      rw [← e]
      exact hmg0
    obtain ⟨fd, FD⟩ := c.1.defs (d := Dn.defD d_law) (List.mem_map.mpr ⟨d_law, law_mem, rfl⟩)
    have M := Dn.modOk (w := w) KX G c binds scs
    have e := hmg.symm.trans (He.glo_ok KX G (c.1.facts (f := .glo "law") (List.mem_append_left _ (List.mem_map.mpr ⟨d_law, law_mem, rfl⟩))))
    have b := L2.FunD.bindsA (ps := ["script"]) FD fun kV doc pm an cdv ct us hl => b_law kV doc pm an cdv ct us hl
    obtain ⟨oc, od, dV, kV, doc, pm, an, cdv, ct, osl, rfl, lk, hcd, hD, hK⟩ := FD.ex
    cases e
    exact ⟨K, _, Dn.spScript K 63, KX, fun s v => b s [v] rfl, fun H a ns hl _ hS => ⟨a, ns, rfl, hl, hS, fun _ => rfl⟩, fun base hb hG => Dn.law_ok (Dn.law_fn (Dn.modOk hb hG c binds scs) law_mem nocell lk hcd) hP⟩
end K11


/-! C_k11 -/
set_option Elab.async false
set_option linter.all false
set_option maxRecDepth 100000
namespace K11
open PySem PySem.Spec PyProof.Rows L2 Dn Pn
theorem c_Sp_law_source___law_source : ∀ k, 1 ≤ k → Sp_law_source (F__law_source k)
  | 0, h => absurd h (by omega)
  | k + 1, h => by
    rw [v__law_source]
    exact sp_law_source 
theorem c_Sp_law_pick___law_pick : ∀ k, 1 ≤ k → Sp_law_pick (F__law_pick k)
  | 0, h => absurd h (by omega)
  | k + 1, h => by
    rw [v__law_pick]
    exact sp_law_pick 
theorem c_Dp_pick___law_pick : ∀ k, 1 ≤ k → Dp_pick (F__law_pick k) := fun k h => dp_pick (c_Sp_law_pick___law_pick k h)
theorem c_Sp_law_table___law_table : ∀ k, 1 ≤ k → Sp_law_table (F__law_table k)
  | 0, h => absurd h (by omega)
  | k + 1, h => by
    rw [v__law_table]
    exact sp_law_table 
theorem c_Sp_law_chosen___law_chosen : ∀ k, 2 ≤ k → Sp_law_chosen (F__law_chosen k)
  | 0, h => absurd h (by omega)
  | k + 1, h => by
    rw [v__law_chosen]
    exact sp_law_chosen (c_Sp_law_pick___law_pick k (by omega))
theorem c_Dp_chosen___law_chosen : ∀ k, 2 ≤ k → Dp_chosen (F__law_chosen k) := fun k h => dp_chosen (c_Sp_law_chosen___law_chosen k h)
theorem c_Dp_somebody___law_somebody : ∀ k, 3 ≤ k → Dp_somebody (F__law_somebody k)
  | 0, h => absurd h (by omega)
  | k + 1, h => by
    rw [v__law_somebody]
    exact dp_somebody (c_Sp_law_table___law_table k (by omega)) (c_Dp_chosen___law_chosen k (by omega)) (c_Dp_pick___law_pick k (by omega))
theorem c_Dp_house___law_house : ∀ k, 4 ≤ k → Dp_house (F__law_house k)
  | 0, h => absurd h (by omega)
  | k + 1, h => by
    rw [v__law_house]
    exact dp_house (c_Dp_pick___law_pick k (by omega)) (c_Dp_somebody___law_somebody k (by omega)) (c_Dp_chosen___law_chosen k (by omega))
theorem c_Sp_is_whole__is_whole : ∀ k, 1 ≤ k → Sp_is_whole (F_is_whole k)
  | 0, h => absurd h (by omega)
  | k + 1, h => by
    rw [v_is_whole]
    exact sp_is_whole 
theorem c_Sp_is_word__is_word : ∀ k, 1 ≤ k → Sp_is_word (F_is_word k)
  | 0, h => absurd h (by omega)
  | k + 1, h => by
    rw [v_is_word]
    exact sp_is_word 
theorem c_Sp_is_right_habit__is_right_habit : ∀ k, 2 ≤ k → Sp_is_right_habit (F_is_right_habit k)
  | 0, h => absurd h (by omega)
  | k + 1, h => by
    rw [v_is_right_habit]
    exact sp_is_right_habit (c_Sp_is_word__is_word k (by omega))
theorem c_Sp_is_right_kitchen__is_right_kitchen : ∀ k, 3 ≤ k → Sp_is_right_kitchen (F_is_right_kitchen k)
  | 0, h => absurd h (by omega)
  | k + 1, h => by
    rw [v_is_right_kitchen]
    exact sp_is_right_kitchen (c_Sp_is_whole__is_whole k (by omega)) (c_Sp_is_word__is_word k (by omega)) (c_Sp_is_right_habit__is_right_habit k (by omega))
theorem c_Sp_need_kitchen__need_kitchen : ∀ k, 4 ≤ k → Sp_need_kitchen (F_need_kitchen k)
  | 0, h => absurd h (by omega)
  | k + 1, h => by
    rw [v_need_kitchen]
    exact sp_need_kitchen (c_Sp_is_right_kitchen__is_right_kitchen k (by omega))
theorem c_Sp_begun__begun : ∀ k, 1 ≤ k → Sp_begun (F_begun k)
  | 0, h => absurd h (by omega)
  | k + 1, h => by
    rw [v_begun]
    exact sp_begun 
theorem c_Sp_first_stand__first_stand : ∀ k, 5 ≤ k → Sp_first_stand (F_first_stand k)
  | 0, h => absurd h (by omega)
  | k + 1, h => by
    rw [v_first_stand]
    exact sp_first_stand (c_Sp_need_kitchen__need_kitchen k (by omega)) (c_Sp_begun__begun k (by omega))
theorem c_Sp_law_first___law_first : ∀ k, 1 ≤ k → Sp_law_first (F__law_first k)
  | 0, h => absurd h (by omega)
  | k + 1, h => by
    rw [v__law_first]
    exact sp_law_first 
theorem c_Sp_law_spots___law_spots : ∀ k, 1 ≤ k → Sp_law_spots (F__law_spots k)
  | 0, h => absurd h (by omega)
  | k + 1, h => by
    rw [v__law_spots]
    exact sp_law_spots 
theorem c_Sp_law_sure___law_sure : ∀ k, 1 ≤ k → Sp_law_sure (F__law_sure k)
  | 0, h => absurd h (by omega)
  | k + 1, h => by
    rw [v__law_sure]
    exact sp_law_sure 
theorem c_Sp_law_cleared___law_cleared : ∀ k, 1 ≤ k → Sp_law_cleared (F__law_cleared k)
  | 0, h => absurd h (by omega)
  | k + 1, h => by
    rw [v__law_cleared]
    exact sp_law_cleared 
theorem c_Sp_law_run___law_run : ∀ k, 1 ≤ k → Sp_law_run (F__law_run k)
  | 0, h => absurd h (by omega)
  | k + 1, h => by
    rw [v__law_run]
    exact sp_law_run 
theorem c_Sp_law_bring___law_bring : ∀ k, 2 ≤ k → Sp_law_bring (F__law_bring k)
  | 0, h => absurd h (by omega)
  | k + 1, h => by
    rw [v__law_bring]
    exact sp_law_bring (c_Sp_law_sure___law_sure k (by omega)) (c_Sp_law_cleared___law_cleared k (by omega)) (c_Sp_law_run___law_run k (by omega))
theorem c_Sp_law_want___law_want : ∀ k, 2 ≤ k → Sp_law_want (F__law_want k)
  | 0, h => absurd h (by omega)
  | k + 1, h => by
    rw [v__law_want]
    exact sp_law_want (c_Sp_law_sure___law_sure k (by omega)) (c_Sp_law_cleared___law_cleared k (by omega))
theorem c_Sp_law_next___law_next : ∀ k, 3 ≤ k → Sp_law_next (F__law_next k)
  | 0, h => absurd h (by omega)
  | k + 1, h => by
    rw [v__law_next]
    exact sp_law_next (c_Sp_law_bring___law_bring k (by omega)) (c_Sp_law_want___law_want k (by omega))
theorem c_Sp_law_all_deeds___law_all_deeds : ∀ k, 4 ≤ k → Sp_law_all_deeds (F__law_all_deeds k)
  | 0, h => absurd h (by omega)
  | k + 1, h => by
    rw [v__law_all_deeds]
    exact sp_law_all_deeds (c_Sp_law_next___law_next k (by omega))
theorem c_SbOk_k11 : SbOk_k11 tbl.sub := by constructor <;> kernel_rfl
theorem c_Sp_is_right_stand__is_right_stand : ∀ k, 1 ≤ k → Sp_is_right_stand (F_is_right_stand k)
  | 0, h => absurd h (by omega)
  | k + 1, h => by
    rw [v_is_right_stand]
    exact sp_is_right_stand 
theorem c_Sp_need_stand__need_stand : ∀ k, 2 ≤ k → Sp_need_stand (F_need_stand k)
  | 0, h => absurd h (by omega)
  | k + 1, h => by
    rw [v_need_stand]
    exact sp_need_stand (c_Sp_is_right_stand__is_right_stand k (by omega))
theorem c_Sp_trusts__trusts : ∀ k, 1 ≤ k → Sp_trusts (F_trusts k)
  | 0, h => absurd h (by omega)
  | k + 1, h => by
    rw [v_trusts]
    exact sp_trusts 
theorem c_Sp_emptied__emptied : ∀ k, 1 ≤ k → Sp_emptied (F_emptied k)
  | 0, h => absurd h (by omega)
  | k + 1, h => by
    rw [v_emptied]
    exact sp_emptied 
theorem c_Sp_started__started : ∀ k, 1 ≤ k → Sp_started (F_started k)
  | 0, h => absurd h (by omega)
  | k + 1, h => by
    rw [v_started]
    exact sp_started 
theorem c_Sp_brought__brought : ∀ k, 2 ≤ k → Sp_brought (F_brought k)
  | 0, h => absurd h (by omega)
  | k + 1, h => by
    rw [v_brought]
    exact sp_brought (c_Sp_trusts__trusts k (by omega)) (c_Sp_emptied__emptied k (by omega)) (c_Sp_started__started k (by omega))
theorem c_Sp_wanted__wanted : ∀ k, 2 ≤ k → Sp_wanted (F_wanted k)
  | 0, h => absurd h (by omega)
  | k + 1, h => by
    rw [v_wanted]
    exact sp_wanted (c_Sp_trusts__trusts k (by omega)) (c_Sp_emptied__emptied k (by omega))
theorem c_Sp_step__step : ∀ k, 3 ≤ k → Sp_step (F_step k)
  | 0, h => absurd h (by omega)
  | k + 1, h => by
    rw [v_step]
    exact sp_step (c_Sp_brought__brought k (by omega)) (c_Sp_wanted__wanted k (by omega))
theorem c_Sp_deeds_of__deeds_of : ∀ k, 4 ≤ k → Sp_deeds_of (F_deeds_of k)
  | 0, h => absurd h (by omega)
  | k + 1, h => by
    rw [v_deeds_of]
    exact sp_deeds_of (c_Sp_step__step k (by omega))
theorem c_Sp_deeds_at__deeds_at : ∀ k, 5 ≤ k → Sp_deeds_at (F_deeds_at k)
  | 0, h => absurd h (by omega)
  | k + 1, h => by
    rw [v_deeds_at]
    exact sp_deeds_at (c_Sp_need_kitchen__need_kitchen k (by omega)) (c_Sp_need_stand__need_stand k (by omega)) (c_Sp_deeds_of__deeds_of k (by omega))
theorem c_Sp_is_possible__is_possible : ∀ k, 5 ≤ k → Sp_is_possible (F_is_possible k)
  | 0, h => absurd h (by omega)
  | k + 1, h => by
    rw [v_is_possible]
    exact sp_is_possible (c_Sp_deeds_of__deeds_of k (by omega))
theorem c_Sp_after__after : ∀ k, 6 ≤ k → Sp_after (F_after k)
  | 0, h => absurd h (by omega)
  | k + 1, h => by
    rw [v_after]
    exact sp_after (c_Sp_need_kitchen__need_kitchen k (by omega)) (c_Sp_need_stand__need_stand k (by omega)) (c_Sp_is_possible__is_possible k (by omega)) (c_Sp_step__step k (by omega))
theorem c_Sp_law_outcome_k11___law_outcome : ∀ k, 7 ≤ k → Sp_law_outcome_k11 (F__law_outcome k)
  | 0, h => absurd h (by omega)
  | k + 1, h => by
    rw [v__law_outcome]
    exact sp_law_outcome_k11 c_SbOk_k11 (c_Sp_deeds_at__deeds_at k (by omega)) (c_Sp_after__after k (by omega))
theorem c_Pl__law : ∀ k, 8 ≤ k → Pl (F_law k)
  | 0, h => absurd h (by omega)
  | k + 1, h => by
    rw [v_law]
    exact sp_law_k11 (c_Sp_law_source___law_source k (by omega)) (c_Dp_house___law_house k (by omega)) (c_Sp_first_stand__first_stand k (by omega)) (c_Sp_law_first___law_first k (by omega)) (c_Sp_law_spots___law_spots k (by omega)) (c_Sp_law_all_deeds___law_all_deeds k (by omega)) (c_Sp_law_outcome_k11___law_outcome k (by omega)) (c_Sp_law_next___law_next k (by omega)) (c_Sp_after__after k (by omega))
theorem plain : Plain := fun ns hns => by
  obtain ⟨r, st, e, h⟩ := (c_Pl__law 30 (by decide) ns hns).eq
  refine ⟨st, ?_⟩
  rw [← h]
  exact e
end K11


set_option maxRecDepth 100000 in
set_option maxHeartbeats 0 in
theorem PySem.Challenge.cw_cleanordirty_k11_what_deeds_do_holds : PySem.Challenge.rw_cleanordirty_k11_what_deeds_do.Holds := by
  exact K11.holds K11.plain
